import PyProof.Rows.All
import Wide.All
import OpenK.AllK
import Wide.FinOn
import KE.DataMinMax
import KE.DataAny
import KE.DataFind
import KE.SortData
import HandS.ForMost
import HandS.Lambda
import HandS.ExcIs
import HandS.TupAny
import HandS.TupMul
import HandS.Wide
import HandS.Style
import HandS.Conv
import HandS.TupLen
import HandS.IsInst
import KE.KTupSum
import PyProof.ReprRoads
import HandS.Deep
import HandS.CallLocal
import HandS.ExcOwn
import HandS.EndTab
import HandS.Zip
import HandS.Iter
import HandS.Walk
import PyProof.EnumFor
import HandS.Small
import KE.KExcSuper
import HandS.Exc
import KE.KDictDisplayH
import HandS.WordsExc
import HandS.HeadWalk
import HandS.HeadHook4
import HandS.Head2
import HandS.HeadEnd
import KE.KStateDown
import HandS.Head0
import HandS.Head1
import KE.DatumOrd
import PySem.Challenge.RW_fewrows_k96_whole_q_rows
set_option Elab.async false
set_option linter.all false
/-! Pev: a small evaluator for the Python subset of these texts, over the library's PyData. -/
namespace Pev
open PySem

abbrev PD := PyData

/-! ### the values of slots, outcomes -/
inductive Val where
  | dat (d : PD) | fn (f : Nat) | hnd | exn (c : Nat) | scr (ns : List Int) | lmb
inductive Slot where
  | emp | val (v : Val) | own (d : PD)
structure S where
  ρ : List Slot
  h : Option (List PD)
inductive Out (α : Type) where
  | ok (a : α) (s : S) | exc (c : Nat) (h : Option (List PD)) | bad
structure RV where
  v : Val
  fr : Bool
def Out.bind {α β : Type} (o : Out α) (f : α → S → Out β) : Out β := match o with
  | .ok a s => f a s
  | .exc c h => .exc c h
  | .bad => .bad
/-- what a call gives -/
inductive FO where
  | ret (v : Val) (fr : Bool) (h : Option (List PD)) | exc (c : Nat) (h : Option (List PD)) | bad
inductive SOut where
  | nxt (s : S) | ret (rv : RV) (s : S) | exc (c : Nat) (h : Option (List PD)) | bad

/-! ### the code -/
inductive Bo where | add | sub | mul | fdiv | mod | pow | shl | shr | band | bor | bxor
inductive Co where | eq | ne | lt | le | gt | ge | is | isn | inn | nin
inductive Bf where | len | tuple | list | sum | min1 | max1 | min2 | max2 | sorted | all | any | abs | int | isInt | isBool | isTuple | isStr | isList | isDict | dict | repr | lrng
inductive Mt where | count | index | get2
/-- what is done with a tried value -/
inductive Tk where | drop | ret | set (j : Nat)
inductive Tgt where | nm (i : Nat) | tp (is : List Nat)
mutual
inductive IE where
  | var (i : Nat) | cst (d : PD) | fn (f : Nat)
  | bin (o : Bo) (a b : IE) | neg (a : IE)
  | cmp (o : Co) (a b : IE) | chn (o1 o2 : Co) (a b c : IE)
  | and (a b : IE) | or (a b : IE) | not (a : IE) | ite (c : IT) (a b : IE)
  | tup (es : IEs) | lst (es : IEs) | dnil | dic (k v : IE)
  | sub (a i : IE) | slc (a : IE) (lo hi : IO) | rev (a : IE)
  | call (f : Nat) (es : IEs) | calv (i : Nat) (es : IEs) | lam (f : Nat) (b : IE) | act (i : Nat)
  | blt (b : Bf) (es : IEs) | mth (m : Mt) (a : IE) (es : IEs)
  | pop0 (i : Nat) | pop (i : Nat) (k : IE)
  | isx (i : Nat) (cs : List Bool) | scut (i n : Nat)
  | lc (elt : IE) (tg : Tgt) (src : IR) (ifs : IT) (own : List Nat)
inductive IEs where
  | nil | cons (e : IE) (es : IEs)
inductive IT where
  | val (e : IE) | and (a b : IT) | or (a b : IT) | not (a : IT) | yes
inductive IO where
  | no | yes (e : IE)
inductive IR where
  | seq (e : IE) | rng1 (a : IE) | rng2 (a b : IE) | enm (e : IE) | zip (a b : IE)
end
mutual
inductive IS where
  | asg (tg : Tgt) (e : IE)
  | par (is : List Nat) (es : IEs)
  | sset (i : Nat) (k e : IE)
  | sset2 (i : Nat) (k l e : IE)
  | psub (i : Nat) (k : IE) (j : Nat) (l : IE) (a b : IE)
  | app (i : Nat) (e : IE) | ext (i : Nat) (e : IE)
  | exp (e : IE)
  | ifs (c : IT) (t e : IB)
  | fors (tg : Tgt) (src : IR) (b : IB)
  | forf (i : Nat) (fs : List Nat) (b : IB)
  | whl (c : IT) (b : IB)
  | ret (e : IE)
  | rse (c : Nat)
  | try1 (e : IE) (k : Tk) (i : Nat) (hb : IB)
  | mkh (i : Nat) (e : IE)
inductive IB where
  | nil | cons (st : IS) (b : IB)
end
structure FDef where
  np : Nat
  ns : Nat
  body : IB

/-! ### the plain operations on data -/
def asInts : List PD → Option (List Int)
  | [] => some []
  | .int i :: r => (asInts r).map (i :: ·)
  | _ :: _ => none
def asBools : List PD → Option (List Bool)
  | [] => some []
  | .bool b :: r => (asBools r).map (b :: ·)
  | _ :: _ => none
/-- a product that the model makes without asking for its size -/
def mulOk (i j : Int) : Bool := decide ((-(2 ^ 64) < i ∧ i < 2 ^ 64) ∨ (-(2 ^ 64) < j ∧ j < 2 ^ 64) ∨ (i.natAbs < 2 ^ 200 ∧ j.natAbs < 2 ^ 200))
def binop (o : Bo) (x y : PD) : Option (PD × Bool) := match o, x, y with
  | .add, .int i, .int j => some (.int (i + j), false)
  | .sub, .int i, .int j => some (.int (i - j), false)
  | .mul, .int i, .int j => if mulOk i j then some (.int (i * j), false) else none
  | .fdiv, .int i, .int j => if 0 < j ∧ j < 2 ^ 200 then some (.int (i / j), false) else if j < 0 ∧ -1073741824 < j then some (.int (i.fdiv j), false) else none
  | .mod, .int i, .int j => if 0 < j then some (.int (i % j), false) else if j < 0 then some (.int (i.fmod j), false) else none
  | .pow, .int i, .int j => if 0 ≤ j ∧ j ≤ 1000 ∧ i.natAbs < 2 ^ 64 then some (.int (i ^ j.toNat), false) else none
  | .shl, .int i, .int j => if 0 ≤ j ∧ j ≤ 1000 ∧ i.natAbs < 2 ^ 64 then some (.int (i * 2 ^ j.toNat), false) else none
  | .shr, .int i, .int j => if 0 ≤ j then some (.int (i / 2 ^ j.toNat), false) else none
  | .band, .int i, .int j => some (.int (Builtin.bitAnd i j), false)
  | .bor, .int i, .int j => some (.int (Builtin.bitOr i j), false)
  | .bxor, .int i, .int j => some (.int (Builtin.bitXor i j), false)
  | .add, .tuple xs, .tuple ys => if xs.length + ys.length ≤ 100000 then some (.tuple (xs ++ ys), false) else none
  | .add, .list xs, .list ys => if xs.length + ys.length ≤ 100000 then some (.list (xs ++ ys), true) else none
  | .mul, .tuple xs, .int k => if xs ≠ [] ∧ xs.length ≤ 1000 ∧ 0 ≤ k ∧ k ≤ 1000 then some (.tuple (List.replicate k.toNat xs).flatten, false) else none
  | .mul, .list xs, .int k => if xs.length ≤ 1000 ∧ 0 ≤ k ∧ k ≤ 1000 then some (.list (List.replicate k.toNat xs).flatten, true) else none
  | _, _, _ => none
/-- the place of an index -/
def ixAt {α : Type} (xs : List α) (i : Int) : Option Nat := if 0 ≤ i then (if i < xs.length then some i.toNat else none) else if -(xs.length : Int) ≤ i then some (i + xs.length).toNat else none
/-- keys: tuples of whole numbers and texts -/
def keyItem : PD → Option (Sum Int Str)
  | .int i => some (.inl i)
  | .str x => some (.inr x)
  | _ => none
def keyItems : List PD → Option (List (Sum Int Str))
  | [] => some []
  | d :: r => (keyItem d).bind fun k => (keyItems r).map (k :: ·)
def keyD : PD → Option (List (Sum Int Str))
  | .tuple xs => keyItems xs
  | _ => none
def dfind (kvs : List (PD × PD)) (k : PD) : Option PD := (kvs.find? fun p => PyData.eqv p.1 k).map (·.2)
def dput (kvs : List (PD × PD)) (k v : PD) : List (PD × PD) := if kvs.any (fun p => PyData.eqv p.1 k) then kvs.map (fun p => if PyData.eqv p.1 k then (p.1, v) else p) else kvs ++ [(k, v)]
def isKey (k : PD) : Bool := (keyD k).isSome
/-- all keys tuples -/
def tkeys (kvs : List (PD × PD)) : Bool := kvs.all fun p => isKey p.1
/-- a key that is a whole number or a text -/
def iKey (k : PD) : Bool := (keyItem k).isSome
def subop (x k : PD) : Option PD := match x, k with
  | .list xs, .int i => (ixAt xs i).bind fun j => xs[j]?
  | .tuple xs, .int i => (ixAt xs i).bind fun j => xs[j]?
  | .dict kvs, k => if isKey k && tkeys kvs then dfind kvs k else none
  | _, _ => none
/-- where a slice begins or ends -/
def cutIx (n : Nat) (dflt : Nat) : Option Int → Nat
  | none => dflt
  | some i => if 0 ≤ i then min i.toNat n else (i + n).toNat
def cutL {α : Type} (xs : List α) (lo hi : Option Int) : List α := (xs.drop (cutIx xs.length 0 lo)).take (cutIx xs.length xs.length hi - cutIx xs.length 0 lo)
def slcop (x : PD) (lo hi : Option Int) : Option (PD × Bool) := match x with
  | .list xs => some (.list (cutL xs lo hi), true)
  | .tuple xs => some (.tuple (cutL xs lo hi), false)
  | _ => none
def revop (x : PD) : Option (PD × Bool) := match x with
  | .list xs => some (.list xs.reverse, true)
  | .tuple xs => some (.tuple xs.reverse, false)
  | _ => none
def rngD (lo : Int) : Nat → List PD
  | 0 => []
  | n + 1 => .int lo :: rngD (lo + 1) n
/-- no dict within, nested no deeper than so -/
def shal : Nat → PD → Bool
  | _, .none => true
  | _, .bool _ => true
  | _, .int _ => true
  | _, .str _ => true
  | n + 1, .list xs => xs.all (shal n)
  | n + 1, .tuple xs => xs.all (shal n)
  | _, _ => false
/-- alike, none of them None, not empty tuples -/
def alikeB (xs : List PD) : Bool := xs.all fun x => xs.all fun y => W.alike x y
def noNone (xs : List PD) : Bool := xs.all fun x => match x with | .none => false | _ => true
def allTup1 (xs : List PD) : Bool := xs.all fun x => match x with | .tuple (_ :: _) => true | _ => false
def noTup (xs : List PD) : Bool := xs.all fun x => match x with | .tuple _ => false | .none => false | _ => true
def sortOk (xs : List PD) : Bool := alikeB xs && (allTup1 xs || noTup xs) && xs.all (shal 39) && decide (xs.length ≤ 100000)
def insD (x : PD) : List PD → List PD
  | [] => [x]
  | y :: ys => if !W.dataLt y x then x :: y :: ys else y :: insD x ys
def sortD : List PD → List PD
  | [] => []
  | x :: xs => insD x (sortD xs)
def eqop (x y : PD) : Option Bool := if shal 40 x && shal 40 y then some (PyData.eqv x y) else none
def intop (f : Int → Int → Bool) (x y : PD) : Option Bool := match x, y with
  | .int i, .int j => some (f i j)
  | _, _ => none
def isop (x y : PD) : Option Bool := match y with
  | .none => some (match x with | .none => true | _ => false)
  | .bool c => match x with
    | .bool b => some (b == c)
    | _ => none
  | _ => none
def inop (x y : PD) : Option Bool := match y with
  | .list ys => if shal 40 x && ys.all (shal 39) then some (ys.any fun y => PyData.eqv y x) else none
  | .tuple ys => if shal 40 x && ys.all (shal 39) then some (ys.any fun y => PyData.eqv y x) else none
  | .dict kvs => if isKey x && tkeys kvs then some (dfind kvs x).isSome else none
  | _ => none
def cmpop : Co → PD → PD → Option Bool
  | .eq, x, y => eqop x y
  | .ne, x, y => (eqop x y).map fun b => !b
  | .lt, x, y => intop (fun i j => decide (i < j)) x y
  | .le, x, y => intop (fun i j => decide (i ≤ j)) x y
  | .gt, x, y => intop (fun i j => decide (j < i)) x y
  | .ge, x, y => intop (fun i j => decide (j ≤ i)) x y
  | .is, x, y => isop x y
  | .isn, x, y => (isop x y).map fun b => !b
  | .inn, x, y => inop x y
  | .nin, x, y => (inop x y).map fun b => !b
def truthD : PD → Option Bool
  | .bool b => some b
  | .int i => some (i != 0)
  | .none => some false
  | .list xs => some (!xs.isEmpty)
  | .tuple xs => some (!xs.isEmpty)
  | _ => none
/-- what repr shows here: lists and tuples without dicts -/
def reprOk (d : PD) : Bool := (match d with | .list _ => true | .tuple _ => true | _ => false) && PyData.plain d && PyData.showable d && !PyData.hasDict d && decide (PyData.depth d ≤ 40) && decide ((PyData.shown d).length ≤ sizeLine)
def bltop (b : Bf) (xs : List PD) : Option (PD × Bool) := match b, xs with
  | .len, [.list xs] => some (.int xs.length, false)
  | .len, [.tuple xs] => some (.int xs.length, false)
  | .len, [.dict kvs] => if tkeys kvs then some (.int kvs.length, false) else none
  | .tuple, [.list xs] => some (.tuple xs, false)
  | .tuple, [.tuple xs] => some (.tuple xs, false)
  | .list, [.list xs] => some (.list xs, true)
  | .list, [.tuple xs] => some (.list xs, true)
  | .list, [.dict kvs] => if tkeys kvs then some (.list (kvs.map (·.1)), true) else none
  | .lrng, [.int n] => if n ≤ 100000 ∧ -100000 ≤ n then some (.list (rngD 0 n.toNat), true) else none
  | .sum, [.list xs] => (asInts xs).map fun ns => (.int ns.sum, false)
  | .sum, [.tuple xs] => (asInts xs).map fun ns => (.int ns.sum, false)
  | .min1, [.list (x :: xs)] => if alikeB (x :: xs) && noNone (x :: xs) && (x :: xs).all (shal 39) then some (W.minD x xs, false) else none
  | .max1, [.list (x :: xs)] => if alikeB (x :: xs) && noNone (x :: xs) && (x :: xs).all (shal 39) then some (W.maxD x xs, false) else none
  | .min1, [.tuple (x :: xs)] => if alikeB (x :: xs) && noNone (x :: xs) && (x :: xs).all (shal 39) then some (W.minD x xs, false) else none
  | .max1, [.tuple (x :: xs)] => if alikeB (x :: xs) && noNone (x :: xs) && (x :: xs).all (shal 39) then some (W.maxD x xs, false) else none
  | .min2, [.int i, .int j] => some (.int (if j < i then j else i), false)
  | .max2, [.int i, .int j] => some (.int (if j > i then j else i), false)
  | .sorted, [.list xs] => if sortOk xs then some (.list (sortD xs), true) else none
  | .sorted, [.dict kvs] => if tkeys kvs && sortOk (kvs.map (·.1)) then some (.list (sortD (kvs.map (·.1))), true) else none
  | .all, [.list xs] => (asBools xs).map fun bs => (.bool (bs.all id), false)
  | .any, [.list xs] => (asBools xs).map fun bs => (.bool (bs.any id), false)
  | .any, [.tuple xs] => (asInts xs).map fun ns => (.bool (ns.any (· != 0)), false)
  | .abs, [.int i] => some (.int (if i < 0 then -i else i), false)
  | .int, [.int i] => some (.int i, false)
  | .int, [.bool b] => some (.int (if b then 1 else 0), false)
  | .repr, [d] => if reprOk d then some (.str (PyData.shown d), false) else none
  | .isInt, [d] => some (.bool (match d with | .int _ => true | .bool _ => true | _ => false), false)
  | .isBool, [d] => some (.bool (match d with | .bool _ => true | _ => false), false)
  | .isTuple, [d] => some (.bool (match d with | .tuple _ => true | _ => false), false)
  | .isStr, [d] => some (.bool (match d with | .str _ => true | _ => false), false)
  | .isList, [d] => some (.bool (match d with | .list _ => true | _ => false), false)
  | .isDict, [d] => some (.bool (match d with | .dict _ => true | _ => false), false)
  | _, _ => none
def mthop (m : Mt) (x : PD) (as : List PD) : Option PD := match m, x, as with
  | .count, .list xs, [y] => if shal 40 y && xs.all (shal 39) then some (.int ((xs.countP fun x => PyData.eqv x y : Nat) : Int)) else none
  | .index, .list xs, [y] => if SeqAt.shaped (.list xs) && SeqAt.shaped y && PyData.plainAll xs && PyData.plain y then (xs.findIdx? fun z => PyData.eqv z y).map fun j => .int (j : Int) else none
  | .get2, .dict kvs, [k, .int j] => if isKey k && tkeys kvs then some ((dfind kvs k).getD (.int j)) else none
  | _, _, _ => none
/-- whose method it is -/
def mthd : Mt → Option PD → Bool
  | .count, some (.list _) => true
  | .index, some (.list _) => true
  | .get2, some (.dict kvs) => tkeys kvs
  | _, _ => false

/-! ### the machine -/
abbrev Calls := Nat → List Val → Option (List PD) → FO
abbrev Act := Option (List PD) → Option (Val × Option (List PD)) ⊕ (Nat × Option (List PD))
def rvD (d : PD) (fr : Bool := false) : RV := ⟨.dat d, fr⟩
def look (i : Nat) (s : S) : Out RV := match s.ρ[i]? with
  | some (.val v) => .ok ⟨v, false⟩ s
  | some (.own d) => .ok ⟨.dat d, false⟩ { s with ρ := s.ρ.set i (.val (.dat d)) }
  | _ => .bad
/-- an operand: a slot that is read when the operation comes, or a value -/
inductive Opd where | slot (i : Nat) | val (v : Val)
def resv (s : S) : Opd → Option PD
  | .slot i => match s.ρ[i]? with
    | some (.own d) => some d
    | some (.val (.dat d)) => some d
    | _ => none
  | .val (.dat d) => some d
  | .val .hnd => s.h.map .list
  | _ => none
def outD (o : Option (PD × Bool)) (s : S) : Out RV := match o with
  | some (d, fr) => .ok (rvD d fr) s
  | none => .bad
def outD0 (o : Option PD) (s : S) : Out RV := match o with
  | some d => .ok (rvD d) s
  | none => .bad
def outB (o : Option Bool) (s : S) : Out RV := match o with
  | some b => .ok (rvD (.bool b)) s
  | none => .bad
def ofFO (o : FO) (ρ : List Slot) : Out RV := match o with
  | .ret v fr h => .ok ⟨v, fr⟩ ⟨ρ, h⟩
  | .exc c h => .exc c h
  | .bad => .bad
def assignT (tg : Tgt) (d : PD) (s : S) : Option S := match tg, d with
  | .nm i, d => some { s with ρ := s.ρ.set i (.val (.dat d)) }
  | .tp is, .tuple xs => if is.length = xs.length then some { s with ρ := (is.zip xs).foldl (fun ρ p => ρ.set p.1 (.val (.dat p.2))) s.ρ } else none
  | .tp _, _ => none
def wipeS (ρ : List Slot) (own : List Nat) : List Slot := own.foldl (fun ρ i => ρ.set i .emp) ρ
/-- behind a comprehension: its own names as they were -/
def unwipe (ρ ρ' : List Slot) (own : List Nat) : List Slot := own.foldl (fun r i => r.set i (ρ[i]?.getD .emp)) ρ'
def isOwnL (i : Nat) (s : S) : Bool := match s.ρ[i]? with
  | some (.own (.list _)) => true
  | _ => false
def noOwnAt (ρ : List Slot) (i : Nat) : Bool := match ρ[i]? with
  | some (.own _) => false
  | _ => true
def zipD : List PD → List PD → List PD
  | x :: xs, y :: ys => .tuple [x, y] :: zipD xs ys
  | _, _ => []
def enumD : Nat → List PD → List PD
  | _, [] => []
  | k, x :: xs => .tuple [.int k, x] :: enumD (k + 1) xs
def seqOf : PD → Option (List PD)
  | .list xs => some xs
  | .tuple xs => some xs
  | _ => none
def lcLoop (body : S → Out (Option PD)) (tg : Tgt) (own : List Nat) : List PD → List PD → S → Out (List PD)
  | [], acc, s => .ok acc s
  | d :: ds, acc, s => match assignT tg d s with
    | none => .bad
    | some s1 => match body s1 with
      | .ok (some y) s2 => lcLoop body tg own ds (acc ++ [y]) { s2 with ρ := wipeS s2.ρ own }
      | .ok none s2 => lcLoop body tg own ds acc { s2 with ρ := wipeS s2.ρ own }
      | _ => .bad
def forLoop (body : S → SOut) (tg : Tgt) : List PD → S → SOut
  | [], s => .nxt s
  | d :: ds, s => match assignT tg d s with
    | none => .bad
    | some s1 => match body s1 with
      | .nxt s2 => forLoop body tg ds s2
      | o => o
def forfLoop (body : S → SOut) (i : Nat) : List Nat → S → SOut
  | [], s => .nxt s
  | f :: fs, s => match body { s with ρ := s.ρ.set i (.val (.fn f)) } with
    | .nxt s2 => forfLoop body i fs s2
    | o => o
def whlLoop (test : S → Out Bool) (body : S → SOut) : Nat → S → SOut
  | 0, _ => .bad
  | n + 1, s => match test s with
    | .ok true s1 => match body s1 with
      | .nxt s2 => whlLoop test body n s2
      | o => o
    | .ok false s1 => .nxt s1
    | .exc c h => .exc c h
    | .bad => .bad

def isLmb : Val → Bool
  | .lmb => true
  | _ => false
def toFO (o : Out RV) : FO := match o with
  | .ok x s => if isLmb x.v then .bad else .ret x.v x.fr s.h
  | .exc c h => .exc c h
  | .bad => .bad
def dropOwn : Slot → Slot
  | .own _ => .emp
  | x => x
def opdOf (e : IE) (r : Out RV) (s : S) : Out Opd := match e with
  | .var i => match s.ρ[i]? with
    | some (.own _) => .ok (.slot i) s
    | some (.val v) => .ok (.val v) s
    | _ => .bad
  | _ => r.bind fun x s => .ok (.val x.v) s
section
variable (call : Calls) (lamc : Nat → (Option (List PD) → FO) → Option (List PD) → FO) (actf : Option (List PD) → FO)
mutual
def ev : IE → S → Out RV
  | .var i, s => look i s
  | .cst d, s => .ok (rvD d) s
  | .fn f, s => .ok ⟨.fn f, false⟩ s
  | .bin o a b, s => (opdOf a (ev a s) s).bind fun x s => (opdOf b (ev b s) s).bind fun y s => match resv s x, resv s y with
    | some d, some e => outD (binop o d e) s
    | _, _ => .bad
  | .neg a, s => (opdOf a (ev a s) s).bind fun x s => match resv s x with
    | some (.int i) => .ok (rvD (.int (-i))) s
    | _ => .bad
  | .cmp o a b, s => (opdOf a (ev a s) s).bind fun x s => (opdOf b (ev b s) s).bind fun y s => match resv s x, resv s y with
    | some d, some e => outB (cmpop o d e) s
    | _, _ => .bad
  | .chn o1 o2 a b c, s => (opdOf a (ev a s) s).bind fun x s => (opdOf b (ev b s) s).bind fun y s => match resv s x, resv s y with
    | some (.int i), some (.int j) => match cmpop o1 (.int i) (.int j) with
      | some true => (opdOf c (ev c s) s).bind fun z s => match resv s z with
        | some (.int k) => outB (cmpop o2 (.int j) (.int k)) s
        | _ => .bad
      | some false => .ok (rvD (.bool false)) s
      | none => .bad
    | _, _ => .bad
  | .and a b, s => (ev a s).bind fun x s => match x.v with
    | .dat (.bool true) => ev b s
    | .dat (.bool false) => .ok (rvD (.bool false)) s
    | _ => .bad
  | .or a b, s => (ev a s).bind fun x s => match x.v with
    | .dat (.bool true) => .ok (rvD (.bool true)) s
    | .dat (.bool false) => ev b s
    | _ => .bad
  | .not a, s => (ev a s).bind fun x s => match x.v with
    | .dat (.bool b) => .ok (rvD (.bool (!b))) s
    | _ => .bad
  | .ite c a b, s => (tst c s).bind fun t s => if t then ev a s else ev b s
  | .tup es, s => (args es s).bind fun ds s => .ok (rvD (.tuple ds)) s
  | .lst es, s => (args es s).bind fun ds s => .ok (rvD (.list ds) true) s
  | .dnil, s => .ok (rvD (.dict []) true) s
  | .dic k v, s => (ev k s).bind fun x s => (ev v s).bind fun y s => match x.v, y.v with
    | .dat d, .dat e => if isKey d then .ok (rvD (.dict [(d, e)]) true) s else if iKey d then .ok (rvD (.dict [(d, e)])) s else .bad
    | _, _ => .bad
  | .sub a i, s => (opdOf a (ev a s) s).bind fun x s => (opdOf i (ev i s) s).bind fun y s => match resv s x, resv s y with
    | some d, some e => outD0 (subop d e) s
    | _, _ => .bad
  | .slc a lo hi, s => (opdOf a (ev a s) s).bind fun x s => (opt lo s).bind fun l s => (opt hi s).bind fun u s => match resv s x with
    | some d => outD (slcop d l u) s
    | _ => .bad
  | .rev a, s => (opdOf a (ev a s) s).bind fun x s => match resv s x with
    | some d => outD (revop d) s
    | _ => .bad
  | .call f es, s => (vals es s).bind fun vs s => ofFO (call f vs s.h) s.ρ
  | .calv i es, s => match s.ρ[i]? with
    | some (.val (.fn f)) => (vals es s).bind fun vs s => ofFO (call f vs s.h) s.ρ
    | _ => .bad
  | .lam f b, s => match lamc f (fun h => toFO (ev b ⟨s.ρ.map dropOwn, h⟩)) s.h with
    | .exc _ _ => .bad
    | o => ofFO o s.ρ
  | .act i, s => match s.ρ[i]? with
    | some (.val .lmb) => ofFO (actf s.h) s.ρ
    | _ => .bad
  | .blt b es, s => (opds es s).bind fun xs s => match xs.mapM (resv s) with
    | some ds => outD (bltop b ds) s
    | none => .bad
  | .mth m a es, s => (opdOf a (ev a s) s).bind fun x s => if mthd m (resv s x) then (opds es s).bind fun ys s => match resv s x, ys.mapM (resv s) with
      | some d, some ds => outD0 (mthop m d ds) s
      | _, _ => .bad
    else .bad
  | .pop0 i, s => match s.ρ[i]? with
    | some (.own (.list xs)) => match xs.getLast? with
      | some y => .ok (rvD y) { s with ρ := s.ρ.set i (.own (.list xs.dropLast)) }
      | none => .bad
    | _ => .bad
  | .pop i k, s => if isOwnL i s then (ev k s).bind fun x s => match x.v, s.ρ[i]? with
      | .dat (.int j), some (.own (.list xs)) => if -100000 ≤ j ∧ j ≤ 100000 then match ixAt xs j with
          | some n => match xs[n]? with
            | some y => .ok (rvD y) { s with ρ := s.ρ.set i (.own (.list (xs.eraseIdx n))) }
            | none => .bad
          | none => .bad
        else .bad
      | _, _ => .bad
    else .bad
  | .isx i cs, s => match s.ρ[i]? with
    | some (.val (.exn c)) => .ok (rvD (.bool (cs.getD c (cs.headD false)))) s
    | _ => .bad
  | .scut i n, s => match s.ρ[i]? with
    | some (.val (.scr ns)) => .ok (rvD (.list ((ns.take n).map .int)) true) s
    | _ => .bad
  | .lc elt tg src ifs own, s => (walk src s).bind fun ds s => if own.all (noOwnAt s.ρ) && decide (ds.length ≤ 100000) then
    (lcLoop (fun s => (tst ifs s).bind fun t s => if t then (ev elt s).bind fun x s => match x.v with
        | .dat d => .ok (some d) s
        | _ => .bad
      else .ok none s) tg own ds [] { s with ρ := wipeS s.ρ own }).bind fun ys s' => .ok (rvD (.list ys) true) { s' with ρ := unwipe s.ρ s'.ρ own }
    else .bad
def opds : IEs → S → Out (List Opd)
  | .nil, s => .ok [] s
  | .cons e es, s => (opdOf e (ev e s) s).bind fun x s => (opds es s).bind fun xs s => .ok (x :: xs) s
def vals : IEs → S → Out (List Val)
  | .nil, s => .ok [] s
  | .cons e es, s => (ev e s).bind fun x s => (vals es s).bind fun xs s => .ok (x.v :: xs) s
def args : IEs → S → Out (List PD)
  | .nil, s => .ok [] s
  | .cons e es, s => (ev e s).bind fun x s => (args es s).bind fun xs s => match x.v with
    | .dat d => .ok (d :: xs) s
    | _ => .bad
def opt : IO → S → Out (Option Int)
  | .no, s => .ok none s
  | .yes e, s => (ev e s).bind fun x s => match x.v with
    | .dat (.int i) => .ok (some i) s
    | _ => .bad
def walk : IR → S → Out (List PD)
  | .seq e, s => (ev e s).bind fun x s => match x.v with
    | .dat d => match seqOf d with
      | some ds => .ok ds s
      | none => .bad
    | _ => .bad
  | .rng1 a, s => (ev a s).bind fun x s => match x.v with
    | .dat (.int n) => if n ≤ 100000 ∧ -100000 ≤ n then .ok (rngD 0 n.toNat) s else .bad
    | _ => .bad
  | .rng2 a b, s => (ev a s).bind fun x s => (ev b s).bind fun y s => match x.v, y.v with
    | .dat (.int lo), .dat (.int n) => if n ≤ 100000 ∧ -100000 ≤ n ∧ -100000 ≤ lo ∧ lo ≤ 100000 then .ok (rngD lo (n - lo).toNat) s else .bad
    | _, _ => .bad
  | .enm e, s => (ev e s).bind fun x s => match x.v with
    | .dat (.list ds) => .ok (enumD 0 ds) s
    | .dat (.tuple ds) => .ok (enumD 0 ds) s
    | _ => .bad
  | .zip a b, s => (ev a s).bind fun x s => (ev b s).bind fun y s => match x.v, y.v with
    | .dat (.list ds), .dat (.list es) => .ok (zipD ds es) s
    | .dat (.tuple ds), .dat (.tuple es) => .ok (zipD ds es) s
    | _, _ => .bad
def tst : IT → S → Out Bool
  | .yes, s => .ok true s
  | .and a b, s => (tst a s).bind fun t s => if t then tst b s else .ok false s
  | .or a b, s => (tst a s).bind fun t s => if t then .ok true s else tst b s
  | .not a, s => (tst a s).bind fun t s => .ok (!t) s
  | .val e, s => (opdOf e (ev e s) s).bind fun x s => match resv s x with
    | some d => match truthD d with
      | some b => .ok b s
      | none => .bad
    | none => .bad
end
def noOwn (ρ : List Slot) : Bool := ρ.all fun x => match x with | .own _ => false | _ => true
def isExn : Val → Bool
  | .exn _ => true
  | _ => false
def noExn (ρ : List Slot) : Bool := ρ.all fun x => match x with | .val v => !isExn v | _ => true
def noLmb (ρ : List Slot) : Bool := ρ.all fun x => match x with | .val v => !isLmb v | _ => true
def Out.bindS {α : Type} (o : Out α) (f : α → S → SOut) : SOut := match o with
  | .ok a s => f a s
  | .exc c h => .exc c h
  | .bad => .bad
def SOut.bind (o : SOut) (f : S → SOut) : SOut := match o with
  | .nxt s => f s
  | o => o
/-- a value goes into a slot -/
def store (i : Nat) (x : RV) (s : S) : S := match x.fr, x.v with
  | true, .dat d => { s with ρ := s.ρ.set i (.own d) }
  | _, v => { s with ρ := s.ρ.set i (.val v) }
def storeAll : List Nat → List Val → S → Option S
  | [], [], s => some s
  | i :: is, v :: vs, s => storeAll is vs { s with ρ := s.ρ.set i (.val v) }
  | _, _, _ => none
def storeAllR : List Nat → List RV → S → Option S
  | [], [], s => some s
  | i :: is, x :: xs, s => storeAllR is xs (store i x s)
  | _, _, _ => none
def setop (c : PD) (k d : PD) : Option PD := match c, k with
  | .list xs, .int j => (ixAt xs j).map fun n => .list (xs.set n d)
  | .dict kvs, k => if isKey k && decide (kvs.length < 100000) then some (.dict (dput kvs k d)) else none
  | _, _ => none
def putIn (i : Nat) (k d : PD) (s : S) : SOut := match s.ρ[i]? with
  | some (.own c) => match setop c k d with
    | some c' => .nxt { s with ρ := s.ρ.set i (.own c') }
    | none => .bad
  | some (.val .hnd) => match s.h with
    | some ds => match setop (.list ds) k d with
      | some (.list ds') => .nxt { s with h := some ds' }
      | _ => .bad
    | none => .bad
  | _ => .bad
def canPut (i : Nat) (s : S) : Bool := match s.ρ[i]? with
  | some (.own _) => true
  | some (.val .hnd) => true
  | _ => false
def retv (e : IE) (r : Out RV) (s : S) : SOut := match e with
  | .var i => match s.ρ[i]? with
    | some (.own d) => .ret (rvD d true) s
    | some (.val v) => .ret ⟨v, false⟩ s
    | _ => .bad
  | _ => r.bindS fun x s => .ret x s
/-- values, and which of them nobody else holds -/
def rvals : IEs → S → Out (List RV)
  | .nil, s => .ok [] s
  | .cons e es, s => (ev call lamc actf e s).bind fun x s => (rvals es s).bind fun xs s => .ok (x :: xs) s
/-- a value put at a place of an owned list -/
def putE (i : Nat) (k : IE) (d : PD) (s : S) : SOut := if isOwnL i s then match ev call lamc actf k s with
    | .ok y s => match y.v, s.ρ[i]? with
      | .dat (.int j), some (.own (.list xs)) => match ixAt xs j with
        | some n => .nxt { s with ρ := s.ρ.set i (.own (.list (xs.set n d))) }
        | none => .bad
      | _, _ => .bad
    | _ => .bad
  else .bad
variable (wf : Nat)
mutual
def evS : IS → S → SOut
  | .asg (.nm i) e, s => (ev call lamc actf e s).bindS fun x s => .nxt (store i x s)
  | .asg (.tp is) e, s => (ev call lamc actf e s).bindS fun x s => match x.v with
    | .dat d => match assignT (.tp is) d s with
      | some s1 => .nxt s1
      | none => .bad
    | _ => .bad
  | .par is es, s => (rvals call lamc actf es s).bindS fun vs s => match storeAllR is vs s with
    | some s1 => .nxt s1
    | none => .bad
  | .sset i k e, s => (ev call lamc actf e s).bindS fun x s => if canPut i s then (ev call lamc actf k s).bindS fun y s => match x.v, y.v with
      | .dat d, .dat k => putIn i k d s
      | _, _ => .bad
    else .bad
  | .sset2 _ _ _ _, _ => .bad
  | .psub i k j l a b, s => (vals call lamc actf (.cons a (.cons b .nil)) s).bindS fun vs s => match vs with
    | [.dat d, .dat e] => (putE call lamc actf i k d s).bind fun s => putE call lamc actf j l e s
    | _ => .bad
  | .app i e, s => if isOwnL i s then (ev call lamc actf e s).bindS fun x s => match x.v, s.ρ[i]? with
      | .dat d, some (.own (.list xs)) => if xs.length < 100000 then .nxt { s with ρ := s.ρ.set i (.own (.list (xs ++ [d]))) } else .bad
      | _, _ => .bad
    else .bad
  | .ext i e, s => if isOwnL i s then (ev call lamc actf e s).bindS fun x s => match x.v, s.ρ[i]? with
      | .dat (.list ds), some (.own (.list xs)) => if xs.length + ds.length < 100000 then .nxt { s with ρ := s.ρ.set i (.own (.list (xs ++ ds))) } else .bad
      | _, _ => .bad
    else .bad
  | .exp e, s => (ev call lamc actf e s).bindS fun _ s => .nxt s
  | .ifs c t e, s => (tst call lamc actf c s).bindS fun b s => if b then evB t s else evB e s
  | .fors tg src b, s => (walk call lamc actf src s).bindS fun ds s => forLoop (evB b) tg ds s
  | .forf i fs b, s => forfLoop (evB b) i fs s
  | .whl c b, s => whlLoop (tst call lamc actf c) (evB b) wf s
  | .ret e, s => retv e (ev call lamc actf e s) s
  | .rse c, s => .exc c s.h
  | .try1 e k i hb, s => if noOwn s.ρ then match ev call lamc actf e s with
      | .ok x s1 => match k with
        | .drop => .nxt s1
        | .ret => .ret x s1
        | .set j => .nxt (store j x s1)
      | .exc c' h => match evB hb ⟨s.ρ.set i (.val (.exn c')), h⟩ with
        | .nxt s2 => if noExn (s2.ρ.set i .emp) then .nxt { s2 with ρ := s2.ρ.set i .emp } else .bad
        | .ret x s2 => if isExn x.v then .bad else .ret x s2
        | _ => .bad
      | .bad => .bad
    else .bad
  | .mkh i e, s => match s.h with
    | none => (ev call lamc actf e s).bindS fun x s => match x.fr, x.v with
      | true, .dat (.list ds) => if noLmb s.ρ then .nxt ⟨s.ρ.set i (.val .hnd), some ds⟩ else .bad
      | _, _ => .bad
    | some _ => .bad
def evB : IB → S → SOut
  | .nil, s => .nxt s
  | .cons st b, s => (evS st s).bind fun s => evB b s
end
end
/-- a list that a frame has made to be the shared one is its own -/
def dropH (h0 h : Option (List PD)) : Option (List PD) := match h0 with
  | none => none
  | some _ => h
/-- a call: the fuel tells how deep calls may lie -/
def toCall (h0 : Option (List PD)) (o : SOut) : FO := match o with
  | .nxt s => .ret (.dat .none) false (dropH h0 s.h)
  | .ret x s => match h0, x.v with
    | none, .hnd => .bad
    | _, .lmb => .bad
    | _, v => .ret v x.fr (dropH h0 s.h)
  | .exc c h => .exc c (dropH h0 h)
  | .bad => .bad
section
variable (T : Nat → Option FDef) (wf : Nat)
def frame0 (d : FDef) (vs : List Val) : List Slot := vs.map .val ++ List.replicate (d.ns - vs.length) .emp
def run : Nat → (Option (List PD) → FO) → Nat → List Val → Option (List PD) → FO
  | 0, _, _, _, _ => .bad
  | n + 1, act, f, vs, h => match T f with
    | none => .bad
    | some d => toCall h (evB (fun f vs h => match T f with
        | some d => if vs.length = d.np then run n (fun _ => .bad) f vs h else .bad
        | none => .bad) (fun f act h => run n act f [.lmb] h) act wf d.body ⟨frame0 d vs, h⟩)
/-- a def called by a script or another def -/
def callF (n : Nat) (f : Nat) (vs : List Val) (h : Option (List PD)) : FO := match T f with
  | some d => if vs.length = d.np then run T wf n (fun _ => .bad) f vs h else .bad
  | none => .bad
end
end Pev
set_option maxRecDepth 100000
set_option autoImplicit false
/-! Pev, soundness 1: how data lie in the abstract heap, what a state bears, what stays. -/
namespace Pev
open PySem PySem.Spec PyProof.Rows L2
open LamX (Tabs TabS CodeO)

/-! ### what stays: all but the addresses of B, and the tables of code objects -/
/-- nothing at a, but a table -/
def Nn (H : Hp) (a : Addr) : Prop := ∀ o, H a = some o → ∃ ps, o = HO.tbl ps
theorem nn {H : Hp} {a : Addr} (h : H a = none) : Nn H a := fun o e => by rw [h] at e; cases e
theorem Nn.no {H : Hp} {a : Addr} {o : HO} {P : Prop} (n : Nn H a) (e : H a = some o) (ht : ∀ ps, o ≠ .tbl ps) : P := (let ⟨ps, q⟩ := n o e; ht ps q : False).elim
structure Fr (B : Addr → Prop) (H H' : Hp) : Prop where
  keep : ∀ a o, H a = some o → ¬ B a → (∀ ps, o ≠ .tbl ps) → H' a = some o
  dom : ∀ a, Nn H' a → Nn H a
theorem Fr.refl (B : Addr → Prop) (H : Hp) : Fr B H H := ⟨fun _ _ h _ _ => h, fun _ h => h⟩
theorem Fr.trans {B B' : Addr → Prop} {H H1 H2 : Hp} (x : Fr B H H1) (y : Fr B' H1 H2) (hB : ∀ a, B' a → B a ∨ Nn H a) : Fr B H H2 :=
  ⟨fun a o e n t => y.keep a o (x.keep a o e n t) (fun z => (hB a z).elim n fun q => q.no e t) t, fun a e => x.dom a (y.dom a e)⟩
theorem Fr.mono {B B' : Addr → Prop} {H H1 : Hp} (x : Fr B H H1) (hB : ∀ a, B a → B' a ∨ Nn H a) : Fr B' H H1 :=
  ⟨fun a o e n t => x.keep a o e (fun z => (hB a z).elim n fun q => q.no e t) t, x.dom⟩
theorem Fr.new {B : Addr → Prop} {H : Hp} {p : Addr} {o : HO} (h : H p = none) : Fr B H (upd H p o) :=
  ⟨fun a u e _ _ => by rw [upd_ne (ne_of_none e h)]; exact e, fun a e => by
    by_cases q : a = p
    · rw [q]; exact nn h
    · exact fun u e2 => e u (by rw [upd_ne q]; exact e2)⟩
theorem Fr.set {B : Addr → Prop} {H : Hp} {p : Addr} {o u : HO} (h : H p = some u) (hb : B p) (ho : ∀ ps, o ≠ .tbl ps := by intro _ z; cases z) : Fr B H (upd H p o) :=
  ⟨fun a v e n _ => by rw [upd_ne (fun q => n (by rw [q]; exact hb))]; exact e, fun a e => by
    by_cases q : a = p
    · rw [q] at e; exact e.no upd_same ho
    · exact fun u e2 => e u (by rw [upd_ne q]; exact e2)⟩

/-! ### data -/
def kD : L2.Key → PD
  | .inl i => .int i
  | .inr x => .str x
mutual
inductive Rp (K : W.Frag) (H : Hp) (B : Addr → Prop) : V → PD → Prop
  | non : Rp K H B .non .none
  | bl (b : Bool) : Rp K H B (.bl b) (.bool b)
  | int (i : Int) : Rp K H B (.int i) (.int i)
  | str (x : Str) : Rp K H B (.str x) (.str x)
  | lst {a : Addr} {xs : List V} {ds : List PD} : ¬ B a → H a = some (.lst xs) → RpA K H B xs ds → Rp K H B (.ref a) (.list ds)
  | tup {a : Addr} {xs : List V} {ds : List PD} : ¬ B a → H a = some (.tup xs) → RpA K H B xs ds → Rp K H B (.ref a) (.tuple ds)
  | dic {a : Addr} {kvs : List (List L2.Key × V)} {ds : List (PD × PD)} : ¬ B a → H a = some (.dT kvs) → RpD K H B kvs ds → Rp K H B (.ref a) (.dict ds)
  | dik {a : Addr} {kvs : List (L2.Key × V)} {ds : List (PD × PD)} : ¬ B a → H a = some (.dK kvs) → kvs ≠ [] → RpK K H B kvs ds → Rp K H B (.ref a) (.dict ds)
inductive RpA (K : W.Frag) (H : Hp) (B : Addr → Prop) : List V → List PD → Prop
  | nil : RpA K H B [] []
  | cons {v : V} {vs : List V} {d : PD} {ds : List PD} : Rp K H B v d → RpA K H B vs ds → RpA K H B (v :: vs) (d :: ds)
inductive RpD (K : W.Frag) (H : Hp) (B : Addr → Prop) : List (List L2.Key × V) → List (PD × PD) → Prop
  | nil : RpD K H B [] []
  | cons {k : List L2.Key} {v : V} {d : PD} {r : List (List L2.Key × V)} {ds : List (PD × PD)} : Rp K H B v d → RpD K H B r ds → RpD K H B ((k, v) :: r) ((.tuple (k.map kD), d) :: ds)
inductive RpK (K : W.Frag) (H : Hp) (B : Addr → Prop) : List (L2.Key × V) → List (PD × PD) → Prop
  | nil : RpK K H B [] []
  | cons {k : L2.Key} {v : V} {d : PD} {r : List (L2.Key × V)} {ds : List (PD × PD)} : Rp K H B v d → RpK K H B r ds → RpK K H B ((k, v) :: r) ((kD k, d) :: ds)
end
section
variable {K : W.Frag} {H H' : Hp} {B B' : Addr → Prop}
mutual
theorem Rp.stay (fr : Fr B H H') (hB : ∀ a, B' a → B a ∨ Nn H a) : ∀ {x : V} {d : PD}, Rp K H B x d → Rp K H' B' x d
  | _, _, .non => .non
  | _, _, .bl b => .bl b
  | _, _, .int i => .int i
  | _, _, .str x => .str x
  | _, _, .lst n r q => .lst (fun z => (hB _ z).elim n fun q => q.no r (fun _ z => by cases z)) (fr.keep _ _ r n (fun _ e => by cases e)) (RpA.stay fr hB q)
  | _, _, .tup n r q => .tup (fun z => (hB _ z).elim n fun q => q.no r (fun _ z => by cases z)) (fr.keep _ _ r n (fun _ e => by cases e)) (RpA.stay fr hB q)
  | _, _, .dic n r q => .dic (fun z => (hB _ z).elim n fun q => q.no r (fun _ z => by cases z)) (fr.keep _ _ r n (fun _ e => by cases e)) (RpD.stay fr hB q)
  | _, _, .dik n r ne q => .dik (fun z => (hB _ z).elim n fun q => q.no r (fun _ z => by cases z)) (fr.keep _ _ r n (fun _ e => by cases e)) ne (RpK.stay fr hB q)
theorem RpA.stay (fr : Fr B H H') (hB : ∀ a, B' a → B a ∨ Nn H a) : ∀ {xs : List V} {ds : List PD}, RpA K H B xs ds → RpA K H' B' xs ds
  | _, _, .nil => .nil
  | _, _, .cons h t => .cons (Rp.stay fr hB h) (RpA.stay fr hB t)
theorem RpD.stay (fr : Fr B H H') (hB : ∀ a, B' a → B a ∨ Nn H a) : ∀ {xs : List (List L2.Key × V)} {ds : List (PD × PD)}, RpD K H B xs ds → RpD K H' B' xs ds
  | _, _, .nil => .nil
  | _, _, .cons h t => .cons (Rp.stay fr hB h) (RpD.stay fr hB t)
theorem RpK.stay (fr : Fr B H H') (hB : ∀ a, B' a → B a ∨ Nn H a) : ∀ {xs : List (L2.Key × V)} {ds : List (PD × PD)}, RpK K H B xs ds → RpK K H' B' xs ds
  | _, _, .nil => .nil
  | _, _, .cons h t => .cons (Rp.stay fr hB h) (RpK.stay fr hB t)
end
theorem RpA.length : ∀ {xs : List V} {ds : List PD}, RpA K H B xs ds → xs.length = ds.length
  | _, _, .nil => rfl
  | _, _, .cons _ t => by rw [List.length_cons, List.length_cons, RpA.length t]
theorem RpA.append : ∀ {xs ys : List V} {ds es : List PD}, RpA K H B xs ds → RpA K H B ys es → RpA K H B (xs ++ ys) (ds ++ es)
  | _, _, _, _, .nil, q => q
  | _, _, _, _, .cons h t, q => .cons h (RpA.append t q)
theorem RpA.get : ∀ {xs : List V} {ds : List PD} {i : Nat} {d : PD}, RpA K H B xs ds → ds[i]? = some d → ∃ x, xs[i]? = some x ∧ Rp K H B x d
  | _, _, _, _, .nil, e => by simp at e
  | _, _, 0, _, .cons h _, e => by simp at e; subst e; exact ⟨_, rfl, h⟩
  | _, _, i + 1, _, .cons _ t, e => by
    obtain ⟨x, h1, h2⟩ := RpA.get (i := i) t (by simpa using e)
    exact ⟨x, by simpa using h1, h2⟩
theorem RpA.getV : ∀ {xs : List V} {ds : List PD} {i : Nat} {x : V}, RpA K H B xs ds → xs[i]? = some x → ∃ d, ds[i]? = some d ∧ Rp K H B x d
  | _, _, _, _, .nil, e => by simp at e
  | _, _, 0, _, .cons h _, e => by simp at e; subst e; exact ⟨_, rfl, h⟩
  | _, _, i + 1, _, .cons _ t, e => by
    obtain ⟨x, h1, h2⟩ := RpA.getV (i := i) t (by simpa using e)
    exact ⟨x, by simpa using h1, h2⟩
theorem RpA.take : ∀ {xs : List V} {ds : List PD} (n : Nat), RpA K H B xs ds → RpA K H B (xs.take n) (ds.take n)
  | _, _, 0, _ => .nil
  | _, _, _ + 1, .nil => .nil
  | _, _, n + 1, .cons h t => .cons h (RpA.take n t)
theorem RpA.drop : ∀ {xs : List V} {ds : List PD} (n : Nat), RpA K H B xs ds → RpA K H B (xs.drop n) (ds.drop n)
  | _, _, 0, q => q
  | _, _, _ + 1, .nil => .nil
  | _, _, n + 1, .cons _ t => RpA.drop n t
theorem RpA.set {x : V} {d : PD} (h : Rp K H B x d) : ∀ {xs : List V} {ds : List PD} (i : Nat), RpA K H B xs ds → RpA K H B (xs.set i x) (ds.set i d)
  | _, _, _, .nil => .nil
  | _, _, 0, .cons _ t => .cons h t
  | _, _, i + 1, .cons q t => .cons q (RpA.set h i t)
theorem RpA.erase : ∀ {xs : List V} {ds : List PD} (i : Nat), RpA K H B xs ds → RpA K H B (xs.eraseIdx i) (ds.eraseIdx i)
  | _, _, _, .nil => .nil
  | _, _, 0, .cons _ t => t
  | _, _, i + 1, .cons q t => .cons q (RpA.erase i t)
theorem RpA.reverse : ∀ {xs : List V} {ds : List PD}, RpA K H B xs ds → RpA K H B xs.reverse ds.reverse
  | _, _, .nil => .nil
  | _, _, .cons h t => by rw [List.reverse_cons, List.reverse_cons]; exact (RpA.reverse t).append (.cons h .nil)
theorem RpA.dropLast {xs : List V} {ds : List PD} (h : RpA K H B xs ds) : RpA K H B xs.dropLast ds.dropLast := by
  rw [List.dropLast_eq_take, List.dropLast_eq_take, h.length]; exact h.take _
theorem RpA.repl {xs : List V} {ds : List PD} (h : RpA K H B xs ds) : ∀ n : Nat, RpA K H B (List.replicate n xs).flatten (List.replicate n ds).flatten
  | 0 => .nil
  | n + 1 => by
    rw [List.replicate_succ, List.replicate_succ, List.flatten_cons, List.flatten_cons]
    exact h.append (RpA.repl h n)
end

/-! ### the shape of the top alone: an operand when the operation comes -/
inductive Nw (K : W.Frag) (H : Hp) (B : Addr → Prop) : V → PD → Prop
  | non : Nw K H B .non .none
  | bl (b : Bool) : Nw K H B (.bl b) (.bool b)
  | int (i : Int) : Nw K H B (.int i) (.int i)
  | str (x : Str) : Nw K H B (.str x) (.str x)
  | lst {a : Addr} {xs : List V} {ds : List PD} : H a = some (.lst xs) → RpA K H B xs ds → Nw K H B (.ref a) (.list ds)
  | tup {a : Addr} {xs : List V} {ds : List PD} : H a = some (.tup xs) → RpA K H B xs ds → Nw K H B (.ref a) (.tuple ds)
  | dic {a : Addr} {kvs : List (List L2.Key × V)} {ds : List (PD × PD)} : H a = some (.dT kvs) → RpD K H B kvs ds → Nw K H B (.ref a) (.dict ds)
  | dik {a : Addr} {kvs : List (L2.Key × V)} {ds : List (PD × PD)} : H a = some (.dK kvs) → kvs ≠ [] → RpK K H B kvs ds → Nw K H B (.ref a) (.dict ds)
theorem Rp.nw {K : W.Frag} {H : Hp} {B : Addr → Prop} {x : V} {d : PD} (h : Rp K H B x d) : Nw K H B x d := by
  cases h with
  | non => exact .non
  | bl => exact .bl _
  | int => exact .int _
  | str => exact .str _
  | lst _ r q => exact .lst r q
  | tup _ r q => exact .tup r q
  | dic _ r q => exact .dic r q
  | dik _ r ne q => exact .dik r ne q
theorem isKey_kD (k : L2.Key) : isKey (kD k) = false := by cases k <;> rfl
theorem RpK.tkeys {K : W.Frag} {H : Hp} {B : Addr → Prop} {xs : List (L2.Key × V)} {ds : List (PD × PD)} (h : RpK K H B xs ds) (ne : xs ≠ []) : tkeys ds = false := by
  cases h with
  | nil => exact (ne rfl).elim
  | cons _ _ => unfold Pev.tkeys; rw [List.all_cons, isKey_kD]; rfl

/-! ### the state -/
/-- what is fixed: the written part, the defs' and the classes' addresses, the tables of code objects, the exception in hand -/
structure Gh where
  la : Option Addr → V → Hp → (Addr → Prop) → Prop
  las : ∀ {p : Option Addr} {x : V} {H H' : Hp} {B B' : Addr → Prop}, Fr B H H' → (∀ a, B' a → B a ∨ Nn H a) → la p x H B → la p x H' B'
  K : W.Frag
  F : Nat → Addr
  C : Nat → Addr
  T : List (Addr × Str)
  ea : Nat → Addr → Prop
/-- the shared list's address, what is not this frame's to change and is led to by nothing here -/
structure Dy where
  p : Option Addr
  Z : Addr → Prop
def Av (hd : Dy) (σ : L2.St) (ρ : List Slot) (a : Addr) : Prop := hd.p = some a ∨ ∃ (i : Nat) (d : PD), ρ[i]? = some (Slot.own d) ∧ σ[i]? = some (some (V.ref a))
def Bz (hd : Dy) (σ : L2.St) (ρ : List Slot) (a : Addr) : Prop := Av hd σ ρ a ∨ hd.Z a
/-- what lies at the address of an owned thing -/
def At (K : W.Frag) (H : Hp) (B : Addr → Prop) (a : Addr) : PD → Prop
  | .list ds => ∃ xs, H a = some (.lst xs) ∧ RpA K H B xs ds
  | .dict kvs => ∃ ks, H a = some (.dT ks) ∧ RpD K H B ks kvs
  | _ => False
def RpV (g : Gh) (hd : Dy) (H : Hp) (B : Addr → Prop) (x : V) : Val → Prop
  | .dat d => Rp g.K H B x d
  | .fn f => x = .ref (g.F f)
  | .hnd => ∃ a, hd.p = some a ∧ x = .ref a
  | .exn c => ∃ a, g.ea c a ∧ x = .ref a
  | .scr ns => ∃ a, x = .ref a ∧ ((¬ B a ∧ Rd H a (.lst (ns.map V.int))) ∨ ∃ (o : Obj) (its : Array Value) (n : Nat), g.K.lookup a = some o ∧ o.cls = .type "list" ∧ o.dict = none ∧ o.data = .seq its n ∧ its.size ≤ sizeLine ∧ Vals (ns.map V.int) its.toList)
  | .lmb => g.la hd.p x H B
def isMu : HO → Prop
  | .lst _ => True
  | .dT _ => True
  | .dK _ => True
  | _ => False
def HandAt (g : Gh) (hd : Dy) (B : Addr → Prop) (h : Option (List PD)) (H : Hp) : Prop := match hd.p, h with
  | some a, some ds => At g.K H B a (.list ds)
  | none, none => True
  | _, _ => False
structure Ok (g : Gh) (hd : Dy) (B : Addr → Prop) (σ : L2.St) (s : S) (H : Hp) : Prop where
  len : s.ρ.length = σ.length
  av : ∀ a, Av hd σ s.ρ a → B a
  mu : ∀ a, B a → ∃ o, H a = some o ∧ isMu o
  vals : ∀ (i : Nat) (v : Val), s.ρ[i]? = some (Slot.val v) → ∃ x, σ[i]? = some (some x) ∧ RpV g hd H B x v
  owns : ∀ (i : Nat) (d : PD), s.ρ[i]? = some (Slot.own d) → ∃ a, σ[i]? = some (some (V.ref a)) ∧ At g.K H B a d ∧ hd.p ≠ some a ∧ ¬ hd.Z a
  apart : ∀ (i j : Nat) (d e : PD) (a : Addr), s.ρ[i]? = some (Slot.own d) → s.ρ[j]? = some (Slot.own e) → σ[i]? = some (some (V.ref a)) → σ[j]? = some (some (V.ref a)) → i = j
  hand : HandAt g hd B s.h H
  tabs : Tabs g.T H
section
variable {g : Gh} {hd : Dy} {B B' : Addr → Prop} {σ : L2.St} {s : S} {H H' : Hp}
theorem RpV.stay {x : V} {v : Val} (fr : Fr B H H') (hB : ∀ a, B' a → B a ∨ Nn H a) (h : RpV g hd H B x v) : RpV g hd H' B' x v := by
  cases v with
  | dat d => exact Rp.stay fr hB h
  | fn f => exact h
  | hnd => exact h
  | exn c => exact h
  | scr ns =>
    obtain ⟨a, h1, h⟩ := h
    refine ⟨a, h1, h.imp (fun ⟨h2, h3⟩ => ?_) id⟩
    rcases h3 with h3 | ⟨o, h3⟩
    · exact ⟨fun z => (hB a z).elim h2 fun n => n.no h3 (fun _ z => by cases z), .inl (fr.keep a _ h3 h2 (fun _ z => by cases z))⟩
    · exact ⟨fun z => (hB a z).elim h2 fun n => n.no h3 (fun _ z => by cases z), .inr ⟨o, fr.keep a _ h3 h2 (fun _ z => by cases z)⟩⟩
  | lmb => exact g.las fr hB h
theorem At.stay {a : Addr} {d : PD} (fr : Fr B H H') (hB : ∀ a, B' a → B a ∨ Nn H a) (e : ∀ o, H a = some o → H' a = some o) (h : At g.K H B a d) : At g.K H' B' a d := by
  cases d with
  | list ds => obtain ⟨xs, h1, h2⟩ := h; exact ⟨xs, e _ h1, RpA.stay fr hB h2⟩
  | dict ds => obtain ⟨xs, h1, h2⟩ := h; exact ⟨xs, e _ h1, RpD.stay fr hB h2⟩
  | _ => exact h.elim
theorem HandAt.stay {h : Option (List PD)} (fr : Fr B H H') (hB : ∀ a, B' a → B a ∨ Nn H a) (e : ∀ a, hd.p = some a → ∀ o, H a = some o → H' a = some o) (q : HandAt g hd B h H) : HandAt g hd B' h H' := by
  unfold HandAt at q ⊢
  cases hp : hd.p with
  | none => rw [hp] at q; cases h <;> exact q
  | some a =>
    rw [hp] at q
    cases h with
    | none => exact q
    | some ds => exact At.stay (d := .list ds) fr hB (e a hp) q
theorem Ok.fresh (ok : Ok g hd B σ s H) {p : Addr} (h : H p = none) : ¬ B p := fun z => by
  obtain ⟨o, e, _⟩ := ok.mu p z
  rw [h] at e; cases e
/-- a new object, B may grow by its address -/
theorem Ok.new (ok : Ok g hd B σ s H) {p : Addr} {o : HO} (h : H p = none) (hB : ∀ a, B a → B' a) (hB' : ∀ a, B' a → B a ∨ (a = p ∧ isMu o)) : Ok g hd B' σ s (upd H p o) := by
  have fr : Fr B H (upd H p o) := Fr.new h
  have hb : ∀ a, B' a → B a ∨ Nn H a := fun a z => (hB' a z).imp id fun e => by rw [e.1]; exact nn h
  have keep : ∀ a u, H a = some u → upd H p o a = some u := fun a u e => by rw [upd_ne (ne_of_none e h)]; exact e
  refine ⟨ok.len, fun a z => hB a (ok.av a z), fun a z => ?_, fun i v e => ?_, fun i d e => ?_, ok.apart, ?_, ok.tabs.ext keep⟩
  · rcases hB' a z with z | ⟨rfl, m⟩
    · obtain ⟨u, e, m⟩ := ok.mu a z
      exact ⟨u, keep a u e, m⟩
    · exact ⟨o, upd_same, m⟩
  · obtain ⟨x, h1, h2⟩ := ok.vals i v e
    exact ⟨x, h1, h2.stay fr hb⟩
  · obtain ⟨a, h1, h2, h3⟩ := ok.owns i d e
    exact ⟨a, h1, h2.stay fr hb (keep a), h3⟩
  · exact HandAt.stay fr hb (fun a _ o e => keep a o e) ok.hand
/-- B may be any set between -/
theorem Ok.less (ok : Ok g hd B σ s H) (h1 : ∀ a, Av hd σ s.ρ a → B' a) (h2 : ∀ a, B' a → B a) : Ok g hd B' σ s H := by
  have fr : Fr B H H := Fr.refl _ _
  have hb : ∀ a, B' a → B a ∨ Nn H a := fun a z => .inl (h2 a z)
  refine ⟨ok.len, h1, fun a z => ok.mu a (h2 a z), fun i v e => ?_, fun i d e => ?_, ok.apart, ?_, ok.tabs⟩
  · obtain ⟨x, h1, h2⟩ := ok.vals i v e
    exact ⟨x, h1, h2.stay fr hb⟩
  · obtain ⟨a, h1, h2, h3⟩ := ok.owns i d e
    exact ⟨a, h1, h2.stay fr hb (fun _ z => z), h3⟩
  · exact HandAt.stay fr hb (fun _ _ _ z => z) ok.hand
end

/-! ### what is wanted behind a piece of code -/
/-- the results: α as the evaluator tells it, β as it lies there -/
abbrev Rel (α β : Type) := Hp → α → β → S → Hp → Prop
def AvLe (hd : Dy) (σ : L2.St) (ρ ρ' : List Slot) : Prop := ∀ a, Av hd σ ρ a → Av hd σ ρ' a
def Post {α β : Type} (g : Gh) (W : WX) (hd : Dy) (σ : L2.St) (s0 : S) (H0 : Hp) (R : Rel α β) (o : Out α) (Q : β → Hp → Prop) : Prop := match o with
  | .ok a s => ∀ b H, Fr (Av hd σ s0.ρ) H0 H → AvLe hd σ s.ρ s0.ρ → R H0 a b s H → Q b H
  | .exc c h => ∀ H, Fr (Av hd σ s0.ρ) H0 H → HandAt g hd (fun a => hd.p = some a ∨ hd.Z a) h H → Tabs g.T H → W (.ref (g.C c)) none σ H
  | .bad => False
/-- a relation may begin earlier -/
def Rel.Up {α β : Type} (R : Rel α β) : Prop := ∀ H0 H1 a b s H, (∀ p, Nn H1 p → Nn H0 p) → R H1 a b s H → R H0 a b s H
section
variable {α β α' β' : Type} {g : Gh} {W : WX} {hd : Dy} {σ : L2.St} {s0 : S} {H0 : Hp} {R : Rel α β} {R1 : Rel α' β'}
theorem bz_le {ρ ρ' : List Slot} (le : AvLe hd σ ρ ρ') : ∀ a, Bz hd σ ρ a → Bz hd σ ρ' a := fun a z => z.imp (le a) id
theorem fr_bz {ρ : List Slot} {H H' : Hp} (fr : Fr (Av hd σ ρ) H H') : Fr (Bz hd σ ρ) H H' := fr.mono fun a z => .inl (.inl z)
theorem AvLe.refl {ρ : List Slot} : AvLe hd σ ρ ρ := fun _ h => h
theorem AvLe.trans {ρ ρ1 ρ2 : List Slot} (a : AvLe hd σ ρ ρ1) (b : AvLe hd σ ρ1 ρ2) : AvLe hd σ ρ ρ2 := fun x h => b x (a x h)
theorem HandAt.less {B B' : Addr → Prop} {h : Option (List PD)} {H : Hp} (q : HandAt g hd B h H) (h2 : ∀ a, B' a → B a) : HandAt g hd B' h H :=
  HandAt.stay (Fr.refl _ _) (fun a z => .inl (h2 a z)) (fun _ _ _ z => z) q
/-- one piece behind another -/
theorem Post.bind {o : Out α'} {f : α' → S → Out α} {Q : β → Hp → Prop} {Q1 : β' → Hp → Prop} (h : Post g W hd σ s0 H0 R (o.bind f) Q) (hR : R.Up)
    (k : ∀ a s1 b H1, Fr (Av hd σ s0.ρ) H0 H1 → AvLe hd σ s1.ρ s0.ρ → R1 H0 a b s1 H1 → Post g W hd σ s1 H1 R (f a s1) Q → Q1 b H1)
   : Post g W hd σ s0 H0 R1 o Q1 := by
  cases o with
  | bad => exact h.elim
  | exc c x => exact h
  | ok a s1 =>
    intro b H1 fr le r
    refine k a s1 b H1 fr le r ?_
    have h' : Post g W hd σ s0 H0 R (f a s1) Q := h
    cases e : f a s1 with
    | bad => rw [e] at h'; exact h'.elim
    | exc c x =>
      rw [e] at h'
      exact fun H fr2 hh ht => h' H (fr.trans fr2 fun a z => .inl (le a z)) hh ht
    | ok y s2 =>
      rw [e] at h'
      exact fun b2 H2 fr2 le2 r2 => h' b2 H2 (fr.trans fr2 fun a z => .inl (le a z)) (le2.trans le) (hR _ _ _ _ _ _ fr.dom r2)
end
end Pev
set_option maxRecDepth 100000
set_option autoImplicit false
/-! Pev, soundness 2: expressions. -/
namespace Pev
open PySem PySem.Spec PyProof.Rows L2
open LamX (Tabs TabS CodeO)

section
variable (g : Gh) (hd : Dy) (σ : L2.St)
def Cl (s : S) (H : Hp) : Prop := Ok g hd (Bz hd σ s.ρ) σ s H
def RE : Rel RV V := fun H0 rv x s H => (rv.fr = false ∧ Cl g hd σ s H ∧ RpV g hd H (Bz hd σ s.ρ) x rv.v) ∨
  (rv.fr = true ∧ ∃ a d, x = .ref a ∧ rv.v = .dat d ∧ Nn H0 a ∧ ¬ Bz hd σ s.ρ a ∧ Ok g hd (fun b => Bz hd σ s.ρ b ∨ b = a) σ s H ∧ At g.K H (fun b => Bz hd σ s.ρ b ∨ b = a) a d)
def RO : Rel Opd V := fun _ o x s H => Cl g hd σ s H ∧ match o with
  | .slot i => σ[i]? = some (some x)
  | .val v => RpV g hd H (Bz hd σ s.ρ) x v
def RB : Rel Bool Bool := fun _ b c s H => Cl g hd σ s H ∧ b = c
def ROs : Rel (List Opd) (List V) := fun _ os xs s H => Cl g hd σ s H ∧ Paired (fun (o : Opd) (x : V) => match o with
  | .slot i => σ[i]? = some (some x)
  | .val v => RpV g hd H (Bz hd σ s.ρ) x v) os xs
def RVs : Rel (List Val) (List V) := fun _ vs xs s H => Cl g hd σ s H ∧ Paired (fun (v : Val) (x : V) => RpV g hd H (Bz hd σ s.ρ) x v) vs xs
def RAs : Rel (List PD) (List V) := fun _ ds xs s H => Cl g hd σ s H ∧ RpA g.K H (Bz hd σ s.ρ) xs ds
def RI : Rel (Option Int) (Option Int) := fun _ b c s H => Cl g hd σ s H ∧ b = c
end
section
variable {g : Gh} {hd : Dy} {σ : L2.St} {s : S} {H H0 H1 : Hp}
theorem RE.up : (RE g hd σ).Up := fun H0 H1 a b s H d r => r.imp id fun ⟨e, p, dd, h1, h2, h3, h4⟩ => ⟨e, p, dd, h1, h2, d p h3, h4⟩
theorem RO.up : (RO g hd σ).Up := fun _ _ _ _ _ _ _ r => r
theorem RB.up : (RB g hd σ).Up := fun _ _ _ _ _ _ _ r => r
theorem ROs.up : (ROs g hd σ).Up := fun _ _ _ _ _ _ _ r => r
theorem RVs.up : (RVs g hd σ).Up := fun _ _ _ _ _ _ _ r => r
theorem RAs.up : (RAs g hd σ).Up := fun _ _ _ _ _ _ _ r => r
theorem RI.up : (RI g hd σ).Up := fun _ _ _ _ _ _ _ r => r
theorem RE.drop {rv : RV} {x : V} (r : RE g hd σ H0 rv x s H) : Cl g hd σ s H ∧ RpV g hd H (Bz hd σ s.ρ) x rv.v := by
  rcases r with ⟨_, h1, h2⟩ | ⟨_, a, d, rfl, e, h3, n, ok, h5⟩
  · exact ⟨h1, h2⟩
  · have le : ∀ b, Bz hd σ s.ρ b → (Bz hd σ s.ρ b ∨ b = a) := fun b z => .inl z
    refine ⟨ok.less (fun _ z => .inl z) le, ?_⟩
    rw [e]
    have fr : Fr (fun b => Bz hd σ s.ρ b ∨ b = a) H H := Fr.refl _ _
    cases d with
    | list ds => obtain ⟨xs, q1, q2⟩ := h5; exact .lst n q1 (q2.stay fr fun b z => .inl (.inl z))
    | dict ds => obtain ⟨xs, q1, q2⟩ := h5; exact .dic n q1 (q2.stay fr fun b z => .inl (.inl z))
    | _ => exact h5.elim
/-- a plain value -/
theorem RE.val {v : Val} {x : V} (c : Cl g hd σ s H) (h : RpV g hd H (Bz hd σ s.ρ) x v) : RE g hd σ H0 ⟨v, false⟩ x s H := .inl ⟨rfl, c, h⟩
/-- a new list -/
theorem RE.newL {ds : List PD} {xs : List V} {p : Addr} (c : Cl g hd σ s H) (h : RpA g.K H (Bz hd σ s.ρ) xs ds) (hp : H p = none) (h0 : H0 p = none) : RE g hd σ H0 ⟨.dat (.list ds), true⟩ (.ref p) s (upd H p (.lst xs)) := by
  refine .inr ⟨rfl, p, _, rfl, rfl, nn h0, c.fresh hp, c.new hp (fun _ z => .inl z) (fun a z => z.imp id fun e => ⟨e, trivial⟩), xs, upd_same, h.stay (Fr.new hp) fun a z => z.imp id fun e => by rw [e]; exact nn hp⟩
/-- a new tuple -/
theorem RE.newT {ds : List PD} {xs : List V} {p : Addr} (c : Cl g hd σ s H) (h : RpA g.K H (Bz hd σ s.ρ) xs ds) (hp : H p = none) : RE g hd σ H0 ⟨.dat (.tuple ds), false⟩ (.ref p) s (upd H p (.tup xs)) := by
  refine .inl ⟨rfl, c.new hp (fun _ z => z) (fun a z => .inl z), .tup (c.fresh hp) upd_same (h.stay (Fr.new hp) fun a z => .inl z)⟩
theorem Cl.fresh {p : Addr} (c : Cl g hd σ s H) (h : H p = none) : ¬ Bz hd σ s.ρ p := Ok.fresh c h
theorem Cl.freshN {p : Addr} (c : Cl g hd σ s H) (h : Nn H p) : ¬ Bz hd σ s.ρ p := fun z => by
  obtain ⟨o, e, m⟩ := Ok.mu c p z
  exact h.no e fun ps q => by rw [q] at m; exact m
/-- an operand, when the operation comes -/
theorem res_now {o : Opd} {x : V} {s1 s2 : S} {H1 H2 : Hp} {d : PD} (r : RO g hd σ H0 o x s1 H1) (fr : Fr (Av hd σ s1.ρ) H1 H2) (le : AvLe hd σ s2.ρ s1.ρ) (c : Cl g hd σ s2 H2) (e : resv s2 o = some d) : Nw g.K H2 (Bz hd σ s2.ρ) x d := by
  have hand : ∀ {a : Addr}, hd.p = some a → s2.h.map PyData.list = some d → Nw g.K H2 (Bz hd σ s2.ρ) (.ref a) d := fun {a} ha e => by
    have q := c.hand
    unfold HandAt at q
    rw [ha] at q
    cases e2 : s2.h with
    | none => rw [e2] at e; cases e
    | some ds =>
      rw [e2] at e q
      obtain ⟨xs, h1, h2⟩ := (show At g.K H2 (Bz hd σ s2.ρ) a (.list ds) from q)
      have e : PyData.list ds = d := Option.some.inj e
      rw [← e]
      exact .lst h1 h2
  cases o with
  | slot i =>
    have r : σ[i]? = some (some x) := r.2
    simp only [resv] at e
    split at e
    · rename_i d' h
      cases e
      obtain ⟨a, h1, h2, _⟩ := c.owns i _ h
      rw [r] at h1
      cases h1
      cases d with
      | list ds => obtain ⟨xs, q1, q2⟩ := h2; exact .lst q1 q2
      | dict ds => obtain ⟨xs, q1, q2⟩ := h2; exact .dic q1 q2
      | _ => exact h2.elim
    · rename_i d' h
      cases e
      obtain ⟨y, h1, h2⟩ := c.vals i _ h
      rw [r] at h1
      cases h1
      exact Rp.nw h2
    · cases e
  | val v =>
    have r : RpV g hd H1 (Bz hd σ s1.ρ) x v := r.2
    cases v with
    | dat d' =>
      cases e
      exact Rp.nw (Rp.stay (fr_bz fr) (fun a z => .inl (bz_le le a z)) r)
    | hnd =>
      obtain ⟨a, ha, rfl⟩ := r
      exact hand ha e
    | fn f => cases e
    | exn f => cases e
    | scr ns => cases e
    | lmb => cases e
end

section
variable (g : Gh) (call : Calls) (lamc : Nat → (Option (List PD) → FO) → Option (List PD) → FO) (actf : Option (List PD) → FO) (W : WX)
def tEv (ie : IE) : TE := fun σ H Q => ∃ hd s, Cl g hd σ s H ∧ Post g W hd σ s H (RE g hd σ) (ev call lamc actf ie s) Q
def tOpd (ie : IE) : TE := fun σ H Q => ∃ hd s, Cl g hd σ s H ∧ Post g W hd σ s H (RO g hd σ) (opdOf ie (ev call lamc actf ie s) s) Q
def tTst (it : IT) : TT := fun σ H Q => ∃ hd s, Cl g hd σ s H ∧ Post g W hd σ s H (RB g hd σ) (tst call lamc actf it s) Q
def tOpds (es : IEs) : TA := fun σ H Q => ∃ hd s, Cl g hd σ s H ∧ Post g W hd σ s H (ROs g hd σ) (opds call lamc actf es s) Q
def tVals (es : IEs) : TA := fun σ H Q => ∃ hd s, Cl g hd σ s H ∧ Post g W hd σ s H (RVs g hd σ) (vals call lamc actf es s) Q
def tArgs (es : IEs) : TA := fun σ H Q => ∃ hd s, Cl g hd σ s H ∧ Post g W hd σ s H (RAs g hd σ) (args call lamc actf es s) Q
def tOptI (io : IO) : TO := fun σ H Q => ∃ hd s, Cl g hd σ s H ∧ Post g W hd σ s H (RI g hd σ) (opt call lamc actf io s) Q
end

section
variable {X : Cx} {g : Gh} {call : Calls} {lamc : Nat → (Option (List PD) → FO) → Option (List PD) → FO} {actf : Option (List PD) → FO} {W : WX}
  {e a b c : Expr} {ia ib ic ie : IE} {pos : Pos}
theorem PE.imp {t t' : TE} (h : PE X e t) (q : ∀ σ H Q, t' σ H Q → t σ H Q) : PE X e t' := ⟨fun pins s σ H Q I hw => h.run pins s σ H Q I (q σ H Q hw)⟩
theorem PA.imp {es : List Expr} {t t' : TA} (h : PA X es t) (q : ∀ σ H Q, t' σ H Q → t σ H Q) : PA X es t' := ⟨fun pos pins s σ H Q I hw => h.run pos pins s σ H Q I (q σ H Q hw)⟩
theorem PT.imp {t t' : TT} (h : PT X e t) (q : ∀ σ H Q, t' σ H Q → t σ H Q) : PT X e t' := ⟨fun pins s σ H Q I hw => h.run pins s σ H Q I (q σ H Q hw)⟩
/-- the end of a piece: its relation holds here -/
theorem Post.here {α β : Type} {g : Gh} {W : WX} {hd : Dy} {σ : L2.St} {s0 s : S} {H0 H : Hp} {R : Rel α β} {o : Out α} {a : α} {b : β} {Q : β → Hp → Prop} (h : Post g W hd σ s0 H0 R o Q) (e : o = .ok a s) (fr : Fr (Av hd σ s0.ρ) H0 H) (le : AvLe hd σ s.ρ s0.ρ) (r : R H0 a b s H) : Q b H := by
  subst e
  exact h b H fr le r

/-! ### names, constants -/
theorem av_freeze {hd : Dy} {σ : L2.St} {ρ : List Slot} {i : Nat} {x : Slot} (hx : ∀ d, x ≠ .own d) : AvLe hd σ (ρ.set i x) ρ := fun a z => by
  rcases z with z | ⟨j, d, h1, h2⟩
  · exact .inl z
  · refine .inr ⟨j, d, ?_, h2⟩
    rw [List.getElem?_set] at h1
    split at h1
    · split at h1
      · cases h1; exact absurd rfl (hx _)
      · cases h1
    · exact h1
theorem not_av_set {hd : Dy} {σ : L2.St} {s : S} {H : Hp} {i : Nat} {d : PD} {x : Slot} {p : Addr} (c : Cl g hd σ s H) (hi : s.ρ[i]? = some (Slot.own d)) (hp : σ[i]? = some (some (V.ref p))) (hx : ∀ d, x ≠ .own d) : ¬ Bz hd σ (s.ρ.set i x) p := fun z => by
  obtain ⟨q, h3, _, h4, h5⟩ := c.owns i d hi
  rw [hp] at h3
  cases h3
  rcases z with (z | ⟨j, d', h1, h2⟩) | z
  · exact h4 z
  · rw [List.getElem?_set] at h1
    split at h1
    · split at h1
      · cases h1; exact absurd rfl (hx _)
      · cases h1
    · rename_i ne
      exact ne (c.apart i j d d' p hi h1 hp h2)
  · exact h5 z
/-- a slot's own thing is let go: it never changes any more -/
theorem Cl.freeze {hd : Dy} {σ : L2.St} {s : S} {H : Hp} {i : Nat} {d : PD} (c : Cl g hd σ s H) (hi : s.ρ[i]? = some (Slot.own d)) :
    ∃ x, σ[i]? = some (some x) ∧ Cl g hd σ { s with ρ := s.ρ.set i (.val (.dat d)) } H ∧ Rp g.K H (Bz hd σ (s.ρ.set i (.val (.dat d)))) x d := by
  obtain ⟨p, h1, h2, h3, h4⟩ := c.owns i d hi
  have le : AvLe hd σ (s.ρ.set i (.val (.dat d))) s.ρ := av_freeze fun _ => by intro z; cases z
  have np : ¬ Bz hd σ (s.ρ.set i (.val (.dat d))) p := not_av_set c hi h1 fun _ => by intro z; cases z
  have fr : Fr (Bz hd σ s.ρ) H H := Fr.refl _ _
  have hB : ∀ a, Bz hd σ (s.ρ.set i (.val (.dat d))) a → Bz hd σ s.ρ a ∨ Nn H a := fun a z => .inl (bz_le le a z)
  have hR : Rp g.K H (Bz hd σ (s.ρ.set i (.val (.dat d)))) (.ref p) d := by
    cases d with
    | list ds => obtain ⟨xs, q1, q2⟩ := h2; exact .lst np q1 (q2.stay fr hB)
    | dict ds => obtain ⟨xs, q1, q2⟩ := h2; exact .dic np q1 (q2.stay fr hB)
    | _ => exact h2.elim
  have hl : i < s.ρ.length := (List.getElem?_eq_some_iff.mp hi).1
  refine ⟨.ref p, h1, ⟨by rw [List.length_set]; exact c.len, fun _ z => .inl z, fun a z => c.mu a (bz_le le a z), fun j v e => ?_, fun j d' e => ?_, fun j k d1 d2 a e1 e2 => ?_, HandAt.less c.hand (bz_le le), c.tabs⟩, hR⟩
  · rw [List.getElem?_set] at e
    split at e
    · rename_i ne
      subst ne
      cases e
      exact ⟨_, h1, hR⟩
    · obtain ⟨x, q1, q2⟩ := c.vals j v e
      exact ⟨x, q1, q2.stay fr hB⟩
  · rw [List.getElem?_set] at e
    split at e
    · cases e
    · obtain ⟨q, q1, q2, q3⟩ := c.owns j d' e
      exact ⟨q, q1, q2.stay fr hB (fun _ z => z), q3⟩
  · rw [List.getElem?_set] at e1 e2
    split at e1
    · cases e1
    · split at e2
      · cases e2
      · exact c.apart j k d1 d2 a e1 e2
theorem p_var {i : Nat} (h : PE X e (tVar i)) : PE X e (tEv g call lamc actf W (.var i)) := PE.imp h fun σ H Q ⟨hd, s, c, post⟩ => by
  have post : Post g W hd σ s H (RE g hd σ) (look i s) Q := post
  unfold look at post
  split at post
  · rename_i v e
    obtain ⟨x, h1, h2⟩ := c.vals i v e
    exact ⟨x, h1, post.here rfl (Fr.refl _ _) AvLe.refl (RE.val c h2)⟩
  · rename_i d e
    obtain ⟨x, h1, h2, h3⟩ := c.freeze e
    exact ⟨x, h1, post.here rfl (Fr.refl _ _) (av_freeze fun _ => by intro z; cases z) (RE.val h2 h3)⟩
  · exact post.elim
theorem p_varO {i : Nat} (h : PE X e (tVar i)) : PE X e (tOpd g call lamc actf W (.var i)) := PE.imp h fun σ H Q ⟨hd, s, c, post⟩ => by
  simp only [opdOf] at post
  split at post
  · rename_i d e
    obtain ⟨p, h1, h2, h3⟩ := c.owns i d e
    exact ⟨_, h1, post.here rfl (Fr.refl _ _) AvLe.refl ⟨c, h1⟩⟩
  · rename_i v e
    obtain ⟨x, h1, h2⟩ := c.vals i v e
    exact ⟨x, h1, post.here rfl (Fr.refl _ _) AvLe.refl ⟨c, h2⟩⟩
  · exact post.elim
def notVar : IE → Bool
  | .var _ => false
  | _ => true
theorem opdOf_nv {r : Out RV} {s : S} (h : notVar ie = true) : opdOf ie r s = r.bind fun x s => .ok (.val x.v) s := by
  cases ie <;> first | rfl | cases h
theorem p_opd (hn : notVar ie = true) (h : PE X e (tEv g call lamc actf W ie)) : PE X e (tOpd g call lamc actf W ie) := PE.imp h fun σ H Q ⟨hd, s, c, post⟩ => by
  rw [opdOf_nv hn] at post
  refine ⟨hd, s, c, post.bind RO.up fun x s1 b H1 fr le r post1 => ?_⟩
  exact post1.here rfl (Fr.refl _ _) AvLe.refl ⟨r.drop.1, r.drop.2⟩
/-- both ways -/
structure Snd (X : Cx) (g : Gh) (call : Calls) (lamc : Nat → (Option (List PD) → FO) → Option (List PD) → FO) (actf : Option (List PD) → FO) (W : WX) (e : Expr) (ie : IE) : Prop where
  ev : PE X e (tEv g call lamc actf W ie)
  op : PE X e (tOpd g call lamc actf W ie)
theorem Snd.of (hn : notVar ie = true) (h : PE X e (tEv g call lamc actf W ie)) : Snd X g call lamc actf W e ie := ⟨h, p_opd hn h⟩
theorem s_var {i : Nat} (h : PE X e (tVar i)) : Snd X g call lamc actf W e (.var i) := ⟨p_var h, p_varO h⟩
theorem p_cst {v : V} {d : PD} (h : PE X e (tC v)) (hv : ∀ K H B, Rp K H B v d) : PE X e (tEv g call lamc actf W (.cst d)) := PE.imp h fun σ H Q ⟨hd, s, c, post⟩ =>
  Post.here (R := RE g hd σ) (o := .ok (rvD d) s) post rfl (Fr.refl _ _) AvLe.refl (RE.val c (hv _ _ _))
theorem p_fn {f : Nat} (h : PE X e (tC (.ref (g.F f)))) : PE X e (tEv g call lamc actf W (.fn f)) := PE.imp h fun σ H Q ⟨hd, s, c, post⟩ =>
  Post.here (R := RE g hd σ) (o := .ok ⟨.fn f, false⟩ s) post rfl (Fr.refl _ _) AvLe.refl (RE.val c rfl)

/-! ### operations of two operands -/
/-- a rule of the layer serves what the evaluator does -/
def BinRule (g : Gh) (r : R2) (f : PD → PD → Option (PD × Bool)) : Prop := ∀ (hd : Dy) (σ : L2.St) (s : S) (H : Hp) (x y : V) (d e z : PD) (fr : Bool) (Q : VK), Cl g hd σ s H → Nw g.K H (Bz hd σ s.ρ) x d → Nw g.K H (Bz hd σ s.ρ) y e → f d e = some (z, fr) →
  (∀ v H', Fr (Av hd σ s.ρ) H H' → RE g hd σ H ⟨.dat z, fr⟩ v s H' → Q v H') → r x y H Q
theorem bin_imp {r : R2} {f : PD → PD → Option (PD × Bool)} (hr : BinRule g r f)
    (he : ∀ s, ev call lamc actf ie s = (opdOf ia (ev call lamc actf ia s) s).bind fun x s => (opdOf ib (ev call lamc actf ib s) s).bind fun y s => match resv s x, resv s y with
      | some d, some e => outD (f d e) s
      | _, _ => .bad) (σ : L2.St) (H : Hp) (Q : VK) : tEv g call lamc actf W ie σ H Q → tOp r (tOpd g call lamc actf W ia) (tOpd g call lamc actf W ib) σ H Q := fun ⟨hd, s, c, post⟩ => by
  rw [he s] at post
  refine ⟨hd, s, c, post.bind RE.up fun xo s1 x H1 fr1 le1 r1 post1 => ?_⟩
  refine ⟨hd, s1, r1.1, post1.bind RE.up fun yo s2 y H2 fr2 le2 r2 post2 => ?_⟩
  split at post2
  · rename_i d e' e1 e2
    cases q : f d e' with
    | none => rw [q] at post2; exact post2.elim
    | some zf =>
      obtain ⟨z, fr⟩ := zf
      rw [q] at post2
      refine hr hd σ s2 H2 x y d e' z fr Q r2.1 (res_now r1 fr2 le2 r2.1 e1) (res_now r2 (Fr.refl _ _) AvLe.refl r2.1 e2) q fun v H' fr3 r3 => ?_
      exact post2.here rfl fr3 AvLe.refl r3
  · exact post2.elim
theorem bin_pure {r : R2} {f : PD → PD → Option (PD × Bool)} (hr : BinRule g r f)
    (he : ∀ s, ev call lamc actf ie s = (opdOf ia (ev call lamc actf ia s) s).bind fun x s => (opdOf ib (ev call lamc actf ib s) s).bind fun y s => match resv s x, resv s y with
      | some d, some e => outD (f d e) s
      | _, _ => .bad) (h : PE X e (tOp r (tOpd g call lamc actf W ia) (tOpd g call lamc actf W ib))) : PE X e (tEv g call lamc actf W ie) := PE.imp h (bin_imp hr he)
theorem BinRule.or {r r' : R2} {f : PD → PD → Option (PD × Bool)} {f' : PD → PD → Option (PD × Bool)} {k : PD → PD → Option (PD × Bool)} (h : BinRule g r f) (h' : BinRule g r' f') (hk : ∀ d e z, k d e = some z → f d e = some z ∨ f' d e = some z) : BinRule g (fun x y H Q => r x y H Q ∨ r' x y H Q) k := fun hd σ s H x y d e z fr Q c n m q hq =>
  (hk d e (z, fr) q).elim (fun q => .inl (h hd σ s H x y d e z fr Q c n m q hq)) fun q => .inr (h' hd σ s H x y d e z fr Q c n m q hq)
/-- int, int to int -/
def fI (f : Int → Int → Option PD) : PD → PD → Option (PD × Bool) := fun x y => match x, y with
  | .int i, .int j => (f i j).map fun z => (z, false)
  | _, _ => none
theorem binI {C : Int → Int → Prop} {k : Int → Int → V} {f : Int → Int → Option PD} (h : ∀ i j z, f i j = some z → C i j ∧ ∀ K H B, Rp K H B (k i j) z) : BinRule g (rI C k) (fI f) := fun hd σ s H x y d e z fr Q c n m q hq => by
  unfold fI at q
  split at q
  · rename_i i j
    cases n
    cases m
    cases e : f i j with
    | none => rw [e] at q; cases q
    | some w =>
      rw [e] at q
      cases q
      obtain ⟨h1, h2⟩ := h i j z e
      exact ⟨i, j, rfl, rfl, h1, hq _ H (Fr.refl _ _) (RE.val c (h2 _ _ _))⟩
  · cases q
theorem binI0 {k : Int → Int → V} {f : Int → Int → Option PD} (h : ∀ i j z, f i j = some z → ∀ K H B, Rp K H B (k i j) z) : BinRule g (rI0 k) (fI f) := fun hd σ s H x y d e z fr Q c n m q hq => by
  unfold fI at q
  split at q
  · rename_i i j
    cases n
    cases m
    cases e : f i j with
    | none => rw [e] at q; cases q
    | some w =>
      rw [e] at q
      cases q
      exact ⟨i, j, rfl, rfl, hq _ H (Fr.refl _ _) (RE.val c (h i j z e _ _ _))⟩
  · cases q
end
end Pev
set_option maxRecDepth 100000
set_option autoImplicit false
/-! Pev, soundness 3: the rules of the operations. -/
namespace Pev
open PySem PySem.Spec PyProof.Rows L2

/-! ### a tuple once, and no time -/
section
variable (l : Addr) (items : Array Value) (n : Nat) (dd : Option Addr) (sl : Array (Option Value)) (x : Int) (u : Tok)
theorem tup_once (hx : x = 1) : Meets (Builtin.«tuple.__mul__» ⟨[.ref l, .int x u], []⟩) (fun _ R s => s.heap.get? l = some { cls := .type "tuple", dict := dd, data := .seq items n, slots := sl } ∧ R (.ok (.ret (.ref l))) s) :=
  .of_wp fun prog w A R s h => by
    subst hx
    obtain ⟨hp, g, d, tk, os⟩ := s
    obtain ⟨hl, h⟩ := h
    have f1 := AutoSeq1.idx_int
    wp_walk using wpAny_loadPart' hl
    repeat (first
      | (refine wpAny_ite_false (by decide) ?_; wp_walk using wpAny_loadPart' hl)
      | (refine wpAny_ite_true (by simp) ?_; wp_walk using wpAny_loadPart' hl))
    exact ⟨_, rfl, h⟩
theorem tup_never (hx : x ≤ 0) (h2 : -(2 ^ 63) ≤ x) (hi : items.isEmpty = false) : Meets (Builtin.«tuple.__mul__» ⟨[.ref l, .int x u], []⟩) (fun _ R s => s.heap.get? l = some { cls := .type "tuple", dict := dd, data := .seq items n, slots := sl } ∧
    R (.ok (.ret (Value.ref s.heap.objs.size))) { s with heap := s.heap.push { cls := Value.type "tuple", data := Data.seq #[] }, toks := s.toks }) :=
  .of_wp fun prog w A R s h => by
    have c0 : (decide (x < -(2 ^ 63)) || decide (x ≥ 2 ^ 63)) = false := by
      rw [decide_eq_false (by omega), decide_eq_false (by omega)] <;> rfl
    have c1 : (items.isEmpty || x == 1) = false := by
      rw [hi, Bool.false_or]; exact beq_eq_false_iff_ne.mpr (by omega)
    have c2 : (decide (x ≤ 0) || items.isEmpty) = true := by
      rw [decide_eq_true hx, Bool.true_or]
    obtain ⟨hp, g, d, tk, os⟩ := s
    obtain ⟨hl, h⟩ := h
    have f1 := AutoSeq1.idx_int
    wp_walk using wpAny_loadPart' hl
    repeat (first
      | (refine wpAny_ite_false (decide_eq_false (by rw [c0]; exact Bool.false_ne_true)) ?_; wp_walk using wpAny_loadPart' hl)
      | (refine wpAny_ite_false (decide_eq_false (by rw [c1]; exact Bool.false_ne_true)) ?_; wp_walk using wpAny_loadPart' hl)
      | (refine wpAny_ite_true (decide_eq_true (by rw [c2])) ?_; wp_walk using wpAny_loadPart' hl))
    exact ⟨_, rfl, h⟩
end
section
variable {X : Cx}
/-- t * k, k at most 1 -/
def rFewT : R2 := fun x y H Q => ∃ l k xs, x = .ref l ∧ y = .int k ∧ H l = some (.tup xs) ∧ xs ≠ [] ∧ 0 ≤ k ∧ k ≤ 1 ∧ (k = 1 → Q (.ref l) H) ∧ (k = 0 → ∀ p, H p = none → Q (.ref p) (upd H p (.tup [])))
theorem op_fewT : OpR X (binaryOp .Mult) rFewT := by
  intro pins s σ H x y v u Q I rx ry h
  obtain ⟨l, k, xs, rfl, rfl, hT, hne, k0, k1, q1, q0⟩ := h
  cases rx
  obtain ⟨t, rfl⟩ := ry
  obtain ⟨its, r, ⟨⟨cls, dd, data, sl⟩, ho, hc, n, hd⟩, hs⟩ := I.tuple (SqT.of hT)
  simp only at hc hd
  subst hc hd
  have emp : its.toArray.isEmpty = false := by
    cases its with
    | nil => have z := r.length; exact absurd (List.eq_nil_of_length_eq_zero z) hne
    | cons a b => rfl
  have key : ∀ (R : Result → Shared → Prop), (Meets (Builtin.«tuple.__mul__» ⟨[.ref l, .int k t], []⟩) (fun _ R s => s.heap.get? l = some { cls := .type "tuple", dict := dd, data := .seq its.toArray n, slots := sl } ∧ R (.ok (.ret (Value.ref s.heap.objs.size))) { s with heap := s.heap.push { cls := Value.type "tuple", data := Data.seq #[] }, toks := s.toks })) → True := fun _ _ => trivial
  by_cases e : k = 1
  · refine wpAny_binaryOp_repeat_ref (T := "tuple") (U := "int") (by decide) ⟨_, ho, rfl⟩ (fun s' => typeIs_int s' k t) noFill_tuple_mul F.fills_int_mul F.slot_int_rmul repeat_tuple F.slot_int_index.lookup ?_
    refine call_meets F.slot_int_rmul (typeIs_int s k t) F.entry_int_rmul (F.args_int_rmul_2 _ _) (int_rmul_tuple k t l its.toArray n dd sl) ⟨ho, rfl, ⟨_, ho, rfl⟩, ?_⟩
    refine call_meets F.slot_tuple_mul ⟨_, ho, rfl⟩ F.entry_tuple_mul (F.args_tuple_mul_2 _ _) (tup_once l its.toArray n dd sl k t e) ⟨ho, ?_⟩
    exact ⟨.ref l, H, I, rfl, q1 e⟩
  · refine wpAny_binaryOp_repeat_ref (T := "tuple") (U := "int") (by decide) ⟨_, ho, rfl⟩ (fun s' => typeIs_int s' k t) noFill_tuple_mul F.fills_int_mul F.slot_int_rmul repeat_tuple F.slot_int_index.lookup ?_
    refine call_meets F.slot_int_rmul (typeIs_int s k t) F.entry_int_rmul (F.args_int_rmul_2 _ _) (int_rmul_tuple k t l its.toArray n dd sl) ⟨ho, rfl, ⟨_, ho, rfl⟩, ?_⟩
    refine call_meets F.slot_tuple_mul ⟨_, ho, rfl⟩ F.entry_tuple_mul (F.args_tuple_mul_2 _ _) (tup_never l its.toArray n dd sl k t (by omega) (by omega) emp) ⟨ho, ?_⟩
    exact ⟨.ref s.heap.objs.size, _, I.laid (t' := s.toks) (o := .tup []) (fun b ob q => Heap.get?_push_of_some _ q) (Nat.le_refl _) ⟨Nat.zero_le _, [], .nil, IsTup.new _ _⟩, rfl, q0 (by omega) _ (I.hok.fresh (Nat.le_refl _))⟩
end

/-! ### the rules as the evaluator has them -/
theorem small {n : Nat} (h : n ≤ 1000000) : n ≤ sizeLine := Nat.le_trans h (by rw [sizeLine_eq]; decide)
section
variable {X : Cx} {g : Gh} {hd : Dy} {σ : L2.St} {s : S} {H H0 : Hp}
/-- a tuple is never among what may change -/
theorem tup_rp {a : Addr} {ds : List PD} (c : Cl g hd σ s H) (n : Nw g.K H (Bz hd σ s.ρ) (.ref a) (.tuple ds)) : Rp g.K H (Bz hd σ s.ρ) (.ref a) (.tuple ds) := by
  cases n with
  | tup r q =>
    refine .tup (fun z => ?_) r q
    obtain ⟨o, e, m⟩ := c.mu a z
    rw [r] at e
    cases e
    exact m
def fT (f : List PD → List PD → Option PD) : PD → PD → Option (PD × Bool) := fun x y => match x, y with
  | .tuple xs, .tuple ys => (f xs ys).map fun z => (z, false)
  | _, _ => none
def fCatT : List PD → List PD → Option PD := fun xs ys => if xs.length + ys.length ≤ 100000 then some (.tuple (xs ++ ys)) else none
theorem br_catT : BinRule g (rCatA g.K) (fT fCatT) := fun hd σ s H x y d e z fr Q c n m q hq => by
  unfold fT at q
  split at q
  · rename_i xs ys
    unfold fCatT at q
    split at q
    · rename_i hl
      cases q
      have n0 := n
      have m0 := m
      cases n with
      | tup r1 q1 =>
        rename_i a us
        cases m with
        | tup r2 q2 =>
          rename_i b ws
          have l1 := q1.length
          have l2 := q2.length
          refine ⟨a, b, us, ws, rfl, rfl, SqT.of r1, SqT.of r2, small (by omega), fun e => ?_, fun e e2 => ?_, fun e e2 p hp => ?_⟩
          · subst e
            cases q1
            exact hq _ H (Fr.refl _ _) (RE.val c (tup_rp c m0))
          · subst e2
            cases q2
            rw [List.append_nil] at hq
            exact hq _ H (Fr.refl _ _) (RE.val c (tup_rp c n0))
          · exact hq _ _ (Fr.new hp) (RE.newT c (q1.append q2) hp)
    · cases q
  · cases q
def fCatL : PD → PD → Option (PD × Bool) := fun x y => match x, y with
  | .list xs, .list ys => if xs.length + ys.length ≤ 100000 then some (.list (xs ++ ys), true) else none
  | _, _ => none
theorem br_catL : BinRule g rCat fCatL := fun hd σ s H x y d e z fr Q c n m q hq => by
  unfold fCatL at q
  split at q
  · split at q
    · rename_i hl
      cases q
      cases n with
      | lst r1 q1 =>
        cases m with
        | lst r2 q2 =>
          have l1 := q1.length
          have l2 := q2.length
          exact ⟨_, _, _, _, rfl, rfl, r1, r2, small (by omega), fun p hp => hq _ _ (Fr.new hp) (RE.newL c (q1.append q2) hp hp)⟩
    · cases q
  · cases q
def fRepT : PD → PD → Option (PD × Bool) := fun x y => match x, y with
  | .tuple xs, .int k => if xs ≠ [] ∧ xs.length ≤ 1000 ∧ 0 ≤ k ∧ k ≤ 1000 then some (.tuple (List.replicate k.toNat xs).flatten, false) else none
  | _, _ => none
theorem br_repT : BinRule g (fun x y H Q => rRepT g.K x y H Q ∨ rFewT x y H Q) fRepT := fun hd σ s H x y d e z fr Q c n m q hq => by
  unfold fRepT at q
  split at q
  · rename_i xs k
    split at q
    · rename_i hl
      obtain ⟨h1, h2, h3, h4⟩ := hl
      cases q
      have n0 := n
      cases m
      cases n with
      | tup r1 q1 =>
        rename_i a us
        have l1 := q1.length
        have un : us ≠ [] := fun e => h1 (List.eq_nil_of_length_eq_zero (by rw [← l1, e]; rfl))
        by_cases hk : 2 ≤ k
        · exact .inl ⟨a, k, us, rfl, rfl, SqT.of r1, un, hk, h4, by omega, fun p hp => hq _ _ (Fr.new hp) (RE.newT c (q1.repl _) hp)⟩
        · refine .inr ⟨a, k, us, rfl, rfl, r1, un, h3, by omega, fun e => ?_, fun e p hp => ?_⟩
          · subst e
            have e1 : (List.replicate (1 : Int).toNat xs).flatten = xs := by
              show (List.replicate 1 xs).flatten = xs
              simp
            rw [e1] at hq
            exact hq _ H (Fr.refl _ _) (RE.val c (tup_rp c n0))
          · subst e
            exact hq _ _ (Fr.new hp) (RE.newT c .nil hp)
    · cases q
  · cases q
def fRepL : PD → PD → Option (PD × Bool) := fun x y => match x, y with
  | .list xs, .int k => if xs.length ≤ 1000 ∧ 0 ≤ k ∧ k ≤ 1000 then some (.list (List.replicate k.toNat xs).flatten, true) else none
  | _, _ => none
theorem br_repL : BinRule g rRep fRepL := fun hd σ s H x y d e z fr Q c n m q hq => by
  unfold fRepL at q
  split at q
  · rename_i xs k
    split at q
    · rename_i hl
      obtain ⟨h2, h3, h4⟩ := hl
      cases q
      cases m
      cases n with
      | lst r1 q1 =>
        rename_i a us
        have l1 := q1.length
        have hz : us.length * k.toNat ≤ 1000 * 1000 := Nat.mul_le_mul (by omega) (by omega)
        exact ⟨a, k, us, rfl, rfl, r1, by omega, by omega, small (by omega), fun p hp => hq _ _ (Fr.new hp) (RE.newL c (q1.repl _) hp hp)⟩
    · cases q
  · cases q
/-- the rule of a binary operator -/
def rBin (g : Gh) : Bo → R2
  | .add => fun x y H Q => (rI0 fun i j => .int (i + j)) x y H Q ∨ (rCatA g.K x y H Q ∨ rCat x y H Q)
  | .sub => rI0 fun i j => .int (i - j)
  | .mul => fun x y H Q => ((rI CMul fun i j => .int (i * j)) x y H Q ∨ (rI CMulW fun i j => .int (i * j)) x y H Q) ∨ ((rRepT g.K x y H Q ∨ rFewT x y H Q) ∨ rRep x y H Q)
  | .fdiv => fun x y H Q => (rI CDivW fun i j => .int (i / j)) x y H Q ∨ (rI CDivN fun i j => .int (i.fdiv j)) x y H Q
  | .mod => fun x y H Q => (rI (fun _ j => 0 < j) fun i j => .int (i % j)) x y H Q ∨ (rI (fun _ j => j ≠ 0) fun i j => .int (i.fmod j)) x y H Q
  | .pow => rI CPow fun i j => .int (i ^ j.toNat)
  | .shl => rI CPow fun i j => .int (i * 2 ^ j.toNat)
  | .shr => rI (fun _ j => 0 ≤ j) fun i j => .int (i / 2 ^ j.toNat)
  | .band => rI0 fun i j => .int (Builtin.bitAnd i j)
  | .bor => rI0 fun i j => .int (Builtin.bitOr i j)
  | .bxor => rI0 fun i j => .int (Builtin.bitXor i j)
def opOf : Bo → Operator
  | .add => .Add | .sub => .Sub | .mul => .Mult | .fdiv => .FloorDiv | .mod => .Mod | .pow => .Pow | .shl => .LShift | .shr => .RShift | .band => .BitAnd | .bor => .BitOr | .bxor => .BitXor
theorem op_bin (hK : X.K = g.K) : ∀ o : Bo, OpR X (binaryOp (opOf o)) (rBin g o)
  | .add => op_add.or ((by rw [← hK]; exact op_catA : OpR X (binaryOp .Add) (rCatA g.K)).or op_cat)
  | .sub => op_sub
  | .mul => (op_mul.or op_mulW).or (((by rw [← hK]; exact op_repT : OpR X (binaryOp .Mult) (rRepT g.K)).or op_fewT).or op_rep)
  | .fdiv => op_fdivW.or op_fdivN
  | .mod => op_mod.or op_modN
  | .pow => op_pow
  | .shl => op_shl
  | .shr => op_shr
  | .band => op_and
  | .bor => op_or
  | .bxor => op_xor
theorem rp_int (i : Int) : ∀ (K : W.Frag) (H : Hp) (B : Addr → Prop), Rp K H B (.int i) (.int i) := fun _ _ _ => .int i
theorem log2_small {i : Int} (h : i.natAbs < 2 ^ 200) : i.natAbs.log2 < 200 := by
  by_cases z : i.natAbs = 0
  · rw [z]; decide
  · exact (Nat.log2_lt z).mpr h
/-- the evaluator's operations, kind by kind -/
theorem br_bin : ∀ o : Bo, BinRule g (rBin g o) (binop o)
  | .add => BinRule.or (binI0 (f := fun i j => some (.int (i + j))) fun i j z e => by cases e; exact rp_int _) (BinRule.or br_catT br_catL (k := fun x y => (fT fCatT x y).or (fCatL x y)) fun d e z h => by
      cases q : fT fCatT d e with
      | none => rw [q] at h; exact .inr h
      | some w => rw [q] at h; exact .inl h) fun d e z h => by
      cases d <;> cases e <;> simp only [binop, fI, fT, fCatT, fCatL, Option.map_some, Option.none_or, Option.or_none, reduceCtorEq, or_false, false_or, Option.map_none] at h ⊢ <;> first | exact h | skip
      all_goals (split at h <;> rename_i hl <;> first | (cases h; done) | (cases h; first | (rw [if_pos hl]; exact .inl rfl) | (rw [if_pos hl]; rfl) | (left; rw [if_pos hl]; rfl) | skip))
  | .sub => fun hd σ s H x y d e z fr Q c n m q hq => (binI0 (f := fun i j => some (.int (i - j))) fun i j z e => by cases e; exact rp_int _) hd σ s H x y d e z fr Q c n m (by cases d <;> cases e <;> first | exact q | cases q) hq
  | .mul => BinRule.or (f := fI fun i j => if mulOk i j then some (.int (i * j)) else none) (BinRule.or
      (binI (f := fun i j => if (-(2 ^ 64) < i ∧ i < 2 ^ 64) ∨ (-(2 ^ 64) < j ∧ j < 2 ^ 64) then some (.int (i * j)) else none) fun i j z e => by
        split at e
        · cases e; exact ⟨by assumption, rp_int _⟩
        · cases e)
      (binI (f := fun i j => if i.natAbs < 2 ^ 200 ∧ j.natAbs < 2 ^ 200 then some (.int (i * j)) else none) fun i j z e => by
        split at e
        · rename_i h
          cases e
          refine ⟨?_, rp_int _⟩
          have h1 := log2_small h.1
          have h2 := log2_small h.2
          show i.natAbs.log2 + j.natAbs.log2 < 1000000
          omega
        · cases e) fun d e z h => by
          cases d <;> cases e <;> simp only [fI, reduceCtorEq, Option.map_none, or_self] at h ⊢
          rename_i i j
          by_cases m : mulOk i j = true
          · rw [if_pos m] at h
            have m' := of_decide_eq_true m
            by_cases m1 : (-(2 ^ 64) < i ∧ i < 2 ^ 64) ∨ (-(2 ^ 64) < j ∧ j < 2 ^ 64)
            · rw [if_pos m1]; exact .inl h
            · rw [if_pos (by omega : i.natAbs < 2 ^ 200 ∧ j.natAbs < 2 ^ 200)]; exact .inr h
          · rw [if_neg m] at h; cases h)
      (BinRule.or br_repT br_repL (k := fun x y => (fRepT x y).or (fRepL x y)) fun d e z h => by
      cases q : fRepT d e with
      | none => rw [q] at h; exact .inr h
      | some w => rw [q] at h; exact .inl h) fun d e z h => by
      cases d <;> cases e <;> simp only [binop, fI, fRepT, fRepL, Option.none_or, Option.or_none, reduceCtorEq, or_false, false_or] at h ⊢ <;> first | exact h | skip
      all_goals (split at h <;> rename_i hl <;> first | (cases h; done) | (rw [if_pos hl]; cases h; rfl))
  | .fdiv => BinRule.or (binI (f := fun i j => if 0 < j ∧ j < 2 ^ 200 then some (.int (i / j)) else none) fun i j z e => by
        split at e
        · rename_i h
          cases e
          refine ⟨⟨h.1, Nat.lt_of_lt_of_le (log2_small (i := j) (by omega)) (by decide)⟩, rp_int _⟩
        · cases e)
      (binI (f := fun i j => if j < 0 ∧ -1073741824 < j then some (.int (i.fdiv j)) else none) fun i j z e => by
        split at e
        · rename_i h
          cases e
          exact ⟨⟨by omega, by omega⟩, rp_int _⟩
        · cases e) fun d e z h => by
          cases d <;> cases e <;> simp only [binop, fI, reduceCtorEq] at h ⊢
          split at h
          · rename_i hl; rw [if_pos hl]; exact .inl h
          · split at h
            · rename_i hl; rw [if_pos hl]; exact .inr h
            · cases h
  | .mod => BinRule.or (binI (f := fun i j => if 0 < j then some (.int (i % j)) else none) fun i j z e => by
        split at e
        · cases e; exact ⟨by assumption, rp_int _⟩
        · cases e)
      (binI (f := fun i j => if j < 0 then some (.int (i.fmod j)) else none) fun i j z e => by
        split at e
        · cases e; exact ⟨by omega, rp_int _⟩
        · cases e) fun d e z h => by
          cases d <;> cases e <;> simp only [binop, fI, reduceCtorEq] at h ⊢
          split at h
          · rename_i hl; rw [if_pos hl]; exact .inl h
          · split at h
            · rename_i hl; rw [if_pos hl]; exact .inr h
            · cases h
  | .pow => fun hd σ s H x y d e z fr Q c n m q hq => (binI (f := fun i j => if 0 ≤ j ∧ j ≤ 1000 ∧ i.natAbs < 2 ^ 64 then some (.int (i ^ j.toNat)) else none) fun i j z e => by
        split at e
        · rename_i h; cases e; exact ⟨⟨h.1, by omega, h.2.2⟩, rp_int _⟩
        · cases e) hd σ s H x y d e z fr Q c n m (by
          cases d <;> cases e <;> simp only [binop, fI, reduceCtorEq] at q ⊢
          split at q
          · rename_i hl; rw [if_pos hl]; exact q
          · cases q) hq
  | .shl => fun hd σ s H x y d e z fr Q c n m q hq => (binI (f := fun i j => if 0 ≤ j ∧ j ≤ 1000 ∧ i.natAbs < 2 ^ 64 then some (.int (i * 2 ^ j.toNat)) else none) fun i j z e => by
        split at e
        · rename_i h; cases e; exact ⟨⟨h.1, by omega, h.2.2⟩, rp_int _⟩
        · cases e) hd σ s H x y d e z fr Q c n m (by
          cases d <;> cases e <;> simp only [binop, fI, reduceCtorEq] at q ⊢
          split at q
          · rename_i hl; rw [if_pos hl]; exact q
          · cases q) hq
  | .shr => fun hd σ s H x y d e z fr Q c n m q hq => (binI (f := fun i j => if 0 ≤ j then some (.int (i / 2 ^ j.toNat)) else none) fun i j z e => by
        split at e
        · rename_i h; cases e; exact ⟨h, rp_int _⟩
        · cases e) hd σ s H x y d e z fr Q c n m (by
          cases d <;> cases e <;> simp only [binop, fI, reduceCtorEq] at q ⊢
          split at q
          · rename_i hl; rw [if_pos hl]; exact q
          · cases q) hq
  | .band => fun hd σ s H x y d e z fr Q c n m q hq => (binI0 (f := fun i j => some (.int (Builtin.bitAnd i j))) fun i j z e => by cases e; exact rp_int _) hd σ s H x y d e z fr Q c n m (by cases d <;> cases e <;> first | exact q | cases q) hq
  | .bor => fun hd σ s H x y d e z fr Q c n m q hq => (binI0 (f := fun i j => some (.int (Builtin.bitOr i j))) fun i j z e => by cases e; exact rp_int _) hd σ s H x y d e z fr Q c n m (by cases d <;> cases e <;> first | exact q | cases q) hq
  | .bxor => fun hd σ s H x y d e z fr Q c n m q hq => (binI0 (f := fun i j => some (.int (Builtin.bitXor i j))) fun i j z e => by cases e; exact rp_int _) hd σ s H x y d e z fr Q c n m (by cases d <;> cases e <;> first | exact q | cases q) hq
end
end Pev
set_option maxRecDepth 100000
set_option autoImplicit false
/-! Pev, soundness 4: comparisons. -/
namespace Pev
open PySem PySem.Spec PyProof.Rows L2

/-! ### depth -/
theorem shal_plain : ∀ (n : Nat) (d : PD), shal n d = true → d.plain = true ∧ d.depth ≤ n
  | _, .none, _ => ⟨rfl, Nat.zero_le _⟩
  | _, .bool _, _ => ⟨rfl, Nat.zero_le _⟩
  | _, .int _, _ => ⟨rfl, Nat.zero_le _⟩
  | _, .str _, _ => ⟨rfl, Nat.zero_le _⟩
  | 0, .list _, h => by cases h
  | 0, .tuple _, h => by cases h
  | 0, .dict _, h => by cases h
  | n + 1, .dict _, h => by cases h
  | n + 1, .list xs, h => by
    have key : ∀ ys : List PD, ys.all (shal n) = true → PyData.plainAll ys = true ∧ PyData.depthAll ys ≤ n := fun ys => by
      induction ys with
      | nil => intro _; exact ⟨rfl, Nat.zero_le _⟩
      | cons y r ih =>
        intro e
        rw [List.all_cons, Bool.and_eq_true] at e
        obtain ⟨a, b⟩ := shal_plain n y e.1
        obtain ⟨p, q⟩ := ih e.2
        exact ⟨by simp [PyData.plainAll, a, p], by simp only [PyData.depthAll]; omega⟩
    obtain ⟨a, b⟩ := key xs h
    exact ⟨a, by simp only [PyData.depth]; omega⟩
  | n + 1, .tuple xs, h => by
    have key : ∀ ys : List PD, ys.all (shal n) = true → PyData.plainAll ys = true ∧ PyData.depthAll ys ≤ n := fun ys => by
      induction ys with
      | nil => intro _; exact ⟨rfl, Nat.zero_le _⟩
      | cons y r ih =>
        intro e
        rw [List.all_cons, Bool.and_eq_true] at e
        obtain ⟨a, b⟩ := shal_plain n y e.1
        obtain ⟨p, q⟩ := ih e.2
        exact ⟨by simp [PyData.plainAll, a, p], by simp only [PyData.depthAll]; omega⟩
    obtain ⟨a, b⟩ := key xs h
    exact ⟨a, by simp only [PyData.depth]; omega⟩
theorem all_plain {n : Nat} {xs : List PD} (h : xs.all (shal n) = true) : PyData.plainAll xs = true ∧ PyData.depthAll xs ≤ n := by
  obtain ⟨a, b⟩ := shal_plain (n + 1) (.list xs) h
  refine ⟨a, ?_⟩
  have b : PyData.depthAll xs + 1 ≤ n + 1 := b
  omega

/-! ### data of the heap -/
mutual
theorem Rp.dp {K : W.Frag} {H : Hp} {B : Addr → Prop} : ∀ {x : V} {d : PD}, Rp K H B x d → d.plain = true → Dp K H x d
  | _, _, .non, _ => .non
  | _, _, .bl b, _ => .bl b
  | _, _, .int i, _ => .int i
  | _, _, .str x, _ => .str x
  | _, _, .lst _ r q, h => .lst (SqL.of r) (RpA.dp q h)
  | _, _, .tup _ r q, h => .tup (SqT.of r) (RpA.dp q h)
  | _, _, .dic _ _ _, h => by cases h
  | _, _, .dik _ _ _ _, h => by cases h
theorem RpA.dp {K : W.Frag} {H : Hp} {B : Addr → Prop} : ∀ {xs : List V} {ds : List PD}, RpA K H B xs ds → PyData.plainAll ds = true → DpAll K H xs ds
  | _, _, .nil, _ => .nil
  | _, _, .cons h t, p => .cons (Rp.dp h (Bool.and_eq_true_iff.mp p).1) (RpA.dp t (Bool.and_eq_true_iff.mp p).2)
end
theorem Nw.dp {K : W.Frag} {H : Hp} {B : Addr → Prop} {x : V} {d : PD} (h : Nw K H B x d) (p : d.plain = true) : Dp K H x d := by
  cases h with
  | non => exact .non
  | bl => exact .bl _
  | int => exact .int _
  | str => exact .str _
  | lst r q => exact .lst (SqL.of r) (RpA.dp q p)
  | tup r q => exact .tup (SqT.of r) (RpA.dp q p)
  | dic r q => cases p
  | dik _ _ _ => cases p

section
variable {X : Cx} {g : Gh}
def rEqP (K : W.Frag) : R2 := fun x y H Q => ∃ d e, Dp K H x d ∧ Dp K H y e ∧ shal 40 d = true ∧ shal 40 e = true ∧ Q (.bl (PyData.eqv d e)) H
def rNeP (K : W.Frag) : R2 := fun x y H Q => ∃ d e, Dp K H x d ∧ Dp K H y e ∧ shal 40 d = true ∧ shal 40 e = true ∧ Q (.bl (!PyData.eqv d e)) H
theorem op_eqP (hu : X.A.units + 64 < cLine) : OpR X (compareOp .Eq) (rEqP X.K) := fun pins s σ H x y v u Q I rx ry ⟨d, e, hd, he, sd, se, q⟩ => by
  obtain ⟨p1, b1⟩ := shal_plain _ _ sd
  obtain ⟨p2, b2⟩ := shal_plain _ _ se
  obtain ⟨as, m1⟩ := Dp.reads I d x v hd rx
  obtain ⟨bs, m2⟩ := Dp.reads I e y u he ry
  exact SeqAt.eq_plain m1 m2 p1 p2 (by omega) ⟨.bl _, H, I, rfl, q⟩
theorem op_neP (hu : X.A.units + 64 < cLine) : OpR X (compareOp .NotEq) (rNeP X.K) := fun pins s σ H x y v u Q I rx ry ⟨d, e, hd, he, sd, se, q⟩ => by
  obtain ⟨p1, b1⟩ := shal_plain _ _ sd
  obtain ⟨p2, b2⟩ := shal_plain _ _ se
  obtain ⟨as, m1⟩ := Dp.reads I d x v hd rx
  obtain ⟨bs, m2⟩ := Dp.reads I e y u he ry
  exact SeqAt.ne_plain m1 m2 p1 p2 (by omega) ⟨.bl _, H, I, rfl, q⟩
def rInP (K : W.Frag) (neg : Bool) : R2 := fun x y H Q => ∃ d ds, Dp K H x d ∧ (Dp K H y (.list ds) ∨ Dp K H y (.tuple ds)) ∧ shal 40 d = true ∧ ds.all (shal 39) = true ∧ Q (.bl (if neg then !(ds.any fun e => PyData.eqv e d) else ds.any fun e => PyData.eqv e d)) H
theorem op_inP (hu : X.A.units + 64 < cLine) : OpR X (compareOp .In) (rInP X.K false) := fun pins s σ H x y v u Q I rx ry ⟨d, ds, hd, he, sd, se, q⟩ => by
  obtain ⟨p1, b1⟩ := shal_plain _ _ sd
  obtain ⟨p2, b2⟩ := all_plain se
  obtain ⟨as, m1⟩ := Dp.reads I d x v hd rx
  rcases he with he | he
  · obtain ⟨bs, m2⟩ := Dp.reads I _ y u he ry
    exact SeqAt.in_list_data m2 m1 p2 p1 (by omega) ⟨.bl _, H, I, rfl, q⟩
  · obtain ⟨bs, m2⟩ := Dp.reads I _ y u he ry
    exact SeqAt.in_tuple_data m2 m1 p2 p1 (by omega) ⟨.bl _, H, I, rfl, q⟩
theorem op_ninP (hu : X.A.units + 64 < cLine) : OpR X (compareOp .NotIn) (rInP X.K true) := fun pins s σ H x y v u Q I rx ry ⟨d, ds, hd, he, sd, se, q⟩ => by
  obtain ⟨p1, b1⟩ := shal_plain _ _ sd
  obtain ⟨p2, b2⟩ := all_plain se
  obtain ⟨as, m1⟩ := Dp.reads I d x v hd rx
  rcases he with he | he
  · obtain ⟨bs, m2⟩ := Dp.reads I _ y u he ry
    exact SeqAt.notIn_list_data m2 m1 p2 p1 (by omega) ⟨.bl _, H, I, rfl, q⟩
  · obtain ⟨bs, m2⟩ := Dp.reads I _ y u he ry
    exact SeqAt.notIn_tuple_data m2 m1 p2 p1 (by omega) ⟨.bl _, H, I, rfl, q⟩
def rInD (neg : Bool) : R2 := fun x y H Q => ∃ a o, y = .ref a ∧ DGet H a x o ∧ Q (.bl (if neg then !o.isSome else o.isSome)) H
theorem op_inD (hu : X.A.units + 64 < cLine) : OpR X (compareOp .In) (rInD false) := fun pins s σ H x y v u Q I rx ry ⟨a, o, e, gt, q⟩ => by
  subst e
  cases ry
  exact d_in (by omega) I gt rx fun s' I' => ⟨.bl _, H, I', rfl, q⟩
theorem op_ninD (hu : X.A.units + 64 < cLine) : OpR X (compareOp .NotIn) (rInD true) := fun pins s σ H x y v u Q I rx ry ⟨a, o, e, gt, q⟩ => by
  subst e
  cases ry
  exact d_notIn (by omega) I gt rx fun s' I' => ⟨.bl _, H, I', rfl, q⟩
def rIsnB : R2 := fun x y H Q => ∃ a b : Bool, x = .bl a ∧ y = .bl b ∧ Q (.bl (!decide (a = b))) H
theorem op_isnB : OpR X (compareOp .IsNot) rIsnB := fun pins s σ H x y v u Q I rx ry ⟨a, b, e1, e2, q⟩ => by
  subst e1 e2
  cases rx
  cases ry
  by_cases e : a = b
  · subst e
    exact wpAny_isNot_self rfl ⟨.bl false, H, I, rfl, by simpa using q⟩
  · exact wpAny_isNot_other rfl (fun z => e (Value.bool.inj z)) ⟨.bl true, H, I, rfl, by simpa [e] using q⟩

/-! ### dict keys -/
theorem keyItem_of : ∀ {d : PD} {k : L2.Key}, keyItem d = some k → d = kD k
  | .int i, _, h => by cases h; rfl
  | .str x, _, h => by cases h; rfl
  | .none, _, h => by cases h
  | .bool _, _, h => by cases h
  | .list _, _, h => by cases h
  | .tuple _, _, h => by cases h
  | .dict _, _, h => by cases h
theorem keyItems_of : ∀ {ds : List PD} {k : List L2.Key}, keyItems ds = some k → ds = k.map kD
  | [], k, h => by cases h; rfl
  | d :: r, k, h => by
    unfold keyItems at h
    cases e : keyItem d with
    | none => rw [e] at h; cases h
    | some a =>
      rw [e] at h
      cases e2 : keyItems r with
      | none => rw [e2] at h; cases h
      | some b =>
        rw [e2] at h
        cases h
        rw [keyItem_of e, keyItems_of e2]
        rfl
theorem isKey_of {d : PD} (h : isKey d = true) : ∃ k : List L2.Key, d = .tuple (k.map kD) := by
  unfold isKey at h
  cases d with
  | tuple xs =>
    cases e : keyItems xs with
    | none => rw [show keyD (.tuple xs) = none from e] at h; cases h
    | some k => exact ⟨k, by rw [keyItems_of e]⟩
  | _ => cases h
theorem rp_key {K : W.Frag} {H : Hp} {B : Addr → Prop} : ∀ {k : L2.Key} {x : V}, Rp K H B x (kD k) → x = kV k
  | .inl i, _, h => by cases h; rfl
  | .inr i, _, h => by cases h; rfl
theorem rpA_key {K : W.Frag} {H : Hp} {B : Addr → Prop} : ∀ {k : List L2.Key} {xs : List V}, RpA K H B xs (k.map kD) → xs = k.map kV
  | [], _, h => by cases h; rfl
  | a :: r, _, h => by
    cases h with
    | cons h1 h2 => rw [rp_key h1, rpA_key h2]; rfl
theorem nw_key {K : W.Frag} {H : Hp} {B : Addr → Prop} {k : List L2.Key} {x : V} (h : Nw K H B x (.tuple (k.map kD))) : ∃ b, x = .ref b ∧ H b = some (.tup (k.map kV)) := by
  cases h with
  | tup r q => exact ⟨_, rfl, by rw [r, rpA_key q]⟩
theorem eqv_kD : ∀ a b : L2.Key, PyData.eqv (kD a) (kD b) = decide (a = b)
  | .inl i, .inl j => by
    show (i == j) = decide ((Sum.inl i : L2.Key) = Sum.inl j)
    by_cases e : i = j
    · subst e; simp
    · rw [decide_eq_false (fun q => e (Sum.inl.inj q))]; exact beq_eq_false_iff_ne.mpr e
  | .inl i, .inr j => by
    rw [decide_eq_false (fun q => nomatch q)]; rfl
  | .inr i, .inl j => by
    rw [decide_eq_false (fun q => nomatch q)]; rfl
  | .inr i, .inr j => by
    show (i == j) = decide ((Sum.inr i : L2.Key) = Sum.inr j)
    by_cases e : i = j
    · subst e; simp
    · rw [decide_eq_false (fun q => e (Sum.inr.inj q))]; exact beq_eq_false_iff_ne.mpr e
theorem eqvAll_kD : ∀ a b : List L2.Key, PyData.eqvAll (a.map kD) (b.map kD) = decide (a = b)
  | [], [] => by simp [PyData.eqvAll]
  | [], _ :: _ => by simp [PyData.eqvAll]
  | _ :: _, [] => by simp [PyData.eqvAll]
  | x :: a, y :: b => by
    show (PyData.eqv (kD x) (kD y) && PyData.eqvAll (a.map kD) (b.map kD)) = _
    rw [eqv_kD, eqvAll_kD a b]
    by_cases e : x = y <;> by_cases f : a = b <;> simp [e, f]
theorem eqv_key (a b : List L2.Key) : PyData.eqv (.tuple (a.map kD)) (.tuple (b.map kD)) = decide (a = b) := eqvAll_kD a b
theorem rpD_find {K : W.Frag} {H : Hp} {B : Addr → Prop} (k : List L2.Key) : ∀ {ks : List (List L2.Key × V)} {kvs : List (PD × PD)}, RpD K H B ks kvs →
    (valV ks k = none ∧ dfind kvs (.tuple (k.map kD)) = none) ∨ ∃ v d, valV ks k = some v ∧ dfind kvs (.tuple (k.map kD)) = some d ∧ Rp K H B v d
  | _, _, .nil => .inl ⟨rfl, rfl⟩
  | _, _, .cons (k := k') (v := v) (d := d) (r := r) (ds := ds) h t => by
    by_cases e : k' = k
    · refine .inr ⟨v, d, ?_, ?_, h⟩
      · exact valV_pos (p := (k', v)) e
      · unfold dfind
        rw [List.find?_cons_of_pos (by rw [eqv_key]; exact decide_eq_true e)]
        rfl
    · have e1 : valV ((k', v) :: r) k = valV r k := valV_neg (p := (k', v)) e
      have e2 : dfind ((.tuple (k'.map kD), d) :: ds) (.tuple (k.map kD)) = dfind ds (.tuple (k.map kD)) := by
        unfold dfind
        rw [List.find?_cons_of_neg (by rw [eqv_key, decide_eq_false e]; exact Bool.false_ne_true)]
      rw [e1, e2]
      exact rpD_find k t
theorem rpD_any {K : W.Frag} {H : Hp} {B : Addr → Prop} (k : List L2.Key) : ∀ {ks : List (List L2.Key × V)} {kvs : List (PD × PD)}, RpD K H B ks kvs → (ks.any fun p => decide (p.1 = k)) = kvs.any fun p => PyData.eqv p.1 (.tuple (k.map kD))
  | _, _, .nil => rfl
  | _, _, .cons h t => by rw [List.any_cons, List.any_cons, rpD_any k t, eqv_key]
theorem rpD_len {K : W.Frag} {H : Hp} {B : Addr → Prop} : ∀ {ks : List (List L2.Key × V)} {kvs : List (PD × PD)}, RpD K H B ks kvs → ks.length = kvs.length
  | _, _, .nil => rfl
  | _, _, .cons _ t => by rw [List.length_cons, List.length_cons, rpD_len t]
theorem rpD_map {K : W.Frag} {H : Hp} {B : Addr → Prop} {k : List L2.Key} {v : V} {d : PD} (h : Rp K H B v d) : ∀ {ks : List (List L2.Key × V)} {kvs : List (PD × PD)}, RpD K H B ks kvs →
    RpD K H B (ks.map fun p => if p.1 = k then (p.1, v) else p) (kvs.map fun p => if PyData.eqv p.1 (.tuple (k.map kD)) then (p.1, d) else p)
  | _, _, .nil => .nil
  | _, _, .cons (k := k') q t => by
    rw [List.map_cons, List.map_cons, eqv_key]
    by_cases e : k' = k
    · rw [if_pos e, if_pos (decide_eq_true e)]; exact .cons h (rpD_map h t)
    · rw [if_neg e, if_neg (by rw [decide_eq_false e]; exact Bool.false_ne_true)]; exact .cons q (rpD_map h t)
theorem rpD_snoc {K : W.Frag} {H : Hp} {B : Addr → Prop} {k : List L2.Key} {v : V} {d : PD} (h : Rp K H B v d) : ∀ {ks : List (List L2.Key × V)} {kvs : List (PD × PD)}, RpD K H B ks kvs → RpD K H B (ks ++ [(k, v)]) (kvs ++ [(.tuple (k.map kD), d)])
  | _, _, .nil => .cons h .nil
  | _, _, .cons q t => .cons q (rpD_snoc h t)
theorem rpD_put {K : W.Frag} {H : Hp} {B : Addr → Prop} {k : List L2.Key} {v : V} {d : PD} (h : Rp K H B v d) {ks : List (List L2.Key × V)} {kvs : List (PD × PD)} (q : RpD K H B ks kvs) : RpD K H B (putK ks k v) (dput kvs (.tuple (k.map kD)) d) := by
  unfold putK dput
  rw [rpD_any k q]
  split
  · exact rpD_map h q
  · exact rpD_snoc h q

/-! ### the comparisons as the evaluator has them -/
def fB (f : PD → PD → Option Bool) : PD → PD → Option (PD × Bool) := fun x y => (f x y).map fun b => (.bool b, false)
theorem rp_bl (b : Bool) : ∀ (K : W.Frag) (H : Hp) (B : Addr → Prop), Rp K H B (.bl b) (.bool b) := fun _ _ _ => .bl b
def rCmp (g : Gh) : Co → R2
  | .eq => rEqP g.K
  | .ne => rNeP g.K
  | .lt => rI0 fun i j => .bl (decide (i < j))
  | .le => rI0 fun i j => .bl (decide (i ≤ j))
  | .gt => rI0 fun i j => .bl (decide (j < i))
  | .ge => rI0 fun i j => .bl (decide (j ≤ i))
  | .is => fun x y H Q => (y = .non ∧ Q (.bl (decide (x = .non))) H) ∨ rIsB x y H Q
  | .isn => fun x y H Q => (y = .non ∧ Q (.bl (!decide (x = .non))) H) ∨ rIsnB x y H Q
  | .inn => fun x y H Q => rInP g.K false x y H Q ∨ rInD false x y H Q
  | .nin => fun x y H Q => rInP g.K true x y H Q ∨ rInD true x y H Q
def coOf : Co → CmpOp
  | .eq => .Eq | .ne => .NotEq | .lt => .Lt | .le => .LtE | .gt => .Gt | .ge => .GtE | .is => .Is | .isn => .IsNot | .inn => .In | .nin => .NotIn
theorem op_cmp (hK : X.K = g.K) (hu : X.A.units + 64 < cLine) : ∀ o : Co, OpR X (compareOp (coOf o)) (rCmp g o)
  | .eq => by rw [show rCmp g .eq = rEqP X.K by rw [hK]; rfl]; exact op_eqP hu
  | .ne => by rw [show rCmp g .ne = rNeP X.K by rw [hK]; rfl]; exact op_neP hu
  | .lt => op_lt
  | .le => op_le
  | .gt => op_gt
  | .ge => op_ge
  | .is => op_isN.or op_isBl
  | .isn => op_notN.or op_isnB
  | .inn => OpR.or (by rw [← hK]; exact op_inP hu) (op_inD hu)
  | .nin => OpR.or (by rw [← hK]; exact op_ninP hu) (op_ninD hu)
theorem nw_none {K : W.Frag} {H : Hp} {B : Addr → Prop} {x : V} {d : PD} (h : Nw K H B x d) : decide (x = .non) = (match d with | .none => true | _ => false) := by
  cases h <;> rfl
theorem eqop_of {d e : PD} {b : Bool} (h : eqop d e = some b) : shal 40 d = true ∧ shal 40 e = true ∧ b = PyData.eqv d e := by
  unfold eqop at h
  split at h
  · rename_i k
    rw [Bool.and_eq_true] at k
    exact ⟨k.1, k.2, (Option.some.inj h).symm⟩
  · cases h
theorem inop_of {K : W.Frag} {H : Hp} {B : Addr → Prop} {x y : V} {d e : PD} {b : Bool} (n : Nw K H B x d) (m : Nw K H B y e) (h : inop d e = some b) :
    (∃ ds, Dp K H x d ∧ (Dp K H y (.list ds) ∨ Dp K H y (.tuple ds)) ∧ shal 40 d = true ∧ ds.all (shal 39) = true ∧ b = ds.any fun e => PyData.eqv e d) ∨ ∃ a o, y = .ref a ∧ DGet H a x o ∧ b = o.isSome := by
  cases e with
  | list ds =>
    left
    have h : (if (shal 40 d && ds.all (shal 39)) = true then some (ds.any fun y => PyData.eqv y d) else none) = some b := h
    split at h
    · rename_i k
      rw [Bool.and_eq_true] at k
      exact ⟨ds, n.dp (shal_plain _ _ k.1).1, .inl (m.dp (all_plain k.2).1), k.1, k.2, (Option.some.inj h).symm⟩
    · cases h
  | tuple ds =>
    left
    have h : (if (shal 40 d && ds.all (shal 39)) = true then some (ds.any fun y => PyData.eqv y d) else none) = some b := h
    split at h
    · rename_i k
      rw [Bool.and_eq_true] at k
      exact ⟨ds, n.dp (shal_plain _ _ k.1).1, .inr (m.dp (all_plain k.2).1), k.1, k.2, (Option.some.inj h).symm⟩
    · cases h
  | dict kvs =>
    right
    have h : (if (isKey d && tkeys kvs) = true then some (dfind kvs d).isSome else none) = some b := h
    split at h
    · rename_i ik
      rw [Bool.and_eq_true] at ik
      obtain ⟨ik, tk⟩ := ik
      obtain ⟨k, rfl⟩ := isKey_of ik
      obtain ⟨b', rfl, hb⟩ := nw_key n
      cases m with
      | dik _ ne qq => rw [qq.tkeys ne] at tk; cases tk
      | dic r qq =>
        rename_i a ks
        refine ⟨a, valV ks k, rfl, DGet.t r hb, ?_⟩
        rw [← Option.some.inj h]
        rcases rpD_find k qq with ⟨e1, e2⟩ | ⟨v, d', e1, e2, _⟩ <;> rw [e1, e2] <;> rfl
    · cases h
  | _ => cases h
theorem isop_of {K : W.Frag} {H : Hp} {B : Addr → Prop} {x y : V} {d e : PD} {b : Bool} (n : Nw K H B x d) (m : Nw K H B y e) (h : isop d e = some b) :
    (y = .non ∧ b = decide (x = .non)) ∨ ∃ a c, x = .bl a ∧ y = .bl c ∧ b = decide (a = c) := by
  have k := nw_none n
  cases e with
  | none =>
    cases m
    left
    refine ⟨rfl, ?_⟩
    rw [k]
    cases d <;> (cases h; rfl)
  | bool c =>
    right
    cases m
    cases d with
    | bool a =>
      cases n
      cases h
      exact ⟨a, c, rfl, rfl, by cases a <;> cases c <;> rfl⟩
    | _ => cases h
  | _ => cases h
theorem fB_of {f : PD → PD → Option Bool} {d e z : PD} {fr : Bool} (h : fB f d e = some (z, fr)) : ∃ b, f d e = some b ∧ z = .bool b ∧ fr = false := by
  unfold fB at h
  cases q : f d e with
  | none => rw [q] at h; cases h
  | some b => rw [q] at h; cases h; exact ⟨b, rfl, rfl, rfl⟩
theorem not_of {o : Option Bool} {b : Bool} (h : o.map (fun b => !b) = some b) : ∃ c, o = some c ∧ b = !c := by
  cases o with
  | none => cases h
  | some c => cases h; exact ⟨c, rfl, rfl⟩
theorem br_int (f : Int → Int → Bool) : BinRule g (rI0 fun i j => .bl (f i j)) (fB (intop f)) := fun hd σ s H x y d e z fr Q c n m q hq => (binI0 (f := fun i j => some (.bool (f i j))) fun i j z e => by cases e; exact rp_bl _) hd σ s H x y d e z fr Q c n m (by cases d <;> cases e <;> first | exact q | cases q) hq
theorem br_cmp : ∀ o : Co, BinRule g (rCmp g o) (fB (cmpop o))
  | .eq => fun hd σ s H x y d e z fr Q c n m q hq => by
    obtain ⟨b, h, rfl, rfl⟩ := fB_of q
    obtain ⟨h1, h2, rfl⟩ := eqop_of h
    exact ⟨d, e, n.dp (shal_plain _ _ h1).1, m.dp (shal_plain _ _ h2).1, h1, h2, hq _ H (Fr.refl _ _) (RE.val c (.bl _))⟩
  | .ne => fun hd σ s H x y d e z fr Q c n m q hq => by
    obtain ⟨b, h, rfl, rfl⟩ := fB_of q
    obtain ⟨c', hh, rfl⟩ := not_of h
    obtain ⟨h1, h2, rfl⟩ := eqop_of hh
    exact ⟨d, e, n.dp (shal_plain _ _ h1).1, m.dp (shal_plain _ _ h2).1, h1, h2, hq _ H (Fr.refl _ _) (RE.val c (.bl _))⟩
  | .lt => br_int _
  | .le => br_int _
  | .gt => br_int _
  | .ge => br_int _
  | .is => fun hd σ s H x y d e z fr Q c n m q hq => by
    obtain ⟨b, h, rfl, rfl⟩ := fB_of q
    rcases isop_of n m h with ⟨e1, rfl⟩ | ⟨a, c', e1, e2, rfl⟩
    · exact .inl ⟨e1, hq _ H (Fr.refl _ _) (RE.val c (.bl _))⟩
    · exact .inr ⟨a, c', e1, e2, hq _ H (Fr.refl _ _) (RE.val c (.bl _))⟩
  | .isn => fun hd σ s H x y d e z fr Q c n m q hq => by
    obtain ⟨b, h, rfl, rfl⟩ := fB_of q
    obtain ⟨c', hh, rfl⟩ := not_of h
    rcases isop_of n m hh with ⟨e1, rfl⟩ | ⟨a, c', e1, e2, rfl⟩
    · exact .inl ⟨e1, hq _ H (Fr.refl _ _) (RE.val c (.bl _))⟩
    · exact .inr ⟨a, c', e1, e2, hq _ H (Fr.refl _ _) (RE.val c (.bl _))⟩
  | .inn => fun hd σ s H x y d e z fr Q c n m q hq => by
    obtain ⟨b, h, rfl, rfl⟩ := fB_of q
    rcases inop_of n m h with ⟨ds, h1, h2, h3, h4, rfl⟩ | ⟨a, o, e1, h1, rfl⟩
    · exact .inl ⟨d, ds, h1, h2, h3, h4, hq _ H (Fr.refl _ _) (RE.val c (.bl _))⟩
    · exact .inr ⟨a, o, e1, h1, hq _ H (Fr.refl _ _) (RE.val c (.bl _))⟩
  | .nin => fun hd σ s H x y d e z fr Q c n m q hq => by
    obtain ⟨b, h, rfl, rfl⟩ := fB_of q
    obtain ⟨c', hh, rfl⟩ := not_of h
    rcases inop_of n m hh with ⟨ds, h1, h2, h3, h4, rfl⟩ | ⟨a, o, e1, h1, rfl⟩
    · exact .inl ⟨d, ds, h1, h2, h3, h4, hq _ H (Fr.refl _ _) (RE.val c (.bl _))⟩
    · exact .inr ⟨a, o, e1, h1, hq _ H (Fr.refl _ _) (RE.val c (.bl _))⟩
theorem outB_D (o : Option Bool) (s : S) : outB o s = outD (o.map fun b => (.bool b, false)) s := by cases o <;> rfl
end
end Pev
set_option maxRecDepth 100000
set_option autoImplicit false
/-! Pev, soundness 5: subscripts, slices, built-ins. -/
namespace Pev
open PySem PySem.Spec PyProof.Rows L2

section
variable {X : Cx} {g : Gh} {hd : Dy} {σ : L2.St} {s : S} {H H0 : Hp}
/-- a tuple's items, a list's -/
theorem rpA_sub {K : W.Frag} {H : Hp} {B : Addr → Prop} {xs : List V} {ds : List PD} {i : Int} {n : Nat} {d : PD} (h : RpA K H B xs ds) (e : ixAt ds i = some n) (ed : ds[n]? = some d) : ∃ v, atI xs i = some v ∧ Rp K H B v d := by
  obtain ⟨v, e1, e2⟩ := h.get ed
  refine ⟨v, ?_, e2⟩
  have l := h.length
  unfold atI ixN
  unfold ixAt at e
  rw [l]
  rw [e]
  exact e1
def rIxD : R2 := fun x y H Q => ∃ a v, x = .ref a ∧ DGet H a y (some v) ∧ Q v H
theorem ix_dict (hu : X.A.units + 64 < cLine) : IxR X rIxD := by
  intro value slice pins st σ H x y v u Q I rx ry ⟨a, w, e, gt, q⟩ hs
  subst e
  cases rx
  exact tail_any (ops := [.ref a, u]) (dict_typeIs I gt) PySem.F.slot_dict_getitem.lookup (d_getItem (by omega) I gt ry fun w' s' I' rw' => ⟨w, H, I', rw', q⟩) hs
def rSub (g : Gh) : R2 := fun x y H Q => rIxL g.K x y H Q ∨ (rIxT g.K x y H Q ∨ rIxD x y H Q)
theorem ix_sub (hK : X.K = g.K) (hu : X.A.units + 64 < cLine) : IxR X (rSub g) := by
  have h1 : IxR X (rIxL g.K) := by rw [← hK]; exact ix_list
  have h2 : IxR X (rIxT g.K) := by rw [← hK]; exact ix_tup
  exact h1.or (h2.or (ix_dict hu))
def fSub : PD → PD → Option (PD × Bool) := fun x y => (subop x y).map fun d => (d, false)
theorem br_sub : BinRule g (rSub g) fSub := fun hd σ s H x y d e z fr Q c n m q hq => by
  unfold fSub at q
  cases w : subop d e with
  | none => rw [w] at q; cases q
  | some z' =>
    rw [w] at q
    cases q
    cases d with
    | list xs =>
      cases e with
      | int i =>
        cases m
        left
        cases n with
        | lst r qq =>
          have w : ((ixAt xs i).bind fun j => xs[j]?) = some z := w
          cases e1 : ixAt xs i with
          | none => rw [e1] at w; cases w
          | some j =>
            rw [e1] at w
            obtain ⟨v, a1, a2⟩ := rpA_sub qq e1 w
            exact ⟨_, _, i, v, rfl, rfl, SqL.of r, a1, hq _ H (Fr.refl _ _) (RE.val c a2)⟩
      | _ => cases w
    | tuple xs =>
      cases e with
      | int i =>
        cases m
        right; left
        cases n with
        | tup r qq =>
          have w : ((ixAt xs i).bind fun j => xs[j]?) = some z := w
          cases e1 : ixAt xs i with
          | none => rw [e1] at w; cases w
          | some j =>
            rw [e1] at w
            obtain ⟨v, a1, a2⟩ := rpA_sub qq e1 w
            exact ⟨_, _, i, v, rfl, rfl, SqT.of r, a1, hq _ H (Fr.refl _ _) (RE.val c a2)⟩
      | _ => cases w
    | dict kvs =>
      right; right
      have w : (if (isKey e && tkeys kvs) = true then dfind kvs e else none) = some z := by cases e <;> exact w
      split at w
      · rename_i ik
        rw [Bool.and_eq_true] at ik
        obtain ⟨ik, tk⟩ := ik
        obtain ⟨k, rfl⟩ := isKey_of ik
        obtain ⟨b', rfl, hb⟩ := nw_key m
        cases n with
        | dik _ ne qq => rw [qq.tkeys ne] at tk; cases tk
        | dic r qq =>
          rcases rpD_find k qq with ⟨e1, e2⟩ | ⟨v, d', e1, e2, e3⟩
          · rw [e2] at w; cases w
          · rw [e2] at w
            cases w
            refine ⟨_, v, rfl, ?_, hq _ H (Fr.refl _ _) (RE.val c e3)⟩
            rw [← e1]
            exact DGet.t r hb
      · cases w
    | _ => cases e <;> cases w
theorem outD0_D (o : Option PD) (s : S) : outD0 o s = outD (o.map fun d => (d, false)) s := by cases o <;> rfl

/-! ### slices -/
theorem cutIx_eq (n d : Nat) (o : Option Int) : HT.sIx n d o = cutIx n d o := by
  cases o with
  | none => rfl
  | some i =>
    show (if i < 0 then (i + (n : Int)).toNat else min i.toNat n) = if 0 ≤ i then min i.toNat n else (i + n).toNat
    by_cases h : i < 0
    · rw [if_pos h, if_neg (by omega)]
    · rw [if_neg h, if_pos (by omega)]
theorem cut_len {α : Type} (xs : List α) : cutIx xs.length = fun d o => HT.sIx xs.length d o := by funext d o; exact (cutIx_eq _ _ _).symm
theorem rpA_cut {K : W.Frag} {H : Hp} {B : Addr → Prop} {xs : List V} {ds : List PD} (h : RpA K H B xs ds) (lo hi : Option Int) : RpA K H B (cutV xs lo hi) (cutL ds lo hi) := by
  unfold cutV cutL
  rw [cutIx_eq, cutIx_eq, h.length]
  exact (h.drop _).take _
def rSlc (g : Gh) : V → Option Int → Option Int → Hp → VK → Prop := fun x lo hi H Q => rSlL g.K x lo hi H Q ∨ rSlA g.K x lo hi H Q
theorem sl_slc (hK : X.K = g.K) : SlR X (rSlc g) := by
  have h1 : SlR X (rSlL g.K) := by rw [← hK]; exact sl_list
  have h2 : SlR X (rSlA g.K) := by rw [← hK]; exact sl_tupA
  exact h1.or h2
theorem br_slc {x : V} {lo hi : Option Int} {d z : PD} {fr : Bool} {Q : VK} (c : Cl g hd σ s H) (n : Nw g.K H (Bz hd σ s.ρ) x d) (q : slcop d lo hi = some (z, fr)) (hq : ∀ v H', Fr (Av hd σ s.ρ) H H' → RE g hd σ H ⟨.dat z, fr⟩ v s H' → Q v H') : rSlc g x lo hi H Q := by
  have n0 := n
  cases d with
  | list xs =>
    left
    cases q
    cases n with
    | lst r qq => exact ⟨_, _, rfl, SqL.of r, fun p hp => hq _ _ (Fr.new hp) (RE.newL c (rpA_cut qq lo hi) hp hp)⟩
  | tuple xs =>
    right
    cases q
    cases n with
    | tup r qq =>
      rename_i a us
      refine ⟨_, _, rfl, SqT.of r, fun w => ?_, fun _ p hp => hq _ _ (Fr.new hp) (RE.newT c (rpA_cut qq lo hi) hp)⟩
      have e : cutL xs lo hi = xs := by
        unfold cutL
        rw [← cutIx_eq, ← cutIx_eq, ← qq.length, w.1, w.2]
        simp [qq.length]
      rw [e] at hq
      exact hq _ H (Fr.refl _ _) (RE.val c (tup_rp c n0))
  | _ => cases q

/-! ### built-ins -/
inductive NwA (K : W.Frag) (H : Hp) (B : Addr → Prop) : List V → List PD → Prop
  | nil : NwA K H B [] []
  | cons {v : V} {vs : List V} {d : PD} {ds : List PD} : Nw K H B v d → NwA K H B vs ds → NwA K H B (v :: vs) (d :: ds)
def BltRule (g : Gh) (r : List V → Hp → VK → Prop) (f : List PD → Option (PD × Bool)) : Prop := ∀ (hd : Dy) (σ : L2.St) (s : S) (H : Hp) (xs : List V) (ds : List PD) (z : PD) (fr : Bool) (Q : VK), Cl g hd σ s H → NwA g.K H (Bz hd σ s.ρ) xs ds → f ds = some (z, fr) →
  (∀ v H', Fr (Av hd σ s.ρ) H H' → RE g hd σ H ⟨.dat z, fr⟩ v s H' → Q v H') → r xs H Q
theorem nwA1 {K : W.Frag} {H : Hp} {B : Addr → Prop} {xs : List V} {d : PD} (h : NwA K H B xs [d]) : ∃ x, xs = [x] ∧ Nw K H B x d := by
  cases h with
  | cons a b => cases b; exact ⟨_, rfl, a⟩
theorem nwA2 {K : W.Frag} {H : Hp} {B : Addr → Prop} {xs : List V} {d e : PD} (h : NwA K H B xs [d, e]) : ∃ x y, xs = [x, y] ∧ Nw K H B x d ∧ Nw K H B y e := by
  cases h with
  | cons a b =>
    obtain ⟨y, rfl, q⟩ := nwA1 b
    exact ⟨_, y, rfl, a, q⟩
theorem rpA_ints {K : W.Frag} {H : Hp} {B : Addr → Prop} : ∀ {xs : List V} {ds : List PD} {ns : List Int}, RpA K H B xs ds → asInts ds = some ns → xs = ns.map V.int
  | _, _, _, .nil, e => by cases e; rfl
  | _, _, _, .cons (d := d) (ds := ds) h t, e => by
    cases d with
    | int i =>
      cases h
      have e : (asInts ds).map (i :: ·) = some _ := e
      cases q : asInts ds with
      | none => rw [q] at e; cases e
      | some ms => rw [q] at e; cases e; rw [rpA_ints t q]; rfl
    | _ => cases e
theorem rpA_bools {K : W.Frag} {H : Hp} {B : Addr → Prop} : ∀ {xs : List V} {ds : List PD} {ns : List Bool}, RpA K H B xs ds → asBools ds = some ns → xs = ns.map V.bl
  | _, _, _, .nil, e => by cases e; rfl
  | _, _, _, .cons (d := d) (ds := ds) h t, e => by
    cases d with
    | bool i =>
      cases h
      have e : (asBools ds).map (i :: ·) = some _ := e
      cases q : asBools ds with
      | none => rw [q] at e; cases e
      | some ms => rw [q] at e; cases e; rw [rpA_bools t q]; rfl
    | _ => cases e
theorem map_of {α β : Type} {o : Option α} {f : α → β} {b : β} (h : o.map f = some b) : ∃ a, o = some a ∧ b = f a := by
  cases o with
  | none => cases h
  | some a => cases h; exact ⟨a, rfl, rfl⟩

/-! len -/
def rLenA (g : Gh) : List V → Hp → VK → Prop := fun xs H Q => (∃ p ys, xs = [.ref p] ∧ (SqL g.K H p ys ∨ SqT g.K H p ys) ∧ Q (.int ys.length) H) ∨ rLenT xs H Q
theorem cr_len (hK : X.K = g.K) : CallR X (.builtin "len") (rLenA g) := by
  have h : CallR X (.builtin "len") (fun xs H Q => ∃ p ys, xs = [.ref p] ∧ (SqL g.K H p ys ∨ SqT g.K H p ys) ∧ Q (.int ys.length) H) := by rw [← hK]; exact call_len_seq
  exact h.or call_len_dT
theorem bl_len : BltRule g (rLenA g) (bltop .len) := fun hd σ s H xs ds z fr Q c n q hq => by
  match ds, q with
  | [.list ys], q =>
    obtain ⟨x, rfl, m⟩ := nwA1 n
    cases q
    cases m with
    | lst r qq => exact .inl ⟨_, _, rfl, .inl (SqL.of r), hq _ H (Fr.refl _ _) (RE.val c (by rw [qq.length]; exact .int _))⟩
  | [.tuple ys], q =>
    obtain ⟨x, rfl, m⟩ := nwA1 n
    cases q
    cases m with
    | tup r qq => exact .inl ⟨_, _, rfl, .inr (SqT.of r), hq _ H (Fr.refl _ _) (RE.val c (by rw [qq.length]; exact .int _))⟩
  | [.dict ys], q =>
    obtain ⟨x, rfl, m⟩ := nwA1 n
    have q : (if tkeys ys = true then some (PyData.int ys.length, false) else none) = some (z, fr) := q
    split at q
    rotate_left
    · cases q
    rename_i tk
    cases q
    cases m with
    | dik _ ne qq => rw [qq.tkeys ne] at tk; cases tk
    | dic r qq => exact .inr ⟨_, _, rfl, r, hq _ H (Fr.refl _ _) (RE.val c (by rw [rpD_len qq]; exact .int _))⟩
/-! tuple(x), list(x) -/
def rTupA (g : Gh) : List V → Hp → VK → Prop := fun xs H Q => ∃ p ys, xs = [.ref p] ∧ ((SqL g.K H p ys ∧ ∀ l, H l = none → Q (.ref l) (upd H l (.tup ys))) ∨ (SqT g.K H p ys ∧ Q (.ref p) H))
theorem cr_tuple (hK : X.K = g.K) : CallR X (.type "tuple") (rTupA g) := by
  have h := @call_tuple_of X
  rw [hK] at h
  exact h
theorem bl_tuple : BltRule g (rTupA g) (bltop .tuple) := fun hd σ s H xs ds z fr Q c n q hq => by
  match ds, q with
  | [.list ys], q =>
    obtain ⟨x, rfl, m⟩ := nwA1 n
    cases q
    cases m with
    | lst r qq => exact ⟨_, _, rfl, .inl ⟨SqL.of r, fun p hp => hq _ _ (Fr.new hp) (RE.newT c qq hp)⟩⟩
  | [.tuple ys], q =>
    obtain ⟨x, rfl, m⟩ := nwA1 n
    cases q
    have m0 := m
    cases m with
    | tup r qq => exact ⟨_, _, rfl, .inr ⟨SqT.of r, hq _ H (Fr.refl _ _) (RE.val c (tup_rp c m0))⟩⟩
def rLstA (g : Gh) : List V → Hp → VK → Prop := fun xs H Q => (∃ p ys, xs = [.ref p] ∧ (SqL g.K H p ys ∨ SqT g.K H p ys) ∧ ∀ l, H l = none → Q (.ref l) (upd H l (.lst ys))) ∨
  (∃ d kvs, xs = [V.ref d] ∧ Rd H d (.dT kvs) ∧ ∀ p bs, H p = none → IsKeys H kvs bs → Q (.ref p) (upd H p (.lst (bs.map V.ref))))
theorem cr_list (hK : X.K = g.K) (hc : X.calm = true) : CallR X (.type "list") (rLstA g) := by
  have h := @call_list_of X
  rw [hK] at h
  exact h.or (call_list_dT hc)
theorem rpA_keyOf {K : W.Frag} {H : Hp} {B : Addr → Prop} : ∀ k : List L2.Key, RpA K H B (k.map kV) (k.map kD)
  | [] => .nil
  | .inl i :: r => .cons (.int i) (rpA_keyOf r)
  | .inr i :: r => .cons (.str i) (rpA_keyOf r)
theorem keys_rp (c : Cl g hd σ s H) {kvs : List (List L2.Key × V)} {bs : List Addr} (hk : IsKeys H kvs bs) : ∀ {ds : List (PD × PD)}, RpD g.K H (Bz hd σ s.ρ) kvs ds → RpA g.K H (Bz hd σ s.ρ) (bs.map V.ref) (ds.map (·.1)) := by
  unfold IsKeys at hk
  induction hk with
  | nil => intro ds h; cases h; exact .nil
  | cons e t ih =>
    intro ds h
    cases h with
    | cons h1 h2 => exact .cons (tup_rp c (.tup e (rpA_keyOf _))) (ih h2)
theorem bl_list : BltRule g (rLstA g) (bltop .list) := fun hd σ s H xs ds z fr Q c n q hq => by
  match ds, q with
  | [.list ys], q =>
    obtain ⟨x, rfl, m⟩ := nwA1 n
    cases q
    cases m with
    | lst r qq => exact .inl ⟨_, _, rfl, .inl (SqL.of r), fun p hp => hq _ _ (Fr.new hp) (RE.newL c qq hp hp)⟩
  | [.tuple ys], q =>
    obtain ⟨x, rfl, m⟩ := nwA1 n
    cases q
    cases m with
    | tup r qq => exact .inl ⟨_, _, rfl, .inr (SqT.of r), fun p hp => hq _ _ (Fr.new hp) (RE.newL c qq hp hp)⟩
  | [.dict ys], q =>
    obtain ⟨x, rfl, m⟩ := nwA1 n
    have q : (if tkeys ys = true then some (PyData.list (ys.map (·.1)), true) else none) = some (z, fr) := q
    split at q
    rotate_left
    · cases q
    rename_i tk
    cases q
    cases m with
    | dik _ ne qq => rw [qq.tkeys ne] at tk; cases tk
    | dic r qq => exact .inr ⟨_, _, rfl, .inl r, fun p bs hp hb => hq _ _ (Fr.new hp) (RE.newL c (keys_rp c hb qq) hp hp)⟩
/-! sum -/
def rSumA (g : Gh) : List V → Hp → VK → Prop := fun xs H Q => ∃ (a : Addr) (ns : List Int), xs = [.ref a] ∧ (SqL g.K H a (ns.map V.int) ∨ SqT g.K H a (ns.map V.int)) ∧ Q (.int ns.sum) H
theorem cr_sumA (hK : X.K = g.K) (hc : X.calm = true) : CallR X (.builtin "sum") (rSumA g) := fun pins st σ H vs us Q I r ⟨a, ns, e, hs, q⟩ => by
  subst e
  rw [← hK] at hs
  rcases hs with hs | hs
  · exact cr_sum hc pins st σ H _ us Q I r ⟨a, ns, rfl, hs, q⟩
  · obtain ⟨its, rv, ht, _⟩ := I.tuple hs
    rw [Vals.ref1 r]
    have hi := rv.ints
    obtain ⟨xs, e⟩ := hi.allInts.items
    have hn : numsOf (intItems xs).toList = ns := by rw [← e]; exact hi.numsOf
    rw [nums_intItems] at hn
    rw [e] at ht
    refine PySem.W.ktm_sumG (I.ok.hd hc) (show st.heap.IsTuple _ _ from ht) fun h' tk t' hk => ?_
    rw [preSum_eq, List.take_of_length_le (by simp), hn]
    exact ⟨.int _, H, I.kept hk, ⟨_, rfl⟩, q⟩
theorem bl_sum : BltRule g (rSumA g) (bltop .sum) := fun hd σ s H xs ds z fr Q c n q hq => by
  match ds, q with
  | [.list ys], q =>
    obtain ⟨x, rfl, m⟩ := nwA1 n
    obtain ⟨ns, e1, e2⟩ := map_of (show (asInts ys).map (fun ns => (PyData.int ns.sum, false)) = some (z, fr) from q)
    cases e2
    cases m with
    | lst r qq => rw [rpA_ints qq e1] at r; exact ⟨_, _, rfl, .inl (SqL.of r), hq _ H (Fr.refl _ _) (RE.val c (.int _))⟩
  | [.tuple ys], q =>
    obtain ⟨x, rfl, m⟩ := nwA1 n
    obtain ⟨ns, e1, e2⟩ := map_of (show (asInts ys).map (fun ns => (PyData.int ns.sum, false)) = some (z, fr) from q)
    cases e2
    cases m with
    | tup r qq => rw [rpA_ints qq e1] at r; exact ⟨_, _, rfl, .inr (SqT.of r), hq _ H (Fr.refl _ _) (RE.val c (.int _))⟩
/-! all, any -/
def rAllA (g : Gh) : List V → Hp → VK → Prop := fun vs H Q => ∃ (a : Addr) (bs : List Bool), vs = [V.ref a] ∧ SqL g.K H a (bs.map V.bl) ∧ Q (.bl (bs.all id)) H
theorem cr_allA (hK : X.K = g.K) (hc : X.calm = true) : CallR X (.builtin "all") (rAllA g) := by
  have h := @cr_all X hc
  unfold rAll at h
  rw [hK] at h
  exact h
theorem bl_all : BltRule g (rAllA g) (bltop .all) := fun hd σ s H xs ds z fr Q c n q hq => by
  match ds, q with
  | [.list ys], q =>
    obtain ⟨x, rfl, m⟩ := nwA1 n
    obtain ⟨ns, e1, e2⟩ := map_of (show (asBools ys).map (fun bs => (PyData.bool (bs.all id), false)) = some (z, fr) from q)
    cases e2
    cases m with
    | lst r qq => rw [rpA_bools qq e1] at r; exact ⟨_, _, rfl, SqL.of r, hq _ H (Fr.refl _ _) (RE.val c (.bl _))⟩
def rAnyA (g : Gh) : List V → Hp → VK → Prop := fun vs H Q => (∃ (a : Addr) (bs : List Bool), vs = [V.ref a] ∧ SqL g.K H a (bs.map V.bl) ∧ Q (.bl (bs.any id)) H) ∨
  ∃ (a : Addr) (ns : List Int), vs = [V.ref a] ∧ SqT g.K H a (ns.map V.int) ∧ Q (.bl (ns.any (· != 0))) H
theorem reads_ints {h : Heap} : ∀ {its : List Value} {ns : List Int}, Vals (ns.map V.int) its → ∃ as, ReadsAll h its (ns.map PyData.int) as
  | _, [], .nil => ⟨[], .nil⟩
  | u :: _, n :: r, .cons a b => by
    obtain ⟨t, rfl⟩ : ∃ t, u = Value.int n t := a
    obtain ⟨as, q⟩ := reads_ints b
    exact ⟨_, .cons (.int n t) q⟩
theorem plain_ints : ∀ ns : List Int, PyData.plainAll (ns.map PyData.int) = true
  | [] => rfl
  | _ :: r => plain_ints r
theorem cr_anyA (hK : X.K = g.K) (hc : X.calm = true) : CallR X (.builtin "any") (rAnyA g) := fun pins st σ H vs us Q I r hh => by
  rcases hh with ⟨a, bs, rfl, hs, q⟩ | ⟨a, ns, rfl, hs, q⟩
  · rw [← hK] at hs
    exact cr_any hc pins st σ H _ us Q I r ⟨a, bs, rfl, hs, q⟩
  · rw [← hK] at hs
    obtain ⟨its, rv, ht, _⟩ := I.tuple hs
    rw [Vals.ref1 r]
    obtain ⟨as, rd⟩ := reads_ints (h := st.heap) rv
    refine PySem.W.any_tuple_data (I.ok.hd hc) (show st.heap.IsTuple _ _ from ht) rd (plain_ints ns) (fun x hx => ?_) fun h' tk hk => ?_
    · obtain ⟨i, _, rfl⟩ := List.mem_map.mp hx
      trivial
    · refine ⟨.bl (ns.any (· != 0)), H, I.kept hk, ?_, q⟩
      show Value.bool _ = Value.bool _
      congr 1
      rw [List.any_map]
      rfl
theorem bl_any : BltRule g (rAnyA g) (bltop .any) := fun hd σ s H xs ds z fr Q c n q hq => by
  match ds, q with
  | [.list ys], q =>
    obtain ⟨x, rfl, m⟩ := nwA1 n
    obtain ⟨ns, e1, e2⟩ := map_of (show (asBools ys).map (fun bs => (PyData.bool (bs.any id), false)) = some (z, fr) from q)
    cases e2
    cases m with
    | lst r qq => rw [rpA_bools qq e1] at r; exact .inl ⟨_, _, rfl, SqL.of r, hq _ H (Fr.refl _ _) (RE.val c (.bl _))⟩
  | [.tuple ys], q =>
    obtain ⟨x, rfl, m⟩ := nwA1 n
    obtain ⟨ns, e1, e2⟩ := map_of (show (asInts ys).map (fun ns => (PyData.bool (ns.any (· != 0)), false)) = some (z, fr) from q)
    cases e2
    cases m with
    | tup r qq => rw [rpA_ints qq e1] at r; exact .inr ⟨_, _, rfl, SqT.of r, hq _ H (Fr.refl _ _) (RE.val c (.bl _))⟩
/-! abs, int, min, max of two -/
def rAbsA : List V → Hp → VK → Prop := fun xs H Q => ∃ i, xs = [.int i] ∧ Q (.int (if i < 0 then -i else i)) H
theorem bl_abs : BltRule g rAbsA (bltop .abs) := fun hd σ s H xs ds z fr Q c n q hq => by
  match ds, q with
  | [.int i], q =>
    obtain ⟨x, rfl, m⟩ := nwA1 n
    cases q
    cases m
    exact ⟨i, rfl, hq _ H (Fr.refl _ _) (RE.val c (.int _))⟩
def rIntA : List V → Hp → VK → Prop := fun xs H Q => (∃ i, xs = [.int i] ∧ Q (.int i) H) ∨ ∃ k, xs = [.bl k] ∧ Q (.int (if k then 1 else 0)) H
theorem bl_int : BltRule g rIntA (bltop .int) := fun hd σ s H xs ds z fr Q c n q hq => by
  match ds, q with
  | [.int i], q =>
    obtain ⟨x, rfl, m⟩ := nwA1 n
    cases q
    cases m
    exact .inl ⟨i, rfl, hq _ H (Fr.refl _ _) (RE.val c (.int _))⟩
  | [.bool b], q =>
    obtain ⟨x, rfl, m⟩ := nwA1 n
    cases q
    cases m
    exact .inr ⟨b, rfl, hq _ H (Fr.refl _ _) (RE.val c (.int _))⟩
def rMin2A : List V → Hp → VK → Prop := fun xs H Q => ∃ i j, xs = [.int i, .int j] ∧ Q (.int (if j < i then j else i)) H
theorem bl_min2 : BltRule g rMin2A (bltop .min2) := fun hd σ s H xs ds z fr Q c n q hq => by
  match ds, q with
  | [.int i, .int j], q =>
    obtain ⟨x, y, rfl, m, m'⟩ := nwA2 n
    cases q
    cases m
    cases m'
    exact ⟨i, j, rfl, hq _ H (Fr.refl _ _) (RE.val c (.int _))⟩
def rMax2A : List V → Hp → VK → Prop := fun xs H Q => ∃ i j, xs = [.int i, .int j] ∧ Q (.int (if j > i then j else i)) H
theorem bl_max2 : BltRule g rMax2A (bltop .max2) := fun hd σ s H xs ds z fr Q c n q hq => by
  match ds, q with
  | [.int i, .int j], q =>
    obtain ⟨x, y, rfl, m, m'⟩ := nwA2 n
    cases q
    cases m
    cases m'
    exact ⟨i, j, rfl, hq _ H (Fr.refl _ _) (RE.val c (.int _))⟩
end
end Pev
set_option maxRecDepth 100000
set_option autoImplicit false
/-! Pev, soundness 6: least and greatest, sorting, counts, kinds. -/
namespace Pev
open PySem PySem.Spec PyProof.Rows L2

section
variable {X : Cx} {g : Gh} {hd : Dy} {σ : L2.St} {s : S} {H H0 : Hp} {pins : List (Addr × Obj)} {st : Shared}
theorem RpA.reads {K : W.Frag} {B : Addr → Prop} (hK : X.K = K) (I : Inv X pins σ H st) {xs : List V} {ds : List PD} {us : List Value} (h : RpA K H B xs ds) (p : PyData.plainAll ds = true) (r : Vals xs us) : ∃ as, ReadsAll st.heap us ds as := by
  subst hK
  exact Dp.readsAll I ds xs us (h.dp p) r
theorem alike_of {xs : List PD} (h : alikeB xs = true) : ∀ x ∈ xs, ∀ y ∈ xs, W.alike x y = true := fun x hx y hy => by
  unfold alikeB at h
  rw [List.all_eq_true] at h
  have q := h x hx
  rw [List.all_eq_true] at q
  exact q y hy
theorem noNone_of {xs : List PD} (h : noNone xs = true) : ∀ x ∈ xs, x ≠ .none := fun x hx e => by
  unfold noNone at h
  rw [List.all_eq_true] at h
  have q := h x hx
  rw [e] at q
  cases q
theorem alikeAll_of {xs : List PD} (h : alikeB xs = true) (h2 : noNone xs = true) : W.AlikeAll xs := ⟨alike_of h, noNone_of h2⟩
theorem readsAll_ix {h : Heap} : ∀ {us : List Value} {ds : List PD} {as : List Addr} {i : Nat} {u : Value}, ReadsAll h us ds as → us[i]? = some u → ∃ d bs, ds[i]? = some d ∧ Reads h u d bs
  | _, _, _, _, _, .nil, e => by simp at e
  | _, _, _, 0, _, .cons (d := d) r t, e => by
    simp at e
    subst e
    exact ⟨d, _, rfl, r⟩
  | _, _, _, i + 1, _, .cons r t, e => by
    obtain ⟨d, bs, h1, h2⟩ := readsAll_ix (i := i) t (by simpa using e)
    exact ⟨d, bs, by simpa using h1, h2⟩
/-- min, max of a list or a tuple; big: whether max -/
def rBest (g : Gh) (big : Bool) : List V → Hp → VK → Prop := fun xs H Q => ∃ (a : Addr) (vs : List V) (B : Addr → Prop) (d : PD) (ds : List PD), xs = [.ref a] ∧ (SqL g.K H a vs ∨ SqT g.K H a vs) ∧ RpA g.K H B vs (d :: ds) ∧ W.AlikeAll (d :: ds) ∧ (d :: ds).all (shal 39) = true ∧
  ∀ (i : Nat) (v : V), vs[i]? = some v → Rp g.K H B v (if big then W.maxD d ds else W.minD d ds) → Q v H
theorem best_end {B : Addr → Prop} (hK : X.K = g.K) (I : Inv X pins σ H st) {vs : List V} {its : List Value} {ds : List PD} {m : PD} {i : Nat} {u : Value} {h' : Heap} {bs : List Addr} (r : Vals vs its) (q : RpA g.K H B vs ds) (p : PyData.plainAll ds = true)
    (hu : its[i]? = some u) (hr : Reads h' u m bs) (hk : ∀ b o, st.heap.get? b = some o → h'.get? b = some o) : ∃ v, vs[i]? = some v ∧ RelV v u ∧ Rp g.K H B v m := by
  obtain ⟨as, ra⟩ := q.reads hK I p r
  obtain ⟨d, cs, e1, e2⟩ := readsAll_ix ra hu
  obtain ⟨v, e3, e4⟩ := q.get e1
  obtain ⟨u', e5, e6⟩ := r.get e3
  rw [hu] at e5
  cases e5
  have hm : d ∈ ds := List.mem_of_getElem? e1
  have pd : d.plain = true := PySem.W.plain_mem p hm
  have e := SeqAt.plain_unique d m u _ _ pd (PyProof.Rows.Reads.keeps hk e2) hr
  exact ⟨v, e3, e6, by rw [← e]; exact e4⟩
theorem cr_best (hK : X.K = g.K) (hc : X.calm = true) (hu : X.A.units + 64 < cLine) (big : Bool) : CallR X (.builtin (if big then "max" else "min")) (rBest g big) := fun pins st σ H xs us Q I r ⟨a, vs, B, d, ds, e, hs, q, ha, sh, k⟩ => by
  subst e
  rw [← hK] at hs
  obtain ⟨p, dp⟩ := all_plain sh
  rcases hs with hs | hs
  · obtain ⟨its, rv, hl, _⟩ := I.list hs
    rw [Vals.ref1 r]
    obtain ⟨as, ra⟩ := q.reads hK I p rv
    cases big with
    | false =>
      refine W.min_list_data (I.ok.hd hc) hl.isList ra ha (by omega) fun i u h' tk bs e1 e2 e3 => ?_
      · obtain ⟨v, f1, f2, f3⟩ := best_end hK I rv q p (by simpa using e1) e2 e3
        exact ⟨v, H, I.kept e3, f2, k i v f1 f3⟩
    | true =>
      refine W.max_list_data (I.ok.hd hc) hl.isList ra ha (by omega) fun i u h' tk bs e1 e2 e3 => ?_
      · obtain ⟨v, f1, f2, f3⟩ := best_end hK I rv q p (by simpa using e1) e2 e3
        exact ⟨v, H, I.kept e3, f2, k i v f1 f3⟩
  · obtain ⟨its, rv, ht, _⟩ := I.tuple hs
    rw [Vals.ref1 r]
    obtain ⟨as, ra⟩ := q.reads hK I p rv
    cases big with
    | false =>
      refine W.min_tuple_data (I.ok.hd hc) (show st.heap.IsTuple _ _ from ht) ra ha (by omega) fun i u h' tk bs e1 e2 e3 => ?_
      · obtain ⟨v, f1, f2, f3⟩ := best_end hK I rv q p (by simpa using e1) e2 e3
        exact ⟨v, H, I.kept e3, f2, k i v f1 f3⟩
    | true =>
      refine W.max_tuple_data (I.ok.hd hc) (show st.heap.IsTuple _ _ from ht) ra ha (by omega) fun i u h' tk bs e1 e2 e3 => ?_
      · obtain ⟨v, f1, f2, f3⟩ := best_end hK I rv q p (by simpa using e1) e2 e3
        exact ⟨v, H, I.kept e3, f2, k i v f1 f3⟩
theorem best_pre {x : PD} {xs : List PD} {m z : PD} {fr : Bool} (q : (if (alikeB (x :: xs) && noNone (x :: xs) && (x :: xs).all (shal 39)) = true then some (m, false) else none) = some (z, fr)) : W.AlikeAll (x :: xs) ∧ (x :: xs).all (shal 39) = true ∧ z = m ∧ fr = false := by
  split at q
  · rename_i h
    cases q
    rw [Bool.and_eq_true, Bool.and_eq_true] at h
    exact ⟨alikeAll_of h.1.1 h.1.2, h.2, rfl, rfl⟩
  · cases q
theorem bl_min1 : BltRule g (rBest g false) (bltop .min1) := fun hd σ s H xs ds z fr Q c n q hq => by
  match ds, q with
  | [.list (y :: ys)], q =>
    obtain ⟨x, rfl, m⟩ := nwA1 n
    obtain ⟨h1, h2, rfl, rfl⟩ := best_pre q
    cases m with
    | lst r qq => exact ⟨_, _, _, y, ys, rfl, .inl (SqL.of r), qq, h1, h2, fun i v _ hv => hq _ H (Fr.refl _ _) (RE.val c hv)⟩
  | [.tuple (y :: ys)], q =>
    obtain ⟨x, rfl, m⟩ := nwA1 n
    obtain ⟨h1, h2, rfl, rfl⟩ := best_pre q
    cases m with
    | tup r qq => exact ⟨_, _, _, y, ys, rfl, .inr (SqT.of r), qq, h1, h2, fun i v _ hv => hq _ H (Fr.refl _ _) (RE.val c hv)⟩
theorem bl_max1 : BltRule g (rBest g true) (bltop .max1) := fun hd σ s H xs ds z fr Q c n q hq => by
  match ds, q with
  | [.list (y :: ys)], q =>
    obtain ⟨x, rfl, m⟩ := nwA1 n
    obtain ⟨h1, h2, rfl, rfl⟩ := best_pre q
    cases m with
    | lst r qq => exact ⟨_, _, _, y, ys, rfl, .inl (SqL.of r), qq, h1, h2, fun i v _ hv => hq _ H (Fr.refl _ _) (RE.val c hv)⟩
  | [.tuple (y :: ys)], q =>
    obtain ⟨x, rfl, m⟩ := nwA1 n
    obtain ⟨h1, h2, rfl, rfl⟩ := best_pre q
    cases m with
    | tup r qq => exact ⟨_, _, _, y, ys, rfl, .inr (SqT.of r), qq, h1, h2, fun i v _ hv => hq _ H (Fr.refl _ _) (RE.val c hv)⟩

/-! ### sorting -/
theorem ins_sorted {le : PD → PD → Bool} (T : W.TotalLe le) (hle : le = fun a b => !W.dataLt b a) : ∀ xs : List PD, sortD xs = xs.mergeSort le
  | [] => by simp [sortD]
  | x :: xs => by
    obtain ⟨l1, l2, e1, e2, e3⟩ := List.mergeSort_cons (le := le) (fun a b c => T.trans a b c) (fun a b => by
      rcases T.total a b with h | h <;> simp [h]) x xs
    have ih := ins_sorted T hle xs
    have sp := W.sort_pairwise T (x :: xs)
    show insD x (sortD xs) = (x :: xs).mergeSort le
    rw [ih, e1, e2]
    rw [e1] at sp
    have key : ∀ (l1 : List PD), (∀ b ∈ l1, !le x b) → (∀ b ∈ l2, le x b = true) → insD x (l1 ++ l2) = l1 ++ x :: l2 := fun l1 => by
      induction l1 with
      | nil =>
        intro _ h2
        cases l2 with
        | nil => rfl
        | cons y r =>
          show (if (!W.dataLt y x) = true then x :: y :: r else y :: insD x r) = x :: y :: r
          have q := h2 y List.mem_cons_self
          rw [hle] at q
          rw [if_pos q]
      | cons y r ih2 =>
        intro h1 h2
        have q := h1 y List.mem_cons_self
        rw [hle] at q
        have q : (!(!W.dataLt y x)) = true := q
        show (if (!W.dataLt y x) = true then x :: y :: (r ++ l2) else y :: insD x (r ++ l2)) = y :: (r ++ x :: l2)
        rw [if_neg (by intro z; rw [z] at q; cases q), ih2 (fun b hb => h1 b (List.mem_cons_of_mem _ hb)) h2]
    refine key l1 e3 fun b hb => ?_
    have q := (List.pairwise_append.mp sp).2.1
    exact (List.pairwise_cons.mp q).1 b hb
theorem data_total : W.TotalLe (W.dataLe false fun (d : PD) => d) := W.sortLe_total _ _ _
theorem sortD_eq (xs : List PD) : sortD xs = xs.mergeSort (W.dataLe false fun (d : PD) => d) := ins_sorted data_total rfl xs
theorem sortOk_of {xs : List PD} (h : sortOk xs = true) : (∀ x ∈ xs, ∀ y ∈ xs, W.alike x y = true) ∧ W.Sortable xs ∧ xs.all (shal 39) = true ∧ xs.length ≤ 100000 := by
  unfold sortOk at h
  rw [Bool.and_eq_true, Bool.and_eq_true, Bool.and_eq_true] at h
  obtain ⟨⟨⟨h1, h2⟩, h3⟩, h4⟩ := h
  refine ⟨alike_of h1, ?_, h3, of_decide_eq_true h4⟩
  rw [Bool.or_eq_true] at h2
  rcases h2 with h2 | h2
  · left
    intro d hd
    unfold allTup1 at h2
    rw [List.all_eq_true] at h2
    have q := h2 d hd
    cases d with
    | tuple ys =>
      cases ys with
      | nil => cases q
      | cons a b => exact ⟨a, b, rfl⟩
    | _ => cases q
  · right
    intro d hd
    unfold noTup at h2
    rw [List.all_eq_true] at h2
    have q := h2 d hd
    cases d with
    | none => cases q
    | tuple ys => cases q
    | _ => exact ⟨fun z => (by cases z), fun xs z => (by cases z)⟩
/-- values, as they lie, with their data -/
theorem pairs_of {K : W.Frag} {B : Addr → Prop} (hK : X.K = K) (I : Inv X pins σ H st) : ∀ {xs : List V} {ds : List PD} {us : List Value}, RpA K H B xs ds → Vals xs us → PyData.plainAll ds = true →
    W.EachIs (fun (u : Value) (b : V × PD) => RelV b.1 u ∧ Rp K H B b.1 b.2) us (xs.zip ds) ∧ W.EachIs (fun (u : Value) (b : V × PD) => ∃ as, Reads st.heap u b.2 as) us (xs.zip ds) ∧ (xs.zip ds).map (·.2) = ds
  | _, _, _, .nil, .nil, _ => ⟨.nil, .nil, rfl⟩
  | _, _, _, .cons (v := v) (d := d) h t, .cons r q, p => by
    have p' := Bool.and_eq_true_iff.mp p
    obtain ⟨a, b, c⟩ := pairs_of hK I t q p'.2
    refine ⟨.cons ⟨r, h⟩ a, .cons ?_ b, by rw [List.zip_cons_cons, List.map_cons, c]⟩
    subst hK
    exact Dp.reads I d v _ (h.dp p'.1) r
theorem pairs_back {K : W.Frag} {B : Addr → Prop} : ∀ {us : List Value} {bs : List (V × PD)}, W.EachIs (fun (u : Value) (b : V × PD) => RelV b.1 u ∧ Rp K H B b.1 b.2) us bs → Vals (bs.map (·.1)) us ∧ RpA K H B (bs.map (·.1)) (bs.map (·.2))
  | _, _, .nil => ⟨.nil, .nil⟩
  | _, _, .cons h t => ⟨.cons h.1 (pairs_back t).1, .cons h.2 (pairs_back t).2⟩
theorem sort_pairs {bs : List (V × PD)} {ds : List PD} (h : bs.map (·.2) = ds) : (bs.mergeSort (W.dataLe false (·.2))).map (·.2) = sortD ds := by
  rw [sortD_eq, ← h]
  exact W.sort_maps (fun (b : V × PD) => b.2) fun _ _ _ _ => rfl
/-- sorted of a list, or of a dict whose keys are tuples -/
def rSortA (g : Gh) : List V → Hp → VK → Prop := fun xs H Q => ∃ (a : Addr) (B : Addr → Prop) (ds : List PD), xs = [.ref a] ∧ sortOk ds = true ∧
  ((∃ vs, SqL g.K H a vs ∧ RpA g.K H B vs ds) ∨ (∃ kvs, H a = some (.dT kvs) ∧ ∀ bs, IsKeys H kvs bs → RpA g.K H B (bs.map V.ref) ds)) ∧
  ∀ ws p, H p = none → RpA g.K H B ws (sortD ds) → Q (.ref p) (upd H p (.lst ws))
theorem cr_sortA (hK : X.K = g.K) (hc : X.calm = true) (hu : X.A.units + 64 < cLine) : CallR X (.builtin "sorted") (rSortA g) := fun pins st σ H xs us Q I r ⟨a, B, ds, e, ok, hs, k⟩ => by
  subst e
  obtain ⟨hal, hso, hsh, hlen⟩ := sortOk_of ok
  obtain ⟨p, dp⟩ := all_plain hsh
  rcases hs with ⟨vs, hs, q⟩ | ⟨kvs, hs, q⟩
  · rw [← hK] at hs
    obtain ⟨its, rv, hl, _⟩ := I.list hs
    rw [Vals.ref1 r]
    obtain ⟨e1, e2, e3⟩ := pairs_of hK I q rv p
    have hL : (vs.zip ds).length ≤ sizeLine := by
      rw [List.length_zip, q.length, Nat.min_self]; exact small (by omega)
    refine W.sorted_data (s := st) (A := X.A) (R := fun (u : Value) (b : V × PD) => RelV b.1 u ∧ Rp g.K H B b.1 b.2) (enc := (·.2)) hl.isList e1 e2 (by rw [e3]; exact fun d hd d' hd' => hal d hd d' hd') (by rw [e3]; exact hso) hL (fun b hb => ?_) fun out ho eo => ?_
    · have m : b.2 ∈ ds := by rw [← e3]; exact List.mem_map_of_mem hb
      have := (shal_plain 39 b.2 (List.all_eq_true.mp hsh _ m)).2
      omega
    · obtain ⟨b1, b2⟩ := pairs_back eo
      rw [sort_pairs e3] at b2
      obtain ⟨n, hn⟩ := sortedAll_at st.heap its out.toArray
      have fr : H (st.heap.objs.size + 1) = none := I.hok.fresh (Nat.le_succ _)
      refine ⟨.ref (st.heap.objs.size + 1), _, I.laid (t' := st.toks) (fun b u e => sortedAll_old e) (Nat.le_succ _) ?_, rfl, k _ _ fr b2⟩
      refine ⟨?_, out, n, b1, hn⟩
      rw [List.length_map, List.length_mergeSort]
      exact hL
  · obtain ⟨u, rfl, rx⟩ := vals1 r
    cases rx
    obtain ⟨z, hsm, ks, pr, o, es, ep, ho, hx, hdt, he, hn⟩ := (show ObjOk X.prog X.w H st.heap a (.dT kvs) from I.hok a _ hs)
    have l1 : es.size = ks.length := size_of_entries he
    have l2 : kvs.length = ks.length := Paired.length pr
    have hk0 := isKeys_of pr
    have q0 := q _ hk0
    have l3 : ks.length = ds.length := by
      have := q0.length
      rw [List.length_map, List.length_map] at this
      exact this
    refine Calls.call_function_entry kind_sorted plain_sorted entry_sorted (args_sorted1 _) ?_
    unfold Builtin.«sorted»
    refine wpAny_bind (m := checkCount "sorted" 1 1 _) (wpAny_pure ?_)
    refine wpAny_bind (W.kdu_collect (A := X.A.in1) (kdl_raw hsm hx hdt) (I.ok.hd hc) ho (by omega) fun h' tk acc hk hacc => ?_)
    have ea : acc.toList = ks.map fun x => Value.ref x.2.1 := by
      have hl : acc.toList.length = ks.length := by rw [Array.length_toList, hacc.1]; exact l1
      apply List.ext_getElem?
      intro j
      rw [List.getElem?_map]
      cases hj : acc.toList[j]? with
      | none =>
        have h1 := List.getElem?_eq_none_iff.mp hj
        rw [List.getElem?_eq_none (by omega)]
        rfl
      | some v =>
        obtain ⟨en, hen, hv⟩ := hacc.2 j v (by rw [← Array.getElem?_toList]; exact hj)
        have qe := entry_at he j
        rw [hen] at qe
        cases hb : ks[j]? with
        | none => rw [hb] at qe; exact nomatch (show some en = none from qe)
        | some x =>
          rw [hb] at qe
          rw [hv, Option.some.inj (show some en = some _ from qe)]
          rfl
    have I1 : Inv X pins σ H { st with heap := h', toks := tk } := I.kept hk
    have rv : Vals ((ks.map fun x => x.2.1).map V.ref) acc.toList := by
      rw [ea, List.map_map]
      clear ea hacc q0 hk0 pr he hn l1 l2 l3
      induction ks with
      | nil => exact .nil
      | cons x r ih => exact .cons rfl ih
    obtain ⟨e1, e2, e3⟩ := pairs_of hK I1 q0 rv p
    have hz : acc.toList.length ≤ sizeLine := by rw [← rv.length, List.length_map, List.length_map, l3]; exact small (by omega)
    refine wpAny_bind (wpAny_newList ?_ hz)
    have hoL : (h'.push (seqObj "list" acc.toList.toArray 0)).get? h'.objs.size = some (seqObj "list" acc.toList.toArray 0) := Heap.get?_push_size _ rfl
    show wpAny _ _ _ _ _ { st with heap := h'.push (seqObj "list" acc.toList.toArray 0), toks := tk }
    have e2' : W.EachIs (fun (u : Value) (b : V × PD) => ∃ as, Reads (W.sortingHeap (h'.push (seqObj "list" acc.toList.toArray 0)) h'.objs.size acc.toList) u b.2 as) acc.toList ((((ks.map fun x => x.2.1).map V.ref)).zip ds) :=
      e2.mono fun _ _ ⟨as, rr⟩ => ⟨as, PyProof.Rows.Reads.keeps (fun b o e => W.sortingHeap_old (Nat.ne_of_lt (Heap.lt_size e)) (Heap.get?_push_of_some _ e)) rr⟩
    have hal' : W.AllAlike ((((ks.map fun x => x.2.1).map V.ref).zip ds).map (·.2)) := by rw [e3]; exact fun d hd d' hd' => hal d hd d' hd'
    have SS := W.SortsAt.data (prog := X.prog) (w := X.w) (A := X.A.in1.in1) (s := { st with heap := W.sortingHeap (h'.push (seqObj "list" acc.toList.toArray 0)) h'.objs.size acc.toList, toks := tk }) (W.each_map (R := fun v d => ∃ as, Reads (W.sortingHeap (h'.push (seqObj "list" acc.toList.toArray 0)) h'.objs.size acc.toList) v d as) (fun (b : V × PD) => b.2) e2') hal' (by rw [e3]; exact hso) (fun d hd => by
      rw [e3] at hd
      have := (shal_plain 39 d (List.all_eq_true.mp hsh _ hd)).2
      show X.A.units + 1 + 1 + d.depth < cLine
      omega)
    refine wpAny_bind (wpAny_holding (wpAny_call_entry slot_list_sort ⟨_, hoL, rfl⟩ entry_list_sort (W.list_sort_vals (s := { st with heap := h'.push (seqObj "list" acc.toList.toArray 0), toks := tk }) hoL SS hz ⟨_, rfl, ?_⟩) (args_list_sort _)))
    have eo := W.sortVals_data false e1 e2' hal'
    obtain ⟨b1, b2⟩ := pairs_back eo
    rw [sort_pairs e3] at b2
    obtain ⟨n, hn'⟩ := sortedHeap_at (vs := acc.toList) (out := (W.sortVals (W.dataKind (W.sortingHeap (h'.push (seqObj "list" acc.toList.toArray 0)) h'.objs.size acc.toList) ((((ks.map fun x => x.2.1).map V.ref).zip ds).map (·.2))) false acc.toList acc.toList).toArray) hoL
    refine wpAny_pure ⟨_, rfl, .ref h'.objs.size, _, I1.laid (t' := tk) (o := .lst (((((ks.map fun x => x.2.1).map V.ref).zip ds).mergeSort (W.dataLe false (fun (b : V × PD) => b.2))).map (·.1))) (fun b u e => ?_) (Nat.le_refl _) ⟨?_, _, n, b1, hn'⟩, rfl, k _ _ (I1.hok.fresh (Nat.le_refl _)) b2⟩
    · have hb : b < h'.objs.size := Heap.lt_size e
      rw [sortedHeap_old (Nat.ne_of_lt hb) (by rw [size_push']; exact Nat.lt_succ_of_lt hb)]
      exact Heap.get?_push_of_some _ e
    · rw [List.length_map, List.length_mergeSort, List.length_zip, List.length_map, List.length_map, l3, Nat.min_self]
      exact small (by omega)
theorem bl_sorted : BltRule g (rSortA g) (bltop .sorted) := fun hd σ s H xs ds z fr Q c n q hq => by
  match ds, q with
  | [.list ys], q =>
    obtain ⟨x, rfl, m⟩ := nwA1 n
    have q : (if sortOk ys = true then some (PyData.list (sortD ys), true) else none) = some (z, fr) := q
    split at q
    · rename_i ok
      cases q
      cases m with
      | lst r qq => exact ⟨_, _, ys, rfl, ok, .inl ⟨_, SqL.of r, qq⟩, fun ws p hp hw => hq _ _ (Fr.new hp) (RE.newL c hw hp hp)⟩
    · cases q
  | [.dict ys], q =>
    obtain ⟨x, rfl, m⟩ := nwA1 n
    have q : (if (tkeys ys && sortOk (ys.map (·.1))) = true then some (PyData.list (sortD (ys.map (·.1))), true) else none) = some (z, fr) := q
    split at q
    · rename_i ok
      rw [Bool.and_eq_true] at ok
      obtain ⟨tk, ok⟩ := ok
      cases q
      cases m with
      | dik _ ne qq => rw [qq.tkeys ne] at tk; cases tk
      | dic r qq => exact ⟨_, _, _, rfl, ok, .inr ⟨_, r, fun bs hb => keys_rp c hb qq⟩, fun ws p hp hw => hq _ _ (Fr.new hp) (RE.newL c hw hp hp)⟩
    · cases q

/-! ### kinds -/
def tyD : PD → String
  | .none => "NoneType"
  | .bool _ => "bool"
  | .int _ => "int"
  | .str _ => "str"
  | .list _ => "list"
  | .tuple _ => "tuple"
  | .dict _ => "dict"
theorem nw_ty {K : W.Frag} {B : Addr → Prop} {x : V} {d : PD} (h : Nw K H B x d) : TyX K H x (.type (tyD d)) := by
  cases h with
  | non => exact .base .non
  | bl b => exact .base (.bl b)
  | int i => exact .base (.int i)
  | str z => exact .base (.str z)
  | lst r _ => exact .base (.lst r)
  | tup r _ => exact .base (.tup r)
  | dic r _ => exact .base (.dT r)
  | dik r _ _ => exact .base (.dK r)
/-- isinstance(x, T), T a built-in class -/
def rIsa (g : Gh) (T : String) : List V → Hp → VK → Prop := fun xs H Q => ∃ (x : V) (d : PD) (B : Addr → Prop) (b : Bool), xs = [x, .ty T] ∧ Nw g.K H B x d ∧ kitB (tyD d) T = some b ∧ Q (.bl b) H
theorem cr_isa (hK : X.K = g.K) (T : String) : CallR X (.builtin "isinstance") (rIsa g T) := fun pins st σ H xs us Q I r ⟨x, d, B, b, e, n, k, q⟩ => by
  rw [← hK] at n
  exact call_isi pins st σ H xs us Q I r ⟨x, .ty T, .type (tyD d), .type T, b, e, .ty T, nw_ty n, kit_ty k, q⟩
def isaT : Bf → String
  | .isInt => "int"
  | .isBool => "bool"
  | _ => "tuple"
theorem kit_int (d : PD) : kitB (tyD d) "int" = some (match d with | .int _ => true | .bool _ => true | _ => false) := match d with
  | .none => (by decide +kernel : kitB "NoneType" "int" = some false)
  | .bool _ => (by decide +kernel : kitB "bool" "int" = some true)
  | .int _ => (by decide +kernel : kitB "int" "int" = some true)
  | .str _ => (by decide +kernel : kitB "str" "int" = some false)
  | .list _ => (by decide +kernel : kitB "list" "int" = some false)
  | .tuple _ => (by decide +kernel : kitB "tuple" "int" = some false)
  | .dict _ => (by decide +kernel : kitB "dict" "int" = some false)
theorem kit_bool (d : PD) : kitB (tyD d) "bool" = some (match d with | .bool _ => true | _ => false) := match d with
  | .none => (by decide +kernel : kitB "NoneType" "bool" = some false)
  | .bool _ => (by decide +kernel : kitB "bool" "bool" = some true)
  | .int _ => (by decide +kernel : kitB "int" "bool" = some false)
  | .str _ => (by decide +kernel : kitB "str" "bool" = some false)
  | .list _ => (by decide +kernel : kitB "list" "bool" = some false)
  | .tuple _ => (by decide +kernel : kitB "tuple" "bool" = some false)
  | .dict _ => (by decide +kernel : kitB "dict" "bool" = some false)
theorem kit_tuple (d : PD) : kitB (tyD d) "tuple" = some (match d with | .tuple _ => true | _ => false) := match d with
  | .none => (by decide +kernel : kitB "NoneType" "tuple" = some false)
  | .bool _ => (by decide +kernel : kitB "bool" "tuple" = some false)
  | .int _ => (by decide +kernel : kitB "int" "tuple" = some false)
  | .str _ => (by decide +kernel : kitB "str" "tuple" = some false)
  | .list _ => (by decide +kernel : kitB "list" "tuple" = some false)
  | .tuple _ => (by decide +kernel : kitB "tuple" "tuple" = some true)
  | .dict _ => (by decide +kernel : kitB "dict" "tuple" = some false)

theorem kit_str (d : PD) : kitB (tyD d) "str" = some (match d with | .str _ => true | _ => false) := match d with
  | .none => (by decide +kernel : kitB "NoneType" "str" = some false)
  | .bool _ => (by decide +kernel : kitB "bool" "str" = some false)
  | .int _ => (by decide +kernel : kitB "int" "str" = some false)
  | .str _ => (by decide +kernel : kitB "str" "str" = some true)
  | .list _ => (by decide +kernel : kitB "list" "str" = some false)
  | .tuple _ => (by decide +kernel : kitB "tuple" "str" = some false)
  | .dict _ => (by decide +kernel : kitB "dict" "str" = some false)
theorem kit_list (d : PD) : kitB (tyD d) "list" = some (match d with | .list _ => true | _ => false) := match d with
  | .none => (by decide +kernel : kitB "NoneType" "list" = some false)
  | .bool _ => (by decide +kernel : kitB "bool" "list" = some false)
  | .int _ => (by decide +kernel : kitB "int" "list" = some false)
  | .str _ => (by decide +kernel : kitB "str" "list" = some false)
  | .list _ => (by decide +kernel : kitB "list" "list" = some true)
  | .tuple _ => (by decide +kernel : kitB "tuple" "list" = some false)
  | .dict _ => (by decide +kernel : kitB "dict" "list" = some false)
theorem kit_dict (d : PD) : kitB (tyD d) "dict" = some (match d with | .dict _ => true | _ => false) := match d with
  | .none => (by decide +kernel : kitB "NoneType" "dict" = some false)
  | .bool _ => (by decide +kernel : kitB "bool" "dict" = some false)
  | .int _ => (by decide +kernel : kitB "int" "dict" = some false)
  | .str _ => (by decide +kernel : kitB "str" "dict" = some false)
  | .list _ => (by decide +kernel : kitB "list" "dict" = some false)
  | .tuple _ => (by decide +kernel : kitB "tuple" "dict" = some false)
  | .dict _ => (by decide +kernel : kitB "dict" "dict" = some true)
/-- the kinds asked for -/
def IsaBf (f : Bf) (T : String) : Prop := (f = .isInt ∧ T = "int") ∨ (f = .isBool ∧ T = "bool") ∨ (f = .isTuple ∧ T = "tuple") ∨ (f = .isStr ∧ T = "str") ∨ (f = .isList ∧ T = "list") ∨ (f = .isDict ∧ T = "dict")

/-! ### count -/
def rCntA (g : Gh) (T : String) : V → List V → Hp → VK → Prop := fun x xs H Q => ∃ (a : Addr) (y : V) (d : PD) (ds : List PD), x = .ref a ∧ xs = [y] ∧ Dp g.K H x (if T = "list" then .list ds else .tuple ds) ∧ Dp g.K H y d ∧ shal 40 d = true ∧ ds.all (shal 39) = true ∧ Q (.int ((ds.countP fun z => PyData.eqv z d : Nat) : Int)) H
theorem mt_cntL (hK : X.K = g.K) (hu : X.A.units + 64 < cLine) : MtR X "list.count" (rCntA g "list") := fun pins st σ H x xs v us Q I rx rs ⟨a, y, d, ds, e1, e2, n, m, s1, s2, q⟩ => by
  subst e1 e2
  rw [← hK] at n m
  obtain ⟨p1, b1⟩ := shal_plain _ _ s1
  obtain ⟨p2, b2⟩ := all_plain s2
  cases rx
  obtain ⟨u, rfl, ry⟩ := rs.one
  obtain ⟨as, r1⟩ := Dp.reads I _ _ _ m ry
  obtain ⟨bs, r2⟩ := Dp.reads I _ _ _ n (show RelV (.ref a) (.ref a) from rfl)
  rw [if_pos rfl] at r2
  cases r2 with
  | list h1 h2 h3 h4 => exact SeqAt.count_list_data ⟨_, h1, h2, _, h3⟩ h4 r1 p2 p1 (by omega) ⟨.int _, H, I.tok _, ⟨_, rfl⟩, q⟩
theorem mt_cntT (hK : X.K = g.K) (hu : X.A.units + 64 < cLine) : MtR X "tuple.count" (rCntA g "tuple") := fun pins st σ H x xs v us Q I rx rs ⟨a, y, d, ds, e1, e2, n, m, s1, s2, q⟩ => by
  subst e1 e2
  rw [← hK] at n m
  obtain ⟨p1, b1⟩ := shal_plain _ _ s1
  obtain ⟨p2, b2⟩ := all_plain s2
  cases rx
  obtain ⟨u, rfl, ry⟩ := rs.one
  obtain ⟨as, r1⟩ := Dp.reads I _ _ _ m ry
  obtain ⟨bs, r2⟩ := Dp.reads I _ _ _ n (show RelV (.ref a) (.ref a) from rfl)
  rw [if_neg (by decide)] at r2
  cases r2 with
  | tuple h1 h2 h3 h4 => exact SeqAt.count_tuple_data ⟨_, h1, h2, _, h3⟩ h4 r1 p2 p1 (by omega) ⟨.int _, H, I.tok _, ⟨_, rfl⟩, q⟩
end
end Pev
set_option maxRecDepth 100000
set_option autoImplicit false
/-! Pev: repr of lists and tuples. -/
namespace Pev
open PySem PySem.Spec PyProof.Rows L2
section
variable {X : Cx} {g : Gh}
def rReprA (g : Gh) : List V → Hp → VK → Prop := fun xs H Q => ∃ (a : Addr) (B : Addr → Prop) (ys : List V) (ds : List PD) (d : PD), xs = [.ref a] ∧ ((SqL g.K H a ys ∧ d = .list ds) ∨ (SqT g.K H a ys ∧ d = .tuple ds)) ∧ RpA g.K H B ys ds ∧ reprOk d = true ∧ Q (.str (PyData.shown d)) H
theorem cr_repr (hK : X.K = g.K) (hG : X.A.guards = some []) (hu : X.A.units + 64 < cLine) : CallR X (.builtin "repr") (rReprA g) := fun pins st σ H xs us Q I r ⟨a, B, ys, ds, d, e, sq, rp, ok, q⟩ => by
  subst e
  unfold reprOk at ok
  simp only [Bool.and_eq_true, decide_eq_true_eq, Bool.not_eq_true'] at ok
  obtain ⟨⟨⟨⟨⟨_, ok1⟩, ok2⟩, ok3⟩, ok4⟩, ok5⟩ := ok
  rw [Vals.ref1 r]
  rw [← hK] at sq
  have fin : ∀ as, Reads st.heap (.ref a) d as → wpAny (model X.prog X.w) X.A (call (.builtin "repr") [.ref a]) (EP X pins σ Q) X.xe st := fun as rd =>
    repr_of_reads' rd ok2 (fun z => by rw [ok3] at z; cases z) hG (by omega) (fun b o e => e) (fun h' u tk k => ⟨.str _, H, I.kept (t' := tk) k, ⟨_, rfl⟩, q⟩) ok5
  rcases sq with ⟨sq, rfl⟩ | ⟨sq, rfl⟩
  · obtain ⟨its, rv, hl, _⟩ := I.list sq
    obtain ⟨as, ra⟩ := rp.reads hK I (by simpa [PyData.plain] using ok1) rv
    obtain ⟨o, n, e, h1, h2, h3⟩ := hl
    exact fin _ (.list e h1 h3 (by simpa using ra))
  · obtain ⟨its, rv, ht, _⟩ := I.tuple sq
    obtain ⟨as, ra⟩ := rp.reads hK I (by simpa [PyData.plain] using ok1) rv
    obtain ⟨o, e, h1, n, h2⟩ := ht
    exact fin _ (.tuple e h1 h2 (by simpa using ra))
theorem bl_repr : BltRule g (rReprA g) (bltop .repr) := fun hd σ s H xs ds z fr Q c n q hq => by
  match ds, q with
  | [d], q =>
    obtain ⟨x, rfl, m⟩ := nwA1 n
    have q : (if reprOk d = true then some (PyData.str (PyData.shown d), false) else none) = some (z, fr) := q
    split at q
    · rename_i ok
      cases q
      have ok0 := ok
      unfold reprOk at ok
      cases d with
      | list ys =>
        cases m with
        | lst r qq => exact ⟨_, _, _, ys, _, rfl, .inl ⟨SqL.of r, rfl⟩, qq, ok0, hq _ H (Fr.refl _ _) (RE.val c (.str _))⟩
      | tuple ys =>
        cases m with
        | tup r qq => exact ⟨_, _, _, ys, _, rfl, .inr ⟨SqT.of r, rfl⟩, qq, ok0, hq _ H (Fr.refl _ _) (RE.val c (.str _))⟩
      | _ => simp at ok
    · cases q
end
end Pev
set_option maxRecDepth 100000
set_option autoImplicit false
/-! Pev, soundness 7: expressions put together. -/
namespace Pev
open PySem PySem.Spec PyProof.Rows L2

section
variable {X : Cx} {g : Gh} {call : Calls} {lamc : Nat → (Option (List PD) → FO) → Option (List PD) → FO} {actf : Option (List PD) → FO} {W : WX}
  {e a b c : Expr} {ia ib ic ie : IE} {pos : Pos} {es : List Expr} {ies : IEs} {ja jb : IT}

/-! ### operators -/
theorem s_bin (hK : X.K = g.K) (o : Bo) (ha : Snd X g call lamc actf W a ia) (hb : Snd X g call lamc actf W b ib) : Snd X g call lamc actf W (.BinOp a (opOf o) b pos) (.bin o ia ib) :=
  .of rfl (bin_pure (br_bin o) (fun s => by rw [ev] <;> rfl) (pe_op (op_bin hK o) ha.op hb.op))
theorem s_cmp (hK : X.K = g.K) (hu : X.A.units + 64 < cLine) (o : Co) (ha : Snd X g call lamc actf W a ia) (hb : Snd X g call lamc actf W b ib) (hm : behindInMarks (coOf o) b = false) : Snd X g call lamc actf W (.Compare a [coOf o] [b] pos) (.cmp o ia ib) :=
  .of rfl (bin_pure (br_cmp o) (fun s => by simp only [ev, fB, outB_D] <;> rfl) (pe_cmpR (op_cmp hK hu o) ha.op hb.op hm))
theorem s_sub (hK : X.K = g.K) (hu : X.A.units + 64 < cLine) (ha : Snd X g call lamc actf W a ia) (hb : Snd X g call lamc actf W b ib) (hp : PlainIx b) : Snd X g call lamc actf W (.Subscript a b pos) (.sub ia ib) :=
  .of rfl (bin_pure br_sub (fun s => by simp only [ev, fSub, outD0_D] <;> rfl) (pe_ix (ix_sub hK hu) ha.op hb.op hp))
theorem s_neg (ha : Snd X g call lamc actf W a ia) : Snd X g call lamc actf W (.UnaryOp .USub a pos) (.neg ia) :=
  .of rfl (PE.imp (pe_un un_neg ha.op) fun σ H Q ⟨hd, s, c, post⟩ => by
    rw [ev] at post
    refine ⟨hd, s, c, post.bind RE.up fun xo s1 x H1 fr1 le1 r1 post1 => ?_⟩
    split at post1
    · rename_i i e1
      have n := res_now r1 (Fr.refl _ _) AvLe.refl r1.1 e1
      cases n
      exact ⟨i, rfl, post1.here rfl (Fr.refl _ _) AvLe.refl (RE.val r1.1 (.int _))⟩
    · exact post1.elim)

/-! ### and, or, not, if -/
theorem s_and {rest : List Expr} (ha : PE X a (tEv g call lamc actf W ia)) (hb : PE X (.BoolOp .And (b :: rest) pos) (tEv g call lamc actf W ib)) : PE X (.BoolOp .And (a :: b :: rest) pos) (tEv g call lamc actf W (.and ia ib)) := PE.imp (pe_and ha hb) fun σ H Q ⟨hd, s, c, post⟩ => by
  rw [ev] at post
  refine ⟨hd, s, c, post.bind RE.up fun xo s1 x H1 fr1 le1 r1 post1 => ?_⟩
  obtain ⟨c1, r1⟩ := r1.drop
  split at post1
  · rename_i e1
    rw [e1] at r1
    cases r1
    exact ⟨true, rfl, hd, s1, c1, post1⟩
  · rename_i e1
    rw [e1] at r1
    cases r1
    exact ⟨false, rfl, post1.here rfl (Fr.refl _ _) AvLe.refl (RE.val c1 (.bl _))⟩
  · exact post1.elim
theorem s_or {rest : List Expr} (ha : PE X a (tEv g call lamc actf W ia)) (hb : PE X (.BoolOp .Or (b :: rest) pos) (tEv g call lamc actf W ib)) : PE X (.BoolOp .Or (a :: b :: rest) pos) (tEv g call lamc actf W (.or ia ib)) := PE.imp (pe_or ha hb) fun σ H Q ⟨hd, s, c, post⟩ => by
  rw [ev] at post
  refine ⟨hd, s, c, post.bind RE.up fun xo s1 x H1 fr1 le1 r1 post1 => ?_⟩
  obtain ⟨c1, r1⟩ := r1.drop
  split at post1
  · rename_i e1
    rw [e1] at r1
    cases r1
    exact ⟨true, rfl, post1.here rfl (Fr.refl _ _) AvLe.refl (RE.val c1 (.bl _))⟩
  · rename_i e1
    rw [e1] at r1
    cases r1
    exact ⟨false, rfl, hd, s1, c1, post1⟩
  · exact post1.elim
theorem s_not (ha : PE X a (tEv g call lamc actf W ia)) : PE X (.UnaryOp .Not a pos) (tEv g call lamc actf W (.not ia)) := PE.imp (pe_not ha) fun σ H Q ⟨hd, s, c, post⟩ => by
  rw [ev] at post
  refine ⟨hd, s, c, post.bind RE.up fun xo s1 x H1 fr1 le1 r1 post1 => ?_⟩
  obtain ⟨c1, r1⟩ := r1.drop
  split at post1
  · rename_i k e1
    rw [e1] at r1
    cases r1
    exact ⟨k, rfl, post1.here rfl (Fr.refl _ _) AvLe.refl (RE.val c1 (.bl _))⟩
  · exact post1.elim
theorem s_ite (hc : PT X c (tTst g call lamc actf W ja)) (ha : PE X a (tEv g call lamc actf W ia)) (hb : PE X b (tEv g call lamc actf W ib)) : PE X (.IfExp c a b pos) (tEv g call lamc actf W (.ite ja ia ib)) := PE.imp (pe_ifExp hc ha hb) fun σ H Q ⟨hd, s, c, post⟩ => by
  rw [ev] at post
  refine ⟨hd, s, c, post.bind RE.up fun t s1 t' H1 fr1 le1 r1 post1 => ?_⟩
  obtain ⟨c1, rfl⟩ := r1
  cases t with
  | true => exact ⟨hd, s1, c1, post1⟩
  | false => exact ⟨hd, s1, c1, post1⟩

/-! ### tests -/
theorem t_and {rest : List Expr} (ha : PT X a (tTst g call lamc actf W ja)) (hb : PW X (.BoolOp .And (b :: rest) pos) (tTst g call lamc actf W jb)) : PW X (.BoolOp .And (a :: b :: rest) pos) (tTst g call lamc actf W (.and ja jb)) := by
  have h := pw_and (pos := pos) ha hb
  refine ⟨fun wh pins st σ H Q I ⟨hd, s, c, post⟩ => h.run wh pins st σ H Q I ?_⟩
  rw [tst] at post
  refine ⟨hd, s, c, post.bind RB.up fun t s1 t' H1 fr1 le1 r1 post1 => ?_⟩
  obtain ⟨c1, rfl⟩ := r1
  cases t with
  | true => exact ⟨hd, s1, c1, post1⟩
  | false => exact post1.here rfl (Fr.refl _ _) AvLe.refl ⟨c1, rfl⟩
theorem t_or {rest : List Expr} (ha : PT X a (tTst g call lamc actf W ja)) (hb : PW X (.BoolOp .Or (b :: rest) pos) (tTst g call lamc actf W jb)) : PW X (.BoolOp .Or (a :: b :: rest) pos) (tTst g call lamc actf W (.or ja jb)) := by
  have h := pw_or (pos := pos) ha hb
  refine ⟨fun wh pins st σ H Q I ⟨hd, s, c, post⟩ => h.run wh pins st σ H Q I ?_⟩
  rw [tst] at post
  refine ⟨hd, s, c, post.bind RB.up fun t s1 t' H1 fr1 le1 r1 post1 => ?_⟩
  obtain ⟨c1, rfl⟩ := r1
  cases t with
  | true => exact post1.here rfl (Fr.refl _ _) AvLe.refl ⟨c1, rfl⟩
  | false => exact ⟨hd, s1, c1, post1⟩
theorem t_not (ha : PT X a (tTst g call lamc actf W ja)) : PT X (.UnaryOp .Not a pos) (tTst g call lamc actf W (.not ja)) := PT.imp (pt_not ha) fun σ H Q ⟨hd, s, c, post⟩ => by
  rw [tst] at post
  refine ⟨hd, s, c, post.bind RB.up fun t s1 t' H1 fr1 le1 r1 post1 => ?_⟩
  obtain ⟨c1, rfl⟩ := r1
  exact post1.here rfl (Fr.refl _ _) AvLe.refl ⟨c1, rfl⟩
theorem tru_of {B : Addr → Prop} {H : Hp} {x : V} {d : PD} {k : Bool} (n : Nw g.K H B x d) (h : truthD d = some k) : TruV g.K x H k := by
  cases n with
  | non => cases h; rfl
  | bl b => cases h; rfl
  | int i => cases h; rfl
  | str z => cases h
  | lst r q =>
    cases h
    refine .inl ⟨_, SqL.of r, ?_⟩
    cases q <;> rfl
  | tup r q =>
    cases h
    refine .inr (.inl ⟨_, SqT.of r, ?_⟩)
    cases q <;> rfl
  | dic r q => cases h
  | dik r ne q => cases h
/-- any expression that is no and, or, not, comparison, conditional -/
theorem t_val (hK : X.K = g.K) (ha : PE X a (tOpd g call lamc actf W ia)) (he : ∀ whole, isTrue a X.env whole = (do let v ← whole; standAt a.pos; holding [v] (truthy v))) : PT X a (tTst g call lamc actf W (.val ia)) := PT.imp (pt_truth ha he) fun σ H Q ⟨hd, s, c, post⟩ => by
  rw [tst] at post
  refine ⟨hd, s, c, post.bind RB.up fun xo s1 x H1 fr1 le1 r1 post1 => ?_⟩
  split at post1
  · rename_i d e1
    have n := res_now r1 (Fr.refl _ _) AvLe.refl r1.1 e1
    cases e2 : truthD d with
    | none => rw [e2] at post1; exact post1.elim
    | some k =>
      rw [e2] at post1
      refine ⟨k, ?_, post1.here rfl (Fr.refl _ _) AvLe.refl ⟨r1.1, rfl⟩⟩
      rw [hK]
      exact tru_of n e2
  · exact post1.elim
/-- a test whose value is a truth value -/
theorem tst_val {σ : L2.St} {H : Hp} {Q : Bool → Hp → Prop} (hn : notVar ie = true) (hb : ∀ s rv s', ev call lamc actf ie s = .ok rv s' → ∃ k, rv.v = .dat (.bool k)) (h : tTst g call lamc actf W (.val ie) σ H Q) : tEv g call lamc actf W ie σ H fun x H' => ∃ k, x = .bl k ∧ Q k H' := by
  obtain ⟨hd, s, c, post⟩ := h
  rw [tst, opdOf_nv hn] at post
  refine ⟨hd, s, c, ?_⟩
  cases e : ev call lamc actf ie s with
  | bad => rw [e] at post; exact post.elim
  | exc n h => rw [e] at post; exact post
  | ok rv s' =>
    rw [e] at post
    obtain ⟨k, ek⟩ := hb s rv s' e
    have post : Post g W hd σ s H (RB g hd σ) (match resv s' (Opd.val rv.v) with
      | some d => match truthD d with
        | some b => Out.ok b s'
        | none => .bad
      | none => .bad) Q := post
    rw [ek] at post
    have post : Post g W hd σ s H (RB g hd σ) (.ok k s') Q := post
    intro x H' fr le r
    obtain ⟨c1, r1⟩ := r.drop
    rw [ek] at r1
    cases r1
    exact ⟨k, rfl, post k H' fr le ⟨c1, rfl⟩⟩
theorem ev_cmp_bool {o : Co} (s : S) (rv : RV) (s' : S) (h : ev call lamc actf (.cmp o ia ib) s = .ok rv s') : ∃ k, rv.v = .dat (.bool k) := by
  rw [ev] at h
  cases e1 : opdOf ia (ev call lamc actf ia s) s with
  | bad => rw [e1] at h; cases h
  | exc c h' => rw [e1] at h; cases h
  | ok x s1 =>
    rw [e1] at h
    cases e2 : opdOf ib (ev call lamc actf ib s1) s1 with
    | bad => simp only [Out.bind, e2] at h; cases h
    | exc c h' => simp only [Out.bind, e2] at h; cases h
    | ok y s2 =>
      simp only [Out.bind, e2] at h
      split at h
      · rename_i d e _ _
        cases e3 : cmpop o d e with
        | none => rw [e3] at h; cases h
        | some k => rw [e3] at h; cases h; exact ⟨k, rfl⟩
      · cases h
theorem t_cmp (hK : X.K = g.K) (hu : X.A.units + 64 < cLine) (o : Co) (ha : Snd X g call lamc actf W a ia) (hb : Snd X g call lamc actf W b ib) (hm : behindInMarks (coOf o) b = false) : PT X (.Compare a [coOf o] [b] pos) (tTst g call lamc actf W (.val (.cmp o ia ib))) :=
  PT.imp (pt_cmpR (op_cmp hK hu o) ha.op hb.op hm) fun σ H Q h => bin_imp (br_cmp o) (fun s => by simp only [ev, fB, outB_D] <;> rfl) σ H _ (tst_val rfl ev_cmp_bool h)
/-! a < b < c -/
theorem chn_imp (o1 o2 : Co) (σ : L2.St) (H : Hp) (Q : VK) : tEv g call lamc actf W (.chn o1 o2 ia ib ic) σ H Q → tChain (rCmp g o1) (rCmp g o2) (tOpd g call lamc actf W ia) (tOpd g call lamc actf W ib) (tOpd g call lamc actf W ic) σ H Q := fun ⟨hd, s, cl, post⟩ => by
  rw [ev] at post
  refine ⟨hd, s, cl, post.bind RE.up fun xo s1 x H1 fr1 le1 r1 post1 => ?_⟩
  refine ⟨hd, s1, r1.1, post1.bind RE.up fun yo s2 y H2 fr2 le2 r2 post2 => ?_⟩
  split at post2
  · rename_i i j e1 e2
    have nx := res_now r1 fr2 le2 r2.1 e1
    have ny := res_now r2 (Fr.refl _ _) AvLe.refl r2.1 e2
    cases k1 : cmpop o1 (.int i) (.int j) with
    | none => rw [k1] at post2; exact post2.elim
    | some k =>
      rw [k1] at post2
      refine br_cmp o1 hd σ s2 H2 x y (.int i) (.int j) (.bool k) false _ r2.1 nx ny (by unfold fB; rw [k1]; rfl) fun v H' fr3 r3 => ?_
      obtain ⟨c3, r3⟩ := r3.drop
      cases r3
      refine ⟨k, rfl, ?_⟩
      cases k with
      | false =>
        have post2 : Post g W hd σ s2 H2 (RE g hd σ) (.ok (rvD (.bool false)) s2) Q := post2
        exact post2.here rfl fr3 AvLe.refl (RE.val c3 (.bl _))
      | true =>
        have post2 : Post g W hd σ s2 H2 (RE g hd σ) ((opdOf ic (ev call lamc actf ic s2) s2).bind fun z s => match resv s z with
          | some (.int k) => outB (cmpop o2 (.int j) (.int k)) s
          | _ => .bad) Q := post2
        refine ⟨hd, s2, c3, Post.bind (s0 := s2) (H0 := H') (R := RE g hd σ) (f := fun z s => match resv s z with
          | some (.int k) => outB (cmpop o2 (.int j) (.int k)) s
          | _ => .bad) (Q := Q) ?_ RE.up fun zo s4 z H4 fr4 le4 r4 post4 => ?_⟩
        · generalize (opdOf ic (ev call lamc actf ic s2) s2).bind _ = o at post2 ⊢
          cases o with
          | bad => exact post2
          | exc n h => exact fun H5 f5 h5 t5 => post2 H5 (fr3.trans f5 fun a z => .inl z) h5 t5
          | ok rv s5 => exact fun v H5 f5 l5 r5 => post2 v H5 (fr3.trans f5 fun a z => .inl z) l5 (RE.up _ _ _ _ _ _ fr3.dom r5)
        · split at post4
          · rename_i k e4
            have nz := res_now r4 (Fr.refl _ _) AvLe.refl r4.1 e4
            cases ny
            cases k2 : cmpop o2 (.int j) (.int k) with
            | none => rw [k2] at post4; exact post4.elim
            | some kk =>
              rw [k2] at post4
              exact br_cmp o2 hd σ s4 H4 (.int j) z (.int j) (.int k) (.bool kk) false _ r4.1 (.int j) nz (by unfold fB; rw [k2]; rfl) fun v H5 fr5 r5 => post4.here rfl fr5 AvLe.refl r5
          · exact post4.elim
  · exact post2.elim
theorem s_chn (hK : X.K = g.K) (hu : X.A.units + 64 < cLine) (o1 o2 : Co) (ha : Snd X g call lamc actf W a ia) (hb : Snd X g call lamc actf W b ib) (hc : Snd X g call lamc actf W c ic) (hm : lastMarks [coOf o1, coOf o2] [b, c] = false) : PE X (.Compare a [coOf o1, coOf o2] [b, c] pos) (tEv g call lamc actf W (.chn o1 o2 ia ib ic)) :=
  PE.imp (pe_chain (op_cmp hK hu o1) (op_cmp hK hu o2) ha.op hb.op hc.op hm) (chn_imp o1 o2)
theorem ev_chn_bool {o1 o2 : Co} (s : S) (rv : RV) (s' : S) (h : ev call lamc actf (.chn o1 o2 ia ib ic) s = .ok rv s') : ∃ k, rv.v = .dat (.bool k) := by
  rw [ev] at h
  cases e1 : opdOf ia (ev call lamc actf ia s) s with
  | bad => rw [e1] at h; cases h
  | exc c h' => rw [e1] at h; cases h
  | ok x s1 =>
    rw [e1] at h
    cases e2 : opdOf ib (ev call lamc actf ib s1) s1 with
    | bad => simp only [Out.bind, e2] at h; cases h
    | exc c h' => simp only [Out.bind, e2] at h; cases h
    | ok y s2 =>
      simp only [Out.bind, e2] at h
      split at h
      · rename_i i j _ _
        cases e3 : cmpop o1 (.int i) (.int j) with
        | none => rw [e3] at h; cases h
        | some k =>
          rw [e3] at h
          cases k with
          | false => cases h; exact ⟨false, rfl⟩
          | true =>
            cases e4 : opdOf ic (ev call lamc actf ic s2) s2 with
            | bad => simp only [e4] at h; cases h
            | exc c h' => simp only [e4] at h; cases h
            | ok z s4 =>
              simp only [e4] at h
              split at h
              · rename_i m _
                cases e5 : cmpop o2 (.int j) (.int m) with
                | none => rw [e5] at h; cases h
                | some kk => rw [e5] at h; cases h; exact ⟨kk, rfl⟩
              · cases h
      · cases h
theorem t_chn (hK : X.K = g.K) (hu : X.A.units + 64 < cLine) (o1 o2 : Co) (ha : Snd X g call lamc actf W a ia) (hb : Snd X g call lamc actf W b ib) (hc : Snd X g call lamc actf W c ic) (hm : lastMarks [coOf o1, coOf o2] [b, c] = false) : PT X (.Compare a [coOf o1, coOf o2] [b, c] pos) (tTst g call lamc actf W (.val (.chn o1 o2 ia ib ic))) :=
  PT.imp (pt_chain (op_cmp hK hu o1) (op_cmp hK hu o2) ha.op hb.op hc.op hm) fun σ H Q h => chn_imp o1 o2 σ H _ (tst_val rfl ev_chn_bool h)
end
end Pev
set_option maxRecDepth 100000
set_option autoImplicit false
/-! Pev, soundness 8: argument lists, displays, built-ins called, slices, methods. -/
namespace Pev
open PySem PySem.Spec PyProof.Rows L2

/-! ### lists of expressions without a star -/
def noStarE : Expr → Bool
  | .Starred _ _ => false
  | _ => true
theorem star_no {e : Expr} (h : noStarE e = true) (es : List Expr) (env : Env) : starEach (e :: es) env = (false, eval e env) :: starEach es env := by
  cases e <;> first | rfl | cases h
theorem star_any {env : Env} {pos : Pos} : ∀ {es : List Expr}, es.all noStarE = true → (backTo pos (starEach es env)).any (·.1) = false
  | [], _ => rfl
  | e :: es, h => by
    rw [List.all_cons, Bool.and_eq_true] at h
    rw [star_no h.1]
    show (false || (backTo pos (starEach es env)).any (·.1)) = false
    rw [star_any h.2, Bool.or_false]
theorem star_all {env : Env} {pos : Pos} : ∀ {es : List Expr}, es.all noStarE = true → ((backTo pos (starEach es env)).all fun x => !x.1) = true
  | [], _ => rfl
  | e :: es, h => by
    rw [List.all_cons, Bool.and_eq_true] at h
    rw [star_no h.1]
    show (true && (backTo pos (starEach es env)).all fun x => !x.1) = true
    rw [star_all h.2, Bool.and_true]

section
variable {X : Cx} {g : Gh} {call : Calls} {lamc : Nat → (Option (List PD) → FO) → Option (List PD) → FO} {actf : Option (List PD) → FO} {W : WX}
  {e a b c : Expr} {ia ib ic ie : IE} {pos : Pos} {es : List Expr} {ies : IEs} {ja jb : IT}

inductive SndA (X : Cx) (g : Gh) (call : Calls) (lamc : Nat → (Option (List PD) → FO) → Option (List PD) → FO) (actf : Option (List PD) → FO) (W : WX) : List Expr → IEs → Prop
  | nil : SndA X g call lamc actf W [] .nil
  | cons {e : Expr} {ie : IE} {es : List Expr} {ies : IEs} : noStarE e = true → Snd X g call lamc actf W e ie → SndA X g call lamc actf W es ies → SndA X g call lamc actf W (e :: es) (.cons ie ies)
theorem SndA.noStar (h : SndA X g call lamc actf W es ies) : es.all noStarE = true := by
  induction h with
  | nil => rfl
  | cons n _ _ ih => rw [List.all_cons, n, ih]; rfl

section
variable {hd : Dy} {σ : L2.St} {s1 s2 : S} {H1 H2 : Hp}
theorem RpV.on {x : V} {v : Val} (fr : Fr (Av hd σ s1.ρ) H1 H2) (le : AvLe hd σ s2.ρ s1.ρ) (r : RpV g hd H1 (Bz hd σ s1.ρ) x v) : RpV g hd H2 (Bz hd σ s2.ρ) x v := r.stay (fr_bz fr) fun a z => .inl (bz_le le a z)
theorem Rp.on {x : V} {v : PD} (fr : Fr (Av hd σ s1.ρ) H1 H2) (le : AvLe hd σ s2.ρ s1.ρ) (r : Rp g.K H1 (Bz hd σ s1.ρ) x v) : Rp g.K H2 (Bz hd σ s2.ρ) x v := r.stay (fr_bz fr) fun a z => .inl (bz_le le a z)
theorem RpA.on {x : List V} {v : List PD} (fr : Fr (Av hd σ s1.ρ) H1 H2) (le : AvLe hd σ s2.ρ s1.ρ) (r : RpA g.K H1 (Bz hd σ s1.ρ) x v) : RpA g.K H2 (Bz hd σ s2.ρ) x v := r.stay (fr_bz fr) fun a z => .inl (bz_le le a z)
end
theorem a_opds (h : SndA X g call lamc actf W es ies) : PA X es (tOpds g call lamc actf W ies) := by
  induction h with
  | nil =>
    exact PA.imp pa_nil fun σ H Q ⟨hd, s, c, post⟩ => by
      rw [opds] at post
      exact post.here rfl (Fr.refl _ _) AvLe.refl ⟨c, .nil⟩
  | cons n h _ ih =>
    exact PA.imp (pa_cons h.op ih (star_no n _ _)) fun σ H Q ⟨hd, s, c, post⟩ => by
      rw [opds] at post
      refine ⟨hd, s, c, post.bind ROs.up fun x s1 v H1 fr1 le1 r1 post1 => ⟨hd, s1, r1.1, post1.bind ROs.up fun xs s2 vs H2 fr2 le2 r2 post2 => ?_⟩⟩
      refine post2.here rfl (Fr.refl _ _) AvLe.refl ⟨r2.1, .cons ?_ r2.2⟩
      cases x with
      | slot i => exact r1.2
      | val w => exact RpV.on fr2 le2 r1.2
theorem a_vals (h : SndA X g call lamc actf W es ies) : PA X es (tVals g call lamc actf W ies) := by
  induction h with
  | nil =>
    exact PA.imp pa_nil fun σ H Q ⟨hd, s, c, post⟩ => by
      rw [vals] at post
      exact post.here rfl (Fr.refl _ _) AvLe.refl ⟨c, .nil⟩
  | cons n h _ ih =>
    exact PA.imp (pa_cons h.ev ih (star_no n _ _)) fun σ H Q ⟨hd, s, c, post⟩ => by
      rw [vals] at post
      refine ⟨hd, s, c, post.bind RVs.up fun x s1 v H1 fr1 le1 r1 post1 => ⟨hd, s1, r1.drop.1, post1.bind RVs.up fun xs s2 vs H2 fr2 le2 r2 post2 => ?_⟩⟩
      exact post2.here rfl (Fr.refl _ _) AvLe.refl ⟨r2.1, .cons (RpV.on fr2 le2 r1.drop.2) r2.2⟩
def RAN (g : Gh) (hd : Dy) (σ : L2.St) (n : Nat) : Rel (List PD) (List V) := fun _ ds xs s H => (Cl g hd σ s H ∧ RpA g.K H (Bz hd σ s.ρ) xs ds) ∧ xs.length = n
theorem RAN.up {hd : Dy} {σ : L2.St} {n : Nat} : (RAN g hd σ n).Up := fun _ _ _ _ _ _ _ r => r
def tArgN (g : Gh) (call : Calls) (lamc : Nat → (Option (List PD) → FO) → Option (List PD) → FO) (actf : Option (List PD) → FO) (W : WX) (n : Nat) (es : IEs) : TA := fun σ H Q => ∃ hd s, Cl g hd σ s H ∧ Post g W hd σ s H (RAN g hd σ n) (args call lamc actf es s) Q
theorem a_args (h : SndA X g call lamc actf W es ies) : PA X es (tArgN g call lamc actf W es.length ies) := by
  induction h with
  | nil =>
    exact PA.imp pa_nil fun σ H Q ⟨hd, s, c, post⟩ => by
      rw [args] at post
      exact post.here rfl (Fr.refl _ _) AvLe.refl ⟨⟨c, .nil⟩, rfl⟩
  | cons n h _ ih =>
    exact PA.imp (pa_cons h.ev ih (star_no n _ _)) fun σ H Q ⟨hd, s, c, post⟩ => by
      rw [args] at post
      refine ⟨hd, s, c, post.bind RAN.up fun x s1 v H1 fr1 le1 r1 post1 => ⟨hd, s1, r1.drop.1, post1.bind RAN.up fun xs s2 vs H2 fr2 le2 r2 post2 => ?_⟩⟩
      split at post2
      · rename_i d e1
        have r := r1.drop.2
        rw [e1] at r
        exact post2.here rfl (Fr.refl _ _) AvLe.refl ⟨⟨r2.1.1, .cons (Rp.on fr2 le2 r) r2.1.2⟩, by rw [List.length_cons, List.length_cons, r2.2]⟩
      · exact post2.elim

/-! ### displays -/
theorem s_tup {x1} (h : SndA X g call lamc actf W es ies) (hn : es.length ≤ 1000) : PE X (.Tuple es x1 pos) (tEv g call lamc actf W (.tup ies)) := PE.imp (pe_tup (a_args h)) fun σ H Q ⟨hd, s, c, post⟩ => by
  rw [ev] at post
  refine ⟨hd, s, c, post.bind RE.up fun ds s1 xs H1 fr1 le1 r1 post1 => ⟨by rw [r1.2, sizeLine_eq]; omega, fun p hp => ?_⟩⟩
  exact post1.here rfl (Fr.new hp) AvLe.refl (RE.newT r1.1.1 r1.1.2 hp)
theorem s_lst (h : SndA X g call lamc actf W es ies) (hn : es.length ≤ 1000) : PE X (.List es pos) (tEv g call lamc actf W (.lst ies)) := PE.imp (pe_lst (a_args h)) fun σ H Q ⟨hd, s, c, post⟩ => by
  rw [ev] at post
  refine ⟨hd, s, c, post.bind RE.up fun ds s1 xs H1 fr1 le1 r1 post1 => ⟨by rw [r1.2, sizeLine_eq]; omega, fun p hp => ?_⟩⟩
  exact post1.here rfl (Fr.new hp) AvLe.refl (RE.newL r1.1.1 r1.1.2 hp hp)
theorem s_dnil : PE X (.Dict [] [] pos) (tEv g call lamc actf W .dnil) := PE.imp pe_dnewT fun σ H Q ⟨hd, s, c, post⟩ p hp => by
  rw [ev] at post
  exact post.here rfl (Fr.new hp) AvLe.refl (.inr ⟨rfl, p, _, rfl, rfl, nn hp, c.fresh hp, c.new hp (fun _ z => .inl z) (fun a z => z.imp id fun e => ⟨e, trivial⟩), [], upd_same, .nil⟩)

/-! ### built-ins called -/
theorem resv_all {hd : Dy} {σ : L2.St} {s : S} {H : Hp} : ∀ {os : List Opd} {xs : List V} {ds : List PD}, ROs g hd σ H os xs s H → os.mapM (resv s) = some ds → NwA g.K H (Bz hd σ s.ρ) xs ds
  | [], xs, ds, r, e => by
    cases r.2
    cases e
    exact .nil
  | o :: os, xs, ds, r, e => by
    obtain ⟨c, p⟩ := r
    cases p with
    | cons p1 p2 =>
      rw [List.mapM_cons] at e
      cases e1 : resv s o with
      | none => rw [e1] at e; cases e
      | some d =>
        cases e2 : os.mapM (resv s) with
        | none => rw [e1, e2] at e; cases e
        | some ds' =>
          rw [e1, e2] at e
          cases e
          exact .cons (res_now (o := o) (H0 := H) ⟨c, p1⟩ (Fr.refl _ _) AvLe.refl c e1) (resv_all ⟨c, p2⟩ e2)
theorem blt_imp {r : List V → Hp → VK → Prop} {f : Bf} (hr : BltRule g r (bltop f)) (σ : L2.St) (H : Hp) (Q : VK) : tEv g call lamc actf W (.blt f ies) σ H Q → tCB r (tOpds g call lamc actf W ies) σ H Q := fun ⟨hd, s, c, post⟩ => by
  rw [ev] at post
  refine ⟨hd, s, c, post.bind RE.up fun os s1 xs H1 fr1 le1 r1 post1 => ?_⟩
  split at post1
  · rename_i ds e1
    cases q : bltop f ds with
    | none => rw [q] at post1; exact post1.elim
    | some zf =>
      obtain ⟨z, fr⟩ := zf
      rw [q] at post1
      exact hr hd σ s1 H1 xs ds z fr Q r1.1 (resv_all r1 e1) q fun v H' fr3 r3 => post1.here rfl fr3 AvLe.refl r3
  · exact post1.elim
section
variable {x : Str} {p : Pos} {id T : String} {r : List V → Hp → VK → Prop} {f : Bf}
theorem s_callB (hr : BltRule g r (bltop f)) (hc : CallR X (.builtin id) r) (hg : Gl X x) (hm : X.mg x = none) (hv : bootBuiltins x = some (.builtin id)) (hn : x ≠ "__name__") (hdb : (x == ("__debug__" : Str)) = false) (h : SndA X g call lamc actf W (e :: es) ies) :
    PE X (.Call (.Name x p) (e :: es) [] pos) (tEv g call lamc actf W (.blt f ies)) := by
  have st := h.noStar
  rw [List.all_cons, Bool.and_eq_true] at st
  exact PE.imp (pe_callB hc hg hm hv (a_opds h) hn hdb (star_no st.1 _ _) (star_any st.2)) (blt_imp hr)
theorem s_callTy (hr : BltRule g r (bltop f)) (hc : CallR X (.type T) r) (hg : Gl X x) (hm : X.mg x = none) (hv : bootBuiltins x = some (.type T)) (hn : x ≠ "__name__") (hdb : (x == ("__debug__" : Str)) = false) (h : SndA X g call lamc actf W (e :: es) ies) :
    PE X (.Call (.Name x p) (e :: es) [] pos) (tEv g call lamc actf W (.blt f ies)) := by
  have st := h.noStar
  rw [List.all_cons, Bool.and_eq_true] at st
  exact PE.imp (pe_callTy hc hg hm hv (a_opds h) hn hdb (star_no st.1 _ _) (star_any st.2)) (blt_imp hr)
end
end
end Pev
set_option maxRecDepth 100000
set_option autoImplicit false
/-! Pev, soundness 9: isinstance, list(range), slices, methods. -/
namespace Pev
open PySem PySem.Spec PyProof.Rows L2

section
variable {X : Cx} {g : Gh} {call : Calls} {lamc : Nat → (Option (List PD) → FO) → Option (List PD) → FO} {actf : Option (List PD) → FO} {W : WX}
  {e a b c o : Expr} {ia ib ic ie io : IE} {pos p2 p apos : Pos} {es : List Expr} {ies : IEs} {ja jb : IT} {lo hi : Option Expr} {jlo jhi : IO}

theorem opds1 (s : S) : opds call lamc actf (.cons ia .nil) s = (opdOf ia (ev call lamc actf ia s) s).bind fun x s => .ok [x] s := by
  rw [opds]
  congr 1
/-! ### isinstance(a, T) -/
theorem bl_isa {T : String} {f : Bf} (hk : ∀ d : PD, ∃ k, kitB (tyD d) T = some k ∧ bltop f [d] = some (.bool k, false)) (σ : L2.St) (H : Hp) (Q : VK) :
    tEv g call lamc actf W (.blt f (.cons ia .nil)) σ H Q → tCB (rIsa g T) (tCons (tOpd g call lamc actf W ia) (tCons (tC (.ty T)) tNil)) σ H Q := fun ⟨hd, s, c, post⟩ => by
  rw [ev, opds1] at post
  have post : Post g W hd σ s H (RE g hd σ) ((opdOf ia (ev call lamc actf ia s) s).bind fun x s => match [x].mapM (resv s) with
    | some ds => outD (bltop f ds) s
    | none => .bad) Q := by
    cases e1 : opdOf ia (ev call lamc actf ia s) s <;> rw [e1] at post <;> exact post
  refine ⟨hd, s, c, post.bind RE.up fun xo s1 x H1 fr1 le1 r1 post1 => ?_⟩
  show rIsa g T [x, .ty T] H1 Q
  rw [List.mapM_cons, List.mapM_nil] at post1
  cases e1 : resv s1 xo with
  | none => rw [e1] at post1; exact post1.elim
  | some d =>
    rw [e1] at post1
    obtain ⟨k, k1, k2⟩ := hk d
    have post1 : Post g W hd σ s1 H1 (RE g hd σ) (outD (bltop f [d]) s1) Q := post1
    rw [k2] at post1
    exact ⟨x, d, _, k, rfl, res_now r1 (Fr.refl _ _) AvLe.refl r1.1 e1, k1, post1.here rfl (Fr.refl _ _) AvLe.refl (RE.val r1.1 (.bl _))⟩
theorem bl_isaK : ∀ {f : Bf} {T : String}, IsaBf f T → ∀ d : PD, ∃ k, kitB (tyD d) T = some k ∧ bltop f [d] = some (.bool k, false)
  | _, _, .inl ⟨rfl, rfl⟩, d => ⟨_, kit_int d, rfl⟩
  | _, _, .inr (.inl ⟨rfl, rfl⟩), d => ⟨_, kit_bool d, rfl⟩
  | _, _, .inr (.inr (.inl ⟨rfl, rfl⟩)), d => ⟨_, kit_tuple d, rfl⟩
  | _, _, .inr (.inr (.inr (.inl ⟨rfl, rfl⟩))), d => ⟨_, kit_str d, rfl⟩
  | _, _, .inr (.inr (.inr (.inr (.inl ⟨rfl, rfl⟩)))), d => ⟨_, kit_list d, rfl⟩
  | _, _, .inr (.inr (.inr (.inr (.inr ⟨rfl, rfl⟩)))), d => ⟨_, kit_dict d, rfl⟩
theorem s_isa {T : String} {f : Bf} {t : Str} (hK : X.K = g.K) (hf : IsaBf f T) (ha : Snd X g call lamc actf W a ia) (na : noStarE a = true)
    (hg : Gl X "isinstance") (hm : X.mg "isinstance" = none) (hg2 : Gl X t) (hm2 : X.mg t = none) (hv2 : bootBuiltins t = some (.type T)) (hn2 : t ≠ "__name__") (hd2 : (t == ("__debug__" : Str)) = false) :
    PE X (.Call (.Name "isinstance" p) [a, .Name t p2] [] pos) (tEv g call lamc actf W (.blt f (.cons ia .nil))) :=
  PE.imp (pe_callB (cr_isa hK T) hg hm (by decide +kernel) (pa_cons ha.op (pa_cons (pe_bltn hg2 hm2 hv2 (v := .ty T) rfl hn2 hd2) pa_nil) (star_no na _ _)) (by decide) (by decide) (star_no na _ _)) (bl_isa (bl_isaK hf))

/-! ### list(range(n)) -/
theorem rng_eq : ∀ (n : Nat) (lo : Int) {K : PySem.W.Frag} {H : Hp} {B : Addr → Prop}, RpA K H B ((List.range n).map fun i => V.int (lo + (i : Nat))) (rngD lo n)
  | 0, _, _, _, _ => .nil
  | n + 1, lo, K, H, B => by
    rw [List.range_succ_eq_map, List.map_cons, List.map_map]
    have e : (fun i : Nat => V.int (lo + (i : Nat))) ∘ Nat.succ = fun i : Nat => V.int (lo + 1 + (i : Nat)) := by
      funext i
      show V.int (lo + ((i + 1 : Nat) : Int)) = _
      congr 1
      omega
    rw [e]
    have h := rng_eq n (lo + 1) (K := K) (H := H) (B := B)
    refine .cons ?_ h
    show Rp K H B (.int (lo + ((0 : Nat) : Int))) (.int lo)
    have : lo + ((0 : Nat) : Int) = lo := by omega
    rw [this]
    exact .int _
theorem s_lrng (hc : X.calm = true) (ha : Snd X g call lamc actf W a ia) (na : noStarE a = true) (hg : Gl X "list") (hm : X.mg "list" = none) (hg2 : Gl X "range") (hm2 : X.mg "range" = none) :
    PE X (.Call (.Name "list" p) [.Call (.Name "range" p2) [a] [] apos] [] pos) (tEv g call lamc actf W (.blt .lrng (.cons ia .nil))) :=
  PE.imp (pe_listRg hc hg hm (prg_1 hg2 hm2 ha.op (star_no na _ _))) fun σ H Q ⟨hd, s, c, post⟩ => by
    rw [ev, opds1] at post
    have post : Post g W hd σ s H (RE g hd σ) ((opdOf ia (ev call lamc actf ia s) s).bind fun x s => match [x].mapM (resv s) with
      | some ds => outD (bltop .lrng ds) s
      | none => .bad) Q := by
      cases e1 : opdOf ia (ev call lamc actf ia s) s <;> rw [e1] at post <;> exact post
    refine ⟨hd, s, c, post.bind RE.up fun xo s1 x H1 fr1 le1 r1 post1 => ?_⟩
    rw [List.mapM_cons, List.mapM_nil] at post1
    cases e1 : resv s1 xo with
    | none => rw [e1] at post1; exact post1.elim
    | some d =>
      rw [e1] at post1
      have post1 : Post g W hd σ s1 H1 (RE g hd σ) (outD (bltop .lrng [d]) s1) Q := post1
      have n := res_now r1 (Fr.refl _ _) AvLe.refl r1.1 e1
      cases d with
      | int n' =>
        cases n
        have post1 : Post g W hd σ s1 H1 (RE g hd σ) (outD (if n' ≤ 100000 ∧ -100000 ≤ n' then some (.list (rngD 0 n'.toNat), true) else none) s1) Q := post1
        split at post1
        · rename_i hn
          refine ⟨n', rfl, ⟨by omega, by omega, by omega, by omega, by omega⟩, fun q hq => ?_⟩
          refine post1.here rfl (Fr.new hq) AvLe.refl (RE.newL r1.1 ?_ hq hq)
          unfold rgV
          have : (n' - 0).toNat = n'.toNat := by omega
          rw [this]
          exact rng_eq _ _
        · exact post1.elim
      | _ => exact post1.elim

/-! ### slices -/
theorem PO.imp {eo : Option Expr} {t t' : TO} (h : PO X eo t) (q : ∀ σ H Q, t' σ H Q → t σ H Q) : PO X eo t' := ⟨fun pins s σ H Q I hw => h.run pins s σ H Q I (q σ H Q hw)⟩
theorem o_no : PO X none (tOptI g call lamc actf W .no) := PO.imp po_none fun σ H Q ⟨hd, s, c, post⟩ => by
  rw [opt] at post
  exact post.here rfl (Fr.refl _ _) AvLe.refl ⟨c, rfl⟩
theorem o_yes (h : PE X e (tEv g call lamc actf W ie)) : PO X (some e) (tOptI g call lamc actf W (.yes ie)) := PO.imp (po_some h) fun σ H Q ⟨hd, s, c, post⟩ => by
  rw [opt] at post
  refine ⟨hd, s, c, post.bind RI.up fun xo s1 x H1 fr1 le1 r1 post1 => ?_⟩
  obtain ⟨c1, r1⟩ := r1.drop
  split at post1
  · rename_i i e1
    rw [e1] at r1
    cases r1
    exact ⟨i, rfl, post1.here rfl (Fr.refl _ _) AvLe.refl ⟨c1, rfl⟩⟩
  · exact post1.elim
theorem RO.on {hd : Dy} {σ : L2.St} {s1 s2 : S} {H1 H2 H0 : Hp} {o : Opd} {x : V} (fr : Fr (Av hd σ s1.ρ) H1 H2) (le : AvLe hd σ s2.ρ s1.ρ) (c : Cl g hd σ s2 H2) (r : RO g hd σ H0 o x s1 H1) : RO g hd σ H0 o x s2 H2 := by
  refine ⟨c, ?_⟩
  cases o with
  | slot i => exact r.2
  | val w => exact RpV.on fr le r.2
theorem s_slc (hK : X.K = g.K) (ha : Snd X g call lamc actf W a ia) (hl : PO X lo (tOptI g call lamc actf W jlo)) (hh : PO X hi (tOptI g call lamc actf W jhi)) : PE X (.Subscript a (.Slice lo hi none p2) pos) (tEv g call lamc actf W (.slc ia jlo jhi)) :=
  PE.imp (pe_slice (sl_slc hK) ha.op hl hh) fun σ H Q ⟨hd, s, c, post⟩ => by
    rw [ev] at post
    refine ⟨hd, s, c, post.bind RE.up fun xo s1 x H1 fr1 le1 r1 post1 => ⟨hd, s1, r1.1, post1.bind RE.up fun l s2 l' H2 fr2 le2 r2 post2 => ⟨hd, s2, r2.1, post2.bind RE.up fun u s3 u' H3 fr3 le3 r3 post3 => ?_⟩⟩⟩
    obtain ⟨c2, rfl⟩ := r2
    obtain ⟨c3, rfl⟩ := r3
    split at post3
    · rename_i d e1
      have n := res_now (RO.on fr2 le2 c2 r1) fr3 le3 c3 e1
      cases q : slcop d l u with
      | none => rw [q] at post3; exact post3.elim
      | some zf =>
        obtain ⟨z, fr⟩ := zf
        rw [q] at post3
        exact br_slc c3 n q fun v H' fr4 r4 => post3.here rfl fr4 AvLe.refl r4
    · exact post3.elim

/-! ### methods -/
def baseOk : Expr → Bool
  | .Call _ _ _ _ => false
  | _ => true
theorem base_ok (h : baseOk o = true) (m : Str) (env : Env) (w : Sem Value) : attributeBase o m env w = w := by
  cases o <;> first | rfl | cases h
section
variable {T id : String} {name : Str} {cpos : Pos} {to : TE} {t : TA} {r : V → List V → Hp → VK → Prop}
theorem few_ok (h : es.all noStarE = true) (hl : es.length < 20) (cpos : Pos) (env : Env) : ((backTo cpos (starEach es env)).all (fun x => !x.1) && (backToKw cpos (keywordEach [] env)).all (fun x => x.1.isSome)
    && decide (es.length + ([] : List Keyword).length + (if ([] : List Keyword).isEmpty then 0 else 1) < 30)) = true := by
  rw [star_all h]
  show (true && decide (es.length + 0 + 0 < 30)) = true
  rw [Bool.true_and, decide_eq_true_eq]
  omega
/-- o.m(e, ..), o a list -/
theorem pe_bmL (slot : PySem.Slot "list" name id) (hty : typeOf (.builtin id) = pure (.type "method_descriptor")) (hm : MtR X id r) (ho : PE X o to) (ha : PA X (e :: es) t) (hb : baseOk o = true)
    (hl : (e :: es).length < 20) (hst : (e :: es).all noStarE = true) (hline : (apos.endLine == cpos.line) = true) : PE X (.Call (.Attribute o name apos) (e :: es) [] cpos) (tBM X.K "list" r to t) := by
  have st := hst
  rw [List.all_cons, Bool.and_eq_true] at st
  exact pe_bm PySem.F.plainAttrs_list slot hty hm ho ha (base_ok hb _ _ _) (few_ok hst hl _ _) hline (star_no st.1 _ _) (star_any st.2)
theorem s_cnt (hK : X.K = g.K) (hu : X.A.units + 64 < cLine) (ha : Snd X g call lamc actf W a ia) (hb : Snd X g call lamc actf W b ib) (nb : noStarE b = true) (ob : baseOk a = true) (hline : (apos.endLine == cpos.line) = true) :
    PE X (.Call (.Attribute a "count" apos) [b] [] cpos) (tEv g call lamc actf W (.mth .count ia (.cons ib .nil))) :=
  PE.imp (pe_bmL PySem.F.slot_list_count PySem.F.type_list_count (mt_cntL hK hu) ha.op (a_opds (.cons nb hb .nil)) ob (by show 1 < 20; decide) (by rw [List.all_cons, nb]; rfl) hline) fun σ H Q ⟨hd, s, c, post⟩ => by
    rw [ev] at post
    refine ⟨hd, s, c, post.bind RE.up fun xo s1 x H1 fr1 le1 r1 post1 => ?_⟩
    split at post1
    · rename_i hm
      refine ⟨?_, hd, s1, r1.1, post1.bind RE.up fun ys s2 vs H2 fr2 le2 r2 post2 => ?_⟩
      · cases e1 : resv s1 xo with
        | none => rw [e1] at hm; cases hm
        | some d =>
          rw [e1] at hm
          have n := res_now r1 (Fr.refl _ _) AvLe.refl r1.1 e1
          cases d <;> first | cases hm | skip
          cases n with
          | lst q w => exact .inl ⟨rfl, _, SqL.of q⟩
      · split at post2
        · rename_i d ds e1 e2
          have n := res_now (RO.on fr2 le2 r2.1 r1) (Fr.refl _ _) AvLe.refl r2.1 e1
          have m := resv_all r2 e2
          cases q : mthop .count d ds with
          | none => rw [q] at post2; exact post2.elim
          | some z =>
            rw [q] at post2
            have hx : ∃ xs y, d = .list xs ∧ ds = [y] ∧ shal 40 y = true ∧ xs.all (shal 39) = true ∧ z = .int ((xs.countP fun x => PyData.eqv x y : Nat) : Int) := by
              match d, ds, q with
              | .list xs, [y], q =>
                have q : (if (shal 40 y && xs.all (shal 39)) = true then some (PyData.int ((xs.countP fun x => PyData.eqv x y : Nat) : Int)) else none) = some z := q
                split at q
                · rename_i hh
                  rw [Bool.and_eq_true] at hh
                  cases q
                  exact ⟨xs, y, rfl, rfl, hh.1, hh.2, rfl⟩
                · cases q
            obtain ⟨xs, y, rfl, rfl, h1, h2, rfl⟩ := hx
            obtain ⟨v, rfl, my⟩ := nwA1 m
            have pl : PyData.plain (.list xs) = true := (all_plain h2).1
            cases n with
            | lst r w => exact ⟨_, v, y, xs, rfl, rfl, Nw.dp (.lst r w) pl, my.dp (shal_plain _ _ h1).1, h1, h2, post2.here rfl (Fr.refl _ _) AvLe.refl (RE.val r2.1 (.int _))⟩
        · exact post2.elim
    · exact post1.elim
theorem findIdx_facts {α : Type} {f : α → Bool} : ∀ {xs : List α} {j : Nat}, xs.findIdx? f = some j → ∃ z, xs[j]? = some z ∧ f z = true ∧ ∀ m z', m < j → xs[m]? = some z' → f z' = false
  | [], j, h => by cases h
  | x :: xs, j, h => by
    rw [List.findIdx?_cons] at h
    cases q : f x with
    | true =>
      rw [q] at h
      cases h
      exact ⟨x, rfl, q, fun m _ z => by omega⟩
    | false =>
      rw [q] at h
      cases k : xs.findIdx? f with
      | none => rw [k] at h; cases h
      | some i =>
        rw [k] at h
        cases h
        obtain ⟨z, h1, h2, h3⟩ := findIdx_facts k
        refine ⟨z, h1, h2, fun m z' hm e => ?_⟩
        cases m with
        | zero => cases e; exact q
        | succ m =>
        have hm : m + 1 < i + 1 := hm
        exact h3 m z' (by omega) e
theorem s_idx (hK : X.K = g.K) (hu : X.A.units + 65 < cLine) (ha : Snd X g call lamc actf W a ia) (hb : Snd X g call lamc actf W b ib) (nb : noStarE b = true) (ob : baseOk a = true) (hline : (apos.endLine == cpos.line) = true) :
    PE X (.Call (.Attribute a "index" apos) [b] [] cpos) (tEv g call lamc actf W (.mth .index ia (.cons ib .nil))) :=
  PE.imp (pe_bmL PySem.F.slot_list_index PySem.F.type_list_index (mt_indexD hu) ha.op (a_opds (.cons nb hb .nil)) ob (by show 1 < 20; decide) (by rw [List.all_cons, nb]; rfl) hline) fun σ H Q ⟨hd, s, c, post⟩ => by
    rw [ev] at post
    refine ⟨hd, s, c, post.bind RE.up fun xo s1 x H1 fr1 le1 r1 post1 => ?_⟩
    split at post1
    · rename_i hm
      refine ⟨?_, hd, s1, r1.1, post1.bind RE.up fun ys s2 vs H2 fr2 le2 r2 post2 => ?_⟩
      · cases e1 : resv s1 xo with
        | none => rw [e1] at hm; cases hm
        | some d =>
          rw [e1] at hm
          have n := res_now r1 (Fr.refl _ _) AvLe.refl r1.1 e1
          cases d <;> first | cases hm | skip
          cases n with
          | lst q w => exact .inl ⟨rfl, _, SqL.of q⟩
      · split at post2
        · rename_i d ds e1 e2
          have n := res_now (RO.on fr2 le2 r2.1 r1) (Fr.refl _ _) AvLe.refl r2.1 e1
          have m := resv_all r2 e2
          cases q : mthop .index d ds with
          | none => rw [q] at post2; exact post2.elim
          | some z =>
            rw [q] at post2
            have hx : ∃ xs y j, d = .list xs ∧ ds = [y] ∧ (SeqAt.shaped (.list xs) = true ∧ SeqAt.shaped y = true ∧ PyData.plainAll xs = true ∧ PyData.plain y = true) ∧ xs.findIdx? (fun z => PyData.eqv z y) = some j ∧ z = .int (j : Int) := by
              match d, ds, q with
              | .list xs, [y], q =>
                have q : (if (SeqAt.shaped (.list xs) && SeqAt.shaped y && PyData.plainAll xs && PyData.plain y) = true then (xs.findIdx? fun z => PyData.eqv z y).map fun j => PyData.int (j : Int) else none) = some z := q
                split at q
                · rename_i hh
                  simp only [Bool.and_eq_true] at hh
                  cases k : xs.findIdx? (fun z => PyData.eqv z y) with
                  | none => rw [k] at q; cases q
                  | some j => rw [k] at q; cases q; exact ⟨xs, y, j, rfl, rfl, ⟨hh.1.1.1, hh.1.1.2, hh.1.2, hh.2⟩, k, rfl⟩
                · cases q
            obtain ⟨xs, y, j, rfl, rfl, ⟨h1, h2, h3, h4⟩, k, rfl⟩ := hx
            obtain ⟨v, rfl, my⟩ := nwA1 m
            have pl : PyData.plain (.list xs) = true := by rw [PyData.plain]; exact h3
            obtain ⟨zz, k1, k2, k3⟩ := findIdx_facts k
            cases n with
            | lst r w =>
              rw [hK]
              exact ⟨_, v, y, xs, j, zz, rfl, rfl, Nw.dp (.lst r w) pl, my.dp h4, h1, h2, k1, k2, k3, post2.here rfl (Fr.refl _ _) AvLe.refl (RE.val r2.1 (.int _))⟩
        · exact post2.elim
    · exact post1.elim
theorem s_get2 (hu : X.A.units + 64 < cLine) (ha : Snd X g call lamc actf W a ia) (hb : Snd X g call lamc actf W b ib) (hc : Snd X g call lamc actf W c ic) (nb : noStarE b = true) (nc : noStarE c = true) (ob : baseOk a = true) (hline : (apos.endLine == cpos.line) = true) :
    PE X (.Call (.Attribute a "get" apos) [b, c] [] cpos) (tEv g call lamc actf W (.mth .get2 ia (.cons ib (.cons ic .nil)))) := by
  have hst : [b, c].all noStarE = true := by rw [List.all_cons, nb, List.all_cons, nc]; rfl
  refine PE.imp (pe_dget2 (by omega) ha.op hb.op hc.op ⟨base_ok ob _ _ _, few_ok hst (by show 2 < 20; decide) _ _, hline, by rw [star_no nb, star_no nc]; rfl⟩) fun σ H Q ⟨hd, s, cl, post⟩ => ?_
  rw [ev] at post
  refine ⟨hd, s, cl, post.bind RE.up fun xo s1 x H1 fr1 le1 r1 post1 => ?_⟩
  split at post1
  · rename_i hm
    have hx : ∃ a, x = .ref a ∧ IsD H1 a := by
      cases e1 : resv s1 xo with
      | none => rw [e1] at hm; cases hm
      | some d =>
        rw [e1] at hm
        have n := res_now r1 (Fr.refl _ _) AvLe.refl r1.1 e1
        cases d <;> first | cases hm | skip
        cases n with
        | dik _ ne qq =>
          have hm : tkeys _ = true := hm
          rw [qq.tkeys ne] at hm
          cases hm
        | dic q w => exact ⟨_, rfl, .inr ⟨_, .inl q⟩⟩
    obtain ⟨a, rfl, isd⟩ := hx
    refine ⟨a, rfl, isd, ?_⟩
    rw [opds] at post1
    have post1 : Post g W hd σ s1 H1 (RE g hd σ) ((opdOf ib (ev call lamc actf ib s1) s1).bind fun y s => (opdOf ic (ev call lamc actf ic s) s).bind fun z s => match resv s xo, [y, z].mapM (resv s) with
      | some d, some ds => outD0 (mthop .get2 d ds) s
      | _, _ => .bad) Q := by
      cases e1 : opdOf ib (ev call lamc actf ib s1) s1 with
      | bad => rw [e1] at post1; exact post1
      | exc _ _ => rw [e1] at post1; exact post1
      | ok y s2 =>
        rw [e1] at post1
        simp only [Out.bind, opds1] at post1 ⊢
        cases e2 : opdOf ic (ev call lamc actf ic s2) s2 <;> rw [e2] at post1 <;> exact post1
    refine ⟨hd, s1, r1.1, post1.bind RE.up fun y s2 yv H2 fr2 le2 r2 post2 => ⟨hd, s2, r2.1, post2.bind RE.up fun z s3 zv H3 fr3 le3 r3 post3 => ?_⟩⟩
    split at post3
    · rename_i d ds e1 e2
      have n := res_now (RO.on fr2 le2 r2.1 r1) fr3 le3 r3.1 e1
      have m := resv_all (os := [y, z]) (xs := [yv, zv]) (H := H3) ⟨r3.1, .cons (RO.on fr3 le3 r3.1 r2).2 (.cons r3.2 .nil)⟩ e2
      cases q : mthop .get2 d ds with
      | none => rw [q] at post3; exact post3.elim
      | some w =>
        rw [q] at post3
        match d, ds, q with
        | .dict kvs, [k, .int j], q =>
          have q : (if (isKey k && tkeys kvs) = true then some ((dfind kvs k).getD (.int j)) else none) = some w := q
          split at q
          · rename_i ik
            rw [Bool.and_eq_true] at ik
            obtain ⟨ik, tk⟩ := ik
            obtain ⟨k, rfl⟩ := isKey_of ik
            cases m with
            | cons m1 m2 =>
              obtain ⟨v2, hv2, m3⟩ := nwA1 m2
              cases hv2
              cases m3
              obtain ⟨b', rfl, hb'⟩ := nw_key m1
              cases n with
              | dik _ ne qq => rw [qq.tkeys ne] at tk; cases tk
              | dic r qq =>
                rcases rpD_find k qq with ⟨e1, e2⟩ | ⟨v, d', e1, e2, e3⟩
                · rw [e2] at q
                  cases q
                  refine ⟨none, ?_, post3.here rfl (Fr.refl _ _) AvLe.refl (RE.val r3.1 (.int _))⟩
                  rw [← e1]
                  exact DGet.t r hb'
                · rw [e2] at q
                  cases q
                  refine ⟨some v, ?_, post3.here rfl (Fr.refl _ _) AvLe.refl (RE.val r3.1 e3)⟩
                  rw [← e1]
                  exact DGet.t r hb'
          · cases q
    · exact post3.elim
  · exact post1.elim
/-! ### script[:n] -/
theorem s_scut {i m : Nat} {j : Nat} {p3 : Pos} (hK : X.K = g.K) (h : PE X a (tVar i)) : PE X (.Subscript a (.Slice none (some (.Constant (.int (m : Int)) j p3)) none p2) pos) (tEv g call lamc actf W (.scut i m)) :=
  PE.imp (pe_slice sl_list h po_none (po_some pe_int)) fun σ H Q ⟨hd, s, c, post⟩ => by
    rw [ev] at post
    split at post
    · rename_i ns e1
      obtain ⟨x, q1, p, rfl, q2⟩ := c.vals i _ e1
      have sq : SqL X.K H p (ns.map V.int) := by
        rw [hK]
        rcases q2 with ⟨_, q2⟩ | q2
        · exact .inl q2
        · exact .inr q2
      refine ⟨_, q1, (m : Int), rfl, p, _, rfl, sq, fun q hq => post.here rfl (Fr.new hq) AvLe.refl (RE.newL c ?_ hq hq)⟩
      have hr : ∀ l : List Int, RpA g.K H (Bz hd σ s.ρ) (l.map V.int) (l.map PyData.int) := fun l => by
        induction l with
        | nil => exact .nil
        | cons a l ih => exact .cons (.int a) ih
      have e : cutV (ns.map V.int) none (some (m : Int)) = (ns.take m).map V.int := by
        have := cut_len (ns.map V.int)
        unfold cutV
        rw [cutIx_eq, cutIx_eq]
        unfold cutIx
        simp only [List.drop_zero, Int.natCast_nonneg, if_true, Int.toNat_natCast, Nat.sub_zero, List.length_map]
        rw [← List.map_take]
        congr 1
        rw [List.take_eq_take_iff]
        omega
      rw [e]
      exact hr _
    · exact post.elim
end
end
end Pev
set_option maxRecDepth 100000
set_option autoImplicit false
/-! Pev, soundness 10: what a def promises, calls. -/
namespace Pev
open PySem PySem.Spec PyProof.Rows L2
open LamX (Tabs TabS CodeO)

/-! ### the promise -/
/-- what a call must leave alone: the shared list's address, what the caller sets apart -/
def B0 (hd : Dy) (a : Addr) : Prop := hd.p = some a ∨ hd.Z a
/-- a call's result -/
def RX (g : Gh) (hd : Dy) (h : Option (List PD)) (H : Hp) (v : Val) (fr : Bool) (x : V) (H' : Hp) : Prop :=
  (fr = false ∧ HandAt g hd (B0 hd) h H' ∧ RpV g hd H' (B0 hd) x v) ∨
  (fr = true ∧ ∃ a d, x = .ref a ∧ v = .dat d ∧ Nn H a ∧ (∃ o, H' a = some o ∧ isMu o) ∧ HandAt g hd (fun b => B0 hd b ∨ b = a) h H' ∧ At g.K H' (fun b => B0 hd b ∨ b = a) a d)
def EndF (g : Gh) (hd : Dy) (H : Hp) (Q : VK) (E : XK) : FO → Prop
  | .ret v fr h => ∀ x H', Fr (fun a => hd.p = some a) H H' → Tabs g.T H' → RX g hd h H v fr x H' → Q x H'
  | .exc c h => ∀ H', Fr (fun a => hd.p = some a) H H' → HandAt g hd (B0 hd) h H' → Tabs g.T H' → E (.ref (g.C c)) none H'
  | .bad => False
structure StartF (g : Gh) (hd : Dy) (H : Hp) (vs : List V) (avs : List Val) (h : Option (List PD)) : Prop where
  args : Paired (fun (v : Val) (x : V) => RpV g hd H (B0 hd) x v) avs vs
  hand : HandAt g hd (B0 hd) h H
  tabs : Tabs g.T H
  mu : ∀ a, B0 hd a → ∃ o, H a = some o ∧ isMu o
def spF (g : Gh) (call : Calls) (f : Nat) : Sp := fun vs H Q E => ∃ (hd : Dy) (avs : List Val) (h : Option (List PD)), StartF g hd H vs avs h ∧ EndF g hd H Q E (call f avs h)

/-! ### calls -/
section
variable {X : Cx} {g : Gh} {call : Calls} {lamc : Nat → (Option (List PD) → FO) → Option (List PD) → FO} {actf : Option (List PD) → FO} {W : WX}
  {e a b c o : Expr} {ia ib ic ie io : IE} {pos p2 p apos : Pos} {es : List Expr} {ies : IEs}
def hdOf (hd : Dy) (σ : L2.St) (ρ : List Slot) : Dy := ⟨hd.p, Bz hd σ ρ⟩
theorem b0_bz {hd : Dy} {σ : L2.St} {ρ : List Slot} (a : Addr) : B0 (hdOf hd σ ρ) a ↔ Bz hd σ ρ a := ⟨fun z => z.elim (fun e => .inl (.inl e)) id, .inr⟩
theorem handAt_hd {hd hd' : Dy} {B : Addr → Prop} {h : Option (List PD)} {H : Hp} (e : hd.p = hd'.p) (q : HandAt g hd B h H) : HandAt g hd' B h H := by
  unfold HandAt at q ⊢
  rw [← e]
  exact q
theorem rpV_hd {hd hd' : Dy} {B : Addr → Prop} {x : V} {v : Val} {H : Hp} (e : hd.p = hd'.p) (q : RpV g hd H B x v) : RpV g hd' H B x v := by
  cases v with
  | hnd => obtain ⟨a, h1, h2⟩ := q; exact ⟨a, by rw [← e]; exact h1, h2⟩
  | lmb => exact (show g.la hd'.p x H B from e ▸ (show g.la hd.p x H B from q))
  | _ => exact q
theorem rpV_less {hd : Dy} {B B' : Addr → Prop} {x : V} {v : Val} {H : Hp} (hB : ∀ a, B' a → B a) (q : RpV g hd H B x v) : RpV g hd H B' x v := q.stay (Fr.refl _ _) fun a z => .inl (hB a z)
section
variable {hd : Dy} {σ : L2.St} {s : S} {H H' : Hp} {vs : List V} {avs : List Val}
theorem start_of (c : Cl g hd σ s H) (p : Paired (fun (v : Val) (x : V) => RpV g hd H (Bz hd σ s.ρ) x v) avs vs) : StartF g (hdOf hd σ s.ρ) H vs avs s.h := by
  have hB : ∀ a, B0 (hdOf hd σ s.ρ) a → Bz hd σ s.ρ a := fun a => (b0_bz a).mp
  refine ⟨?_, ?_, c.tabs, fun a z => c.mu a (hB a z)⟩
  · induction p with
    | nil => exact .nil
    | cons r _ ih => exact .cons (rpV_hd (hd := hd) rfl (rpV_less hB r)) ih
  · exact handAt_hd (hd := hd) rfl (HandAt.less c.hand hB)
/-- behind a call: the frame's own things are as they were -/
theorem cl_after {B' : Addr → Prop} {h' : Option (List PD)} (c : Cl g hd σ s H) (fr : Fr (fun a => hd.p = some a) H H') (tb : Tabs g.T H') (hB : ∀ a, Bz hd σ s.ρ a → B' a) (hB' : ∀ a, B' a → Bz hd σ s.ρ a ∨ (Nn H a ∧ ∃ o, H' a = some o ∧ isMu o))
    (hh : HandAt g hd B' h' H') : Ok g hd B' σ ⟨s.ρ, h'⟩ H' := by
  have fr2 : Fr (Bz hd σ s.ρ) H H' := fr.mono fun a z => .inl (.inl (.inl z))
  have hb : ∀ a, B' a → Bz hd σ s.ρ a ∨ Nn H a := fun a z => (hB' a z).imp id And.left
  refine ⟨c.len, fun a z => hB a (c.av a z), fun a z => ?_, fun i v e => ?_, fun i d e => ?_, c.apart, hh, tb⟩
  · rcases hB' a z with z | ⟨_, q⟩
    · obtain ⟨o, e, m⟩ := c.mu a z
      by_cases hp : hd.p = some a
      · unfold HandAt at hh
        rw [hp] at hh
        cases h' with
        | none => exact hh.elim
        | some ds =>
          obtain ⟨xs, q1, _⟩ := (show At g.K H' B' a (.list ds) from hh)
          exact ⟨_, q1, trivial⟩
      · exact ⟨o, fr.keep a o e hp (fun ps q => by rw [q] at m; exact m), m⟩
    · exact q
  · obtain ⟨x, h1, h2⟩ := c.vals i v e
    exact ⟨x, h1, h2.stay fr2 hb⟩
  · obtain ⟨a, h1, h2, h3, h4⟩ := c.owns i d e
    refine ⟨a, h1, h2.stay fr2 hb (fun o e6 => fr.keep a o e6 h3 fun ps q => ?_), h3, h4⟩
    subst q
    cases d with
    | list ds => obtain ⟨xs, q, _⟩ := h2; rw [e6] at q; cases q
    | dict ds => obtain ⟨xs, q, _⟩ := h2; rw [e6] at q; cases q
    | _ => exact h2.elim
theorem RX.re {v : Val} {fr : Bool} {x : V} {h' : Option (List PD)} (c : Cl g hd σ s H) (f : Fr (fun a => hd.p = some a) H H') (tb : Tabs g.T H') (r : RX g (hdOf hd σ s.ρ) h' H v fr x H') : RE g hd σ H ⟨v, fr⟩ x ⟨s.ρ, h'⟩ H' := by
  rcases r with ⟨rfl, hh, r⟩ | ⟨rfl, a, d, rfl, rfl, ha, hm, hh, at'⟩
  · exact .inl ⟨rfl, cl_after c f tb (fun _ z => z) (fun _ z => .inl z) (handAt_hd rfl (HandAt.less hh fun a z => (b0_bz a).mpr z)), rpV_hd rfl (rpV_less (fun a z => (b0_bz a).mpr z) r)⟩
  · have hB : ∀ b, (Bz hd σ s.ρ b ∨ b = a) → (B0 (hdOf hd σ s.ρ) b ∨ b = a) := fun b z => z.imp (b0_bz b).mpr id
    refine .inr ⟨rfl, a, d, rfl, rfl, ha, c.freshN ha, cl_after c f tb (fun _ z => .inl z) (fun b z => z.imp id fun e => by rw [e]; exact ⟨ha, hm⟩) (handAt_hd rfl (HandAt.less hh hB)), ?_⟩
    exact at'.stay (Fr.refl _ _) (fun b z => .inl (hB b z)) fun _ e => e
theorem call_end {W : WX} {f : Nat} {Q : VK} {E : XK} (c : Cl g hd σ s H) (p : Paired (fun (v : Val) (x : V) => RpV g hd H (Bz hd σ s.ρ) x v) avs vs) (hE : E = WE W σ)
    (post : Post g W hd σ s H (RE g hd σ) (ofFO (call f avs s.h) s.ρ) Q) : spF g call f vs H Q E := by
  subst hE
  refine ⟨hdOf hd σ s.ρ, avs, s.h, start_of c p, ?_⟩
  cases e : call f avs s.h with
  | bad => rw [e] at post; exact post.elim
  | exc n h =>
    rw [e] at post
    exact fun H' fr hh tb => post H' (fr.mono fun a z => .inl (.inl z)) (handAt_hd rfl (HandAt.less hh fun a z => z.imp id .inr)) tb
  | ret v fr h =>
    rw [e] at post
    exact fun x H' f tb r => post x H' (f.mono fun a z => .inl (.inl z)) AvLe.refl (r.re c f tb)
end
/-! ### defs where no repr is under way -/
/-- room, and no repr is under way -/
structure RoomG (k : Nat) (A : Around) : Prop where
  r : Room k A
  g : A.guards = some []
theorem RoomG.mono {j k : Nat} {A : Around} (h : RoomG k A) (l : j ≤ k) : RoomG j A := ⟨h.r.mono l, h.g⟩
theorem RoomG.u65 {k : Nat} {A : Around} (h : RoomG k A) : A.units + 65 < cLine := by have := h.r.un; omega
theorem RoomG.deeper {k : Nat} {A : Around} (h : RoomG (k + 1) A) (env : Env) : RoomG k (A.deeper env) := ⟨h.r.deeper env, h.g⟩
/-- a def keeps its promise wherever no repr is under way -/
structure FnG (P : Program) (w : World) (K : PySem.W.Frag) (mg : Str → Option Value) (base : Heap) (CX : CXT) (k : Nat) (f : Addr) (fd : FuncData) (ps : List Str) (sp : Sp) : Prop where
  many : ∀ vs H Q E, sp vs H Q E → vs.length = ps.length
  go : ∀ (A : Around) (outer : List Env) (s : Shared) (H : Hp) (us : List Value) (vs : List V) (Q : VK) (E : XK), RoomG k A → Env0 P w K mg base A outer s H → BindsTo s fd ⟨us, []⟩ (ps.zip us) → Vals vs us → sp vs H Q E →
    codeAny (model P w) A (.call (.ref f) ⟨us, []⟩) (CR CX outer P w H s Q E) s
theorem go_fnG {CX : CXT} {E : L2.St → XK} {sp : Sp} {k : Nat} {f : Addr} {fd : FuncData} {ps : List Str} {pins : List (Addr × Obj)} {σ : L2.St} {H : Hp} {s : Shared} {Q : VK} {us : List Value} {vs : List V} (F : FnG X.prog X.w X.K X.mg X.base CX k f fd ps sp) (hr : RoomG k X.A) (hb : Binds X.K fd ps [])
    (hx : PassesAt CX X σ (E σ)) (J : L2.Inv X pins σ H s) (r : Vals vs us) (h : sp vs H Q (E σ)) : wpAny (model X.prog X.w) X.A (PySem.call (.ref f) us) (EP X pins σ Q) X.xe s := by
  have b0 : BindsTo s fd ⟨us, []⟩ (ps.zip us) := by
    have := hb s us J.kIn (by rw [List.append_nil, ← r.length]; exact F.many _ _ _ _ h)
    rwa [List.append_nil] at this
  have whole := F.go X.A X.stack s H us vs Q (E σ) hr J.env0 b0 r h
  refine wpAny_call (codeAny_mono whole ?_)
  rintro (e | fl) s' hq
  · exact hx pins H s e s' J hq
  · match fl, hq with
    | .ret _, hq => exact J.after hq
    | .next, hq => exact hq.elim
    | .brk, hq => exact hq.elim
    | .cont, hq => exact hq.elim
section
variable {x : Str} {p pos : Pos} {k f i : Nat} {fd : FuncData} {ps : List Str}
theorem s_call (tk : Takes X W) (F : FnG X.prog X.w X.K X.mg X.base (L2.CX X.prog X.w) k (g.F f) fd ps (spF g call f)) (hr : RoomG k X.A) (hg : Gl X x) (hm : X.mg x = some (.ref (g.F f))) (hk : PySem.W.keepIn X.K (.ref (g.F f)) = true) (hb : Binds X.K fd ps [])
    (hdb : (x == ("__debug__" : Str)) = false) (h : SndA X g call lamc actf W (e :: es) ies) : PE X (.Call (.Name x p) (e :: es) [] pos) (tEv g call lamc actf W (.call f ies)) := by
  have st := h.noStar
  rw [List.all_cons, Bool.and_eq_true] at st
  refine ⟨fun pins sh σ H Q J ⟨hd, s, c, post⟩ => ?_⟩
  rw [ev] at post
  have ha : tVals g call lamc actf W ies σ H fun vs H2 => spF g call f vs H2 Q (WE W σ) := ⟨hd, s, c, post.bind RE.up fun avs s1 vs H1 fr1 le1 r1 post1 => call_end r1.1 r1.2 rfl post1⟩
  refine wpAny_Call_Name_kw (ld_glob J hg hm ?_ hdb)
  exact PySem.W.callWith_K (h₀ := X.base) J.ok.mod.kin hk (thn ((a_vals h).run pos pins sh σ H _ J ha) fun us s1 ⟨vs, H1, I1, r, q⟩ => ⟨I1.kIn, go_fnG (E := WE W) F hr hb (passAt tk σ) I1 r q⟩) (star_no st.1 _ _) (star_any st.2)
theorem s_call0 (tk : Takes X W) (F : FnG X.prog X.w X.K X.mg X.base (L2.CX X.prog X.w) k (g.F f) fd ps (spF g call f)) (hr : RoomG k X.A) (hg : Gl X x) (hm : X.mg x = some (.ref (g.F f))) (hk : PySem.W.keepIn X.K (.ref (g.F f)) = true) (hb : Binds X.K fd ps [])
    (hdb : (x == ("__debug__" : Str)) = false) : PE X (.Call (.Name x p) [] [] pos) (tEv g call lamc actf W (.call f .nil)) := by
  refine ⟨fun pins st σ H Q I ⟨hd, s, c, post⟩ => ?_⟩
  refine wpAny_Call_Name_kw (ld_glob I hg hm ?_ hdb)
  refine PySem.W.callWith_K0 I.kIn hk (go_fnG (E := WE W) (us := []) F hr hb (passAt tk σ) I .nil ?_)
  rw [ev, vals] at post
  exact call_end (avs := []) (vs := []) c .nil rfl post
/-- a local that holds a def -/
theorem s_calv (tk : Takes X W) (A : ∀ f, ∃ fd ps, FnG X.prog X.w X.K X.mg X.base (L2.CX X.prog X.w) k (g.F f) fd ps (spF g call f) ∧ PySem.W.keepIn X.K (.ref (g.F f)) = true ∧ Binds X.K fd ps []) (hr : RoomG k X.A) (hN : X.N[i]? = some x) (hv : Vis X.env.scope x)
    (hdb : (x == ("__debug__" : Str)) = false) (hcd : (x == ("__classdict__" : Str)) = false) (h : SndA X g call lamc actf W (e :: es) ies) : PE X (.Call (.Name x p) (e :: es) [] pos) (tEv g call lamc actf W (.calv i ies)) := by
  have sta := h.noStar
  rw [List.all_cons, Bool.and_eq_true] at sta
  refine ⟨fun pins st σ H Q I ⟨hd, s, c, post⟩ => ?_⟩
  rw [ev] at post
  split at post
  · rename_i f hf
    obtain ⟨y, hs, rfl⟩ := c.vals i _ hf
    refine wpAny_Call_Name_kw (thn ((pe_var (pos := p) hN hv hdb hcd).run pins st σ H (fun v H1 => v = .ref (g.F f) ∧ H1 = H) I ⟨.ref (g.F f), hs, rfl, rfl⟩) fun u s1 ⟨v, H1, I1, r1, q1⟩ => ?_)
    obtain ⟨rfl, rfl⟩ := q1
    cases r1
    obtain ⟨fd, ps, F, hk, hb⟩ := A f
    have ha : tVals g call lamc actf W ies σ H1 fun vs H2 => spF g call f vs H2 Q (WE W σ) := ⟨hd, s, c, post.bind RE.up fun avs s1 vs H2 fr1 le1 r1 post1 => call_end r1.1 r1.2 rfl post1⟩
    exact PySem.W.callWith_K (h₀ := X.base) I.ok.mod.kin hk (thn ((a_vals h).run pos pins s1 σ H1 _ I1 ha) fun us s2 ⟨vs, H2, I2, r, q⟩ => ⟨I2.kIn, go_fnG (E := WE W) F hr hb (passAt tk σ) I2 r q⟩) (star_no sta.1 _ _) (star_any sta.2)
  · exact post.elim
end
end
end Pev
set_option maxRecDepth 100000
set_option autoImplicit false
/-! Pev: the law's call from outside, where no repr is under way. -/
namespace Pev
open PySem PySem.Spec PyProof.Rows L2
open LamX (TabB)
/-- what is tracked when the law is called: the tables; the script, where the part K does not hold it -/
def seenAt (K : PySem.W.Frag) (cs : List (Addr × Addr)) (a : Addr) (o : Obj) (xs : List V) : Hp := fun b =>
  if b ∈ cs.map (·.2) then some (.tbl #[]) else if b = a ∧ K.lookup a = none then some (.frz o (.lst xs)) else none
section
variable {P : Program} {w : World} {K : PySem.W.Frag} {mg mb : Str → Option Value} {cs : List (Addr × Addr)} {a : Addr} {o : Obj} {xs : List V} {h : Heap}
theorem seen_tab {q : Addr × Addr} (hq : q ∈ cs) : seenAt K cs a o xs q.2 = some (.tbl #[]) := if_pos (List.mem_map.mpr ⟨q, hq, rfl⟩)
theorem seen_is {b : Addr} {u : HO} (e : seenAt K cs a o xs b = some u) : (b ∈ cs.map (·.2) ∧ u = .tbl #[]) ∨ (b ∉ cs.map (·.2) ∧ b = a ∧ K.lookup a = none ∧ u = .frz o (.lst xs)) := by
  unfold seenAt at e
  by_cases m : b ∈ cs.map (·.2)
  · rw [if_pos m] at e; cases e; exact .inl ⟨m, rfl⟩
  · rw [if_neg m] at e
    by_cases m2 : b = a ∧ K.lookup a = none
    · rw [if_pos m2] at e; cases e; exact .inr ⟨m, m2.1, m2.2, rfl⟩
    · rw [if_neg m2] at e; cases e
variable (hT : ∀ q ∈ cs, h.get? q.2 = some { cls := .none, data := .fields #[] }) (ha : h.get? a = some o) (nT : ∀ q ∈ cs, K.lookup q.2 = none)
include hT in
theorem tab_at {b : Addr} (m : b ∈ cs.map (·.2)) : h.get? b = some { cls := .none, data := .fields #[] } := by
  obtain ⟨q, hq, rfl⟩ := List.mem_map.mp m
  exact hT q hq
include hT ha in
/-- neither a table nor the script -/
theorem seen_no {b : Addr} {ob : Obj} (e : h.get? b = some ob) (n1 : ob.data ≠ .fields #[]) (n2 : ob ≠ o) : seenAt K cs a o xs b = none := by
  cases q : seenAt K cs a o xs b with
  | none => rfl
  | some u =>
    rcases seen_is q with ⟨m, _⟩ | ⟨_, rfl, _, _⟩
    · have := tab_at hT m
      rw [e] at this
      cases this
      exact absurd rfl n1
    · rw [ha] at e
      cases e
      exact absurd rfl n2
include hT ha nT in
theorem seen_part (KX : K.In h) : K.In (hidT h (seenAt K cs a o xs)) := fun b ob e => by
  refine hidT_get (KX b ob e) ?_
  cases q : seenAt K cs a o xs b with
  | none => rfl
  | some u =>
    rcases seen_is q with ⟨m, _⟩ | ⟨_, rfl, m, _⟩
    · obtain ⟨r, hr, rfl⟩ := List.mem_map.mp m
      rw [nT r hr] at e; cases e
    · rw [m] at e; cases e
variable {vs : List Value} (ho : o = { cls := .type "list", data := .seq vs.toArray })
include hT ha ho in
theorem seen_ns {b : Addr} {m : Str → Option Value} (n : h.Ns b m) : (hidT h (seenAt K cs a o xs)).Ns b m := by
  obtain ⟨ob, es, ep, e, d, r⟩ := n
  refine ⟨ob, es, ep, hidT_get e (seen_no hT ha e ?_ ?_), d, r⟩
  · rw [d]; exact fun z => nomatch z
  · intro z
    rw [z, ho] at d
    cases d
include hT ha ho in
theorem seen_code {q : Addr × Addr} (hq : q ∈ cs) (c : PySem.W.CodeHd h q.1 q.2) (hns : h.Ns mainGlobals mg)
    (hbm : ∃ (bm : Addr) (ob : Obj), mg "__builtins__" = some (.ref bm) ∧ bm ≠ builtinsNs ∧ h.get? bm = some ob ∧ ob.cls = .type "module" ∧ ob.dict = some builtinsNs ∧ ob.data = .plain) : TabB (hidT h (seenAt K cs a o xs)) mg q.1 q.2 := by
  have low : ∀ {b : Addr} {ob : Obj}, h.get? b = some ob → ob.data ≠ .fields #[] → (∀ us n, ob.data ≠ .seq us n) → (hidT h (seenAt K cs a o xs)).get? b = some ob := fun {b ob} e n1 n2 =>
    hidT_get e (seen_no hT ha e n1 fun z => by rw [z, ho] at n2; exact n2 _ _ rfl)
  have gl : mainGlobals ≠ q.2 := fun z => by
    obtain ⟨ob, es, ep, e, d, _⟩ := hns
    rw [z, hT q hq] at e
    cases e
    cases d
  refine ⟨?_, ?_, gl⟩
  · obtain ⟨oc, us, file, tf, flags, tg, inF, text, tt, e1, r1, r2, r3, r⟩ := c
    refine ⟨oc, us, file, tf, flags, tg, inF, text, tt, low e1 ?_ ?_, r1, r2, r3, r⟩
    · rw [r2]; intro z; cases z; simp at r3
    · rw [r2]; exact fun _ _ z => nomatch z
  · obtain ⟨bm, ob, b1, b2, b3, b4, b5, b6⟩ := hbm
    refine ⟨bm, ob, b1, b2, ?_, ?_, low b3 ?_ ?_, b4, b5, b6⟩
    · rintro rfl
      obtain ⟨ob', es, ep, e, d, _⟩ := hns
      rw [b3] at e
      cases e
      rw [b6] at d
      cases d
    · rintro rfl
      rw [hT q hq] at b3
      cases b3
      cases b6
    · rw [b6]; exact fun z => nomatch z
    · rw [b6]; exact fun _ _ z => nomatch z
end
section
variable {P : Program} {w : World} {K : PySem.W.Frag} {mg mb : Str → Option Value} {cs : List (Addr × Addr)} {a fa : Addr} {CX : CXT} {k : Nat} {fd : FuncData} {x : Str} {sp : Sp} {s₁ : Shared} {vs : List Value} {ns : List Int}
theorem law_go (KX : K.In s₁.heap) (hns : s₁.heap.Ns mainGlobals mg) (hb : s₁.heap.Ns builtinsNs mb) (hbb : ∀ x : Str, x ≠ "__name__" → mb x = bootBuiltins x) (hlim : s₁.heap.NoLimit) (hg : s₁.gens = #[])
    (hT : ∀ q ∈ cs, s₁.heap.get? q.2 = some { cls := .none, data := .fields #[] }) (nT : ∀ q ∈ cs, K.lookup q.2 = none) (C : ∀ q ∈ cs, PySem.W.CodeHd s₁.heap q.1 q.2)
    (hbm : ∃ (bm : Addr) (ob : Obj), mg "__builtins__" = some (.ref bm) ∧ bm ≠ builtinsNs ∧ s₁.heap.get? bm = some ob ∧ ob.cls = .type "module" ∧ ob.dict = some builtinsNs ∧ ob.data = .plain)
    (ha : s₁.heap.get? a = some { cls := .type "list", data := .seq vs.toArray }) (hi : IntsAre vs ns) (hl : ns.length ≤ sizeLine) (hr : RoomG k callerA)
    (F : ∀ base : Heap, K.In base → base.Ns mainGlobals mg → (∀ q ∈ cs, TabB base mg q.1 q.2) → FnG P w K mg base CX k fa fd [x] sp) (hbind : ∀ (s : Shared) (u : Value), BindsTo s fd ⟨[u], []⟩ [(x, u)])
    (hsp : ∀ H : Hp, (∀ q ∈ cs, H q.2 = some (.tbl #[])) → SqL K H a (ns.map V.int) → sp [.ref a] H (fun v _ => v = .bl true) fun _ _ _ => False) (hCX : ∀ H e s', CX [] H s₁ (fun _ _ _ => False) e s' → False) :
    codeAny (model P w) callerA (.call (.ref fa) ⟨[.ref a], []⟩) (fun r s' => r = .ok (.ret (.bool true)) ∧ OldK s₁.heap s'.heap ∧ s'.os = s₁.os ∧ AllBare s'.gens) s₁ := by
  obtain ⟨o, ho⟩ : ∃ o : Obj, o = { cls := .type "list", data := .seq vs.toArray } := ⟨_, rfl⟩
  have rv := vals_ints hi
  have ln : vs.length = ns.length := hi.length
  rw [← ho] at ha
  obtain ⟨H, hH⟩ : ∃ H : Hp, H = seenAt K cs a o (ns.map V.int) := ⟨_, rfl⟩
  have tabs : ∀ q ∈ cs, H q.2 = some (.tbl #[]) := fun q hq => by rw [hH]; exact seen_tab hq
  have isH : ∀ {b : Addr} {u : HO}, H b = some u → (b ∈ cs.map (·.2) ∧ u = .tbl #[]) ∨ (b ∉ cs.map (·.2) ∧ b = a ∧ K.lookup a = none ∧ u = .frz o (.lst (ns.map V.int))) := fun {b u} e => by rw [hH] at e; exact seen_is e
  have aT : a ∉ cs.map (·.2) := fun m => by
    have := tab_at hT m
    rw [ha, ho] at this
    cases this
  have sq : SqL K H a (ns.map V.int) := by
    cases hk : K.lookup a with
    | none => exact .inl (.inr ⟨o, by rw [hH]; exact (if_neg aT).trans (if_pos ⟨rfl, hk⟩)⟩)
    | some ob =>
      have e := KX a ob hk
      rw [ha] at e
      cases e
      subst ho
      exact .inr ⟨_, vs.toArray, _, hk, rfl, rfl, rfl, by rw [List.size_toArray, ln]; exact hl, by simpa using rv⟩
  have hok : HOk P w H s₁.heap := fun b u e => by
    rcases isH e with ⟨m, rfl⟩ | ⟨_, rfl, _, rfl⟩
    · exact tab_at hT m
    · exact ⟨ha, by rw [List.length_map]; exact hl, vs, _, rv, ha.trans (congrArg some ho)⟩
  have hKb : K.In (hidT s₁.heap H) := by rw [hH]; exact seen_part hT ha nT KX
  have nsK : ∀ {b : Addr} {m : Str → Option Value}, s₁.heap.Ns b m → (hidT s₁.heap H).Ns b m := fun n => by rw [hH]; exact seen_ns hT ha ho n
  have hM : L2.Mod K mg (hidT s₁.heap H) := ⟨hKb, nsK hns, ⟨mb, nsK hb, hbb⟩, hlim.elim fun mc z => ⟨mc, nsK z.1, z.2⟩⟩
  have e0 : Env0 P w K mg (hidT s₁.heap H) callerA [] s₁ H := ⟨rfl, hM, fun b o e => of_hidT e, Nat.le_of_eq (hidT_size _ _), trivial, (fun b z => by cases z), hok, .of_eq hg⟩
  have G := F _ hKb (nsK hns) fun q hq => by rw [hH]; exact seen_code hT ha ho hq (C q hq) hns hbm
  refine codeAny_mono (G.go callerA [] s₁ H [.ref a] [.ref a] _ _ hr e0 (hbind s₁ (.ref a)) (.cons rfl .nil) (hsp H tabs sq)) ?_
  rintro (e | fl) s' z
  · exact (hCX H e s' z).elim
  match fl, z with
  | .next, z => exact z.elim
  | .brk, z => exact z.elim
  | .cont, z => exact z.elim
  | .ret u, ⟨v, H', os, bare, un, hok', r', q⟩ =>
    cases (show v = .bl true from q)
    cases (show u = Value.bool true from r')
    have old : ∀ b ob, b ∉ cs.map (·.2) → s₁.heap.get? b = some ob → s'.heap.get? b = some ob := fun b ob nb e => by
      cases q : H b with
      | none => exact un.keep b ob e q (by intro z; cases z) (by simp)
      | some u =>
        rcases isH q with ⟨m, _⟩ | ⟨_, _, _, rfl⟩
        · exact absurd m nb
        · have e2 := (hok' b _ (un.frzs b _ _ q)).1
          have e1 := (hok b _ q).1
          rw [e1] at e
          cases e
          exact e2
    have grown : ∀ q ∈ cs, ∃ more : Array Value, s'.heap.get? q.2 = some { cls := .none, data := .fields more } := fun q hq => by
      obtain ⟨more, z⟩ := un.tbls q.2 #[] (tabs q hq)
      exact ⟨_, hok' q.2 _ z⟩
    refine ⟨rfl, ⟨fun b ob e => ?_, fun b ob e => ?_⟩, os, bare⟩
    · by_cases m : b ∈ cs.map (·.2)
      · obtain ⟨q, hq, rfl⟩ := List.mem_map.mp m
        obtain ⟨more, hm⟩ := grown q hq
        rw [hT q hq] at e
        cases e
        exact .inr (.inl ⟨((C q hq).tab (hT q hq)).isCodeTable, rfl, #[], more, rfl, by rw [Array.empty_append]; exact hm⟩)
      · exact .inl (old b ob m e)
    · by_cases m : b ∈ cs.map (·.2)
      · obtain ⟨q, hq, rfl⟩ := List.mem_map.mp m
        obtain ⟨more, hm⟩ := grown q hq
        exact ⟨_, hm⟩
      · exact ⟨ob, old b ob m e⟩
end
/-- what is known of the law's promise at the head's heap h -/
def LawG (l : PySem.W.OpenLaw) (w : World) (K : PySem.W.Frag) (CX : CXT) (k n : Nat) (x : Str) (fa : Addr) (mg : Str → Option Value) (h : Heap) : Prop :=
  ∃ (fd : FuncData) (cs : List (Addr × Addr)) (sp : Sp), (∀ q ∈ cs, h.get? q.2 = some { cls := .none, data := .fields #[] }) ∧ (∀ q ∈ cs, K.lookup q.2 = none) ∧ (∀ q ∈ cs, PySem.W.CodeHd h q.1 q.2) ∧ (∀ (s : Shared) (u : Value), BindsTo s fd ⟨[u], []⟩ [(x, u)]) ∧
    (∀ (H : Hp) (a : Addr) (ns : List Int), ns.length ≤ n → (∀ z ∈ ns, Builtin.Int.intBits z ≤ 1048576) → (∀ q ∈ cs, H q.2 = some (.tbl #[])) → SqL K H a (ns.map V.int) → sp [.ref a] H (fun v _ => v = .bl true) fun _ _ _ => False) ∧
    ∀ base : Heap, K.In base → base.Ns mainGlobals mg → (∀ q ∈ cs, TabB base mg q.1 q.2) → FnG l.prog w K mg base CX k fa fd [x] sp
theorem walk_go {l : PySem.W.OpenLaw} {n k : Nat} {q : Program} {loose : List Str} {XP : (Str → Option Value) → Heap → Prop} {YP : World → Heap → Prop} {d : DefRec} {CX : World → CXT} {x : Str}
    (hn : l.most = some n) (hn2 : n ≤ sizeLine) (hdf : d.params.defaults = []) (hr : Room k callerA)
    (F : ∀ (w : World) (mg : Str → Option Value) (fa : Addr) (h : Heap), YP w h → h.Ns mainGlobals mg → mg d.name = some (.ref fa) → ∃ K : PySem.W.Frag, K.In h ∧ LawG l w K (CX w) k n x fa mg h)
    (hCX : ∀ (w : World) (H : Hp) (s : Shared) (e : Value) (s' : Shared), CX w [] H s (fun _ _ _ => False) e s' → False) :
    PySem.W.WalkO q loose XP YP l.row.toRowW d [] (fun f vs => PySem.call f vs) :=
  Att.attach_callB hn hdf fun w s₀ s₁ mg mb fa o pm cd doc a vs ns G Y ho hd hcd hmg hobj hints hlen hbits hg => by
    obtain ⟨K, KX, fd, cs, sp, t1, t2, t3, t4, t5, t6⟩ := F w mg fa _ Y G.T.g hmg
    exact law_go KX G.T.g G.T.b G.T.builtins G.T.nolimit hg t1 t2 t3 G.T.bmain hobj hints (Nat.le_trans hlen hn2) ⟨hr, rfl⟩ t6 t4 (fun H h1 h2 => t5 H a ns hlen hbits h1 h2) fun H e s' => hCX w H s₁ e s'
end Pev
set_option maxRecDepth 100000
set_option maxHeartbeats 1000000
/-! EnT: enumerate(a tuple), as the library has it of a list. -/
namespace EnT
open PySem
open PySem.Sem (wp)
open AutoSeq1 (wpAny_loadPart')
theorem meets_enum_tup (l : Addr) (its : Array Value) (n : Nat) (dc : Option Addr) (sl : Array (Option Value)) :
    Meets (Builtin.«enumerate.__new__» ⟨[.type "enumerate", .ref l], []⟩) (fun _ R S0 => S0.heap.get? l = some { cls := .type "tuple", dict := dc, data := .seq its n, slots := sl } ∧
      R (.ok (.ret (.ref (S0.heap.push { cls := .type "tuple_iterator", data := .fields #[.ref l, .int 0 0] }).objs.size)))
        { S0 with heap := (S0.heap.push { cls := .type "tuple_iterator", data := .fields #[.ref l, .int 0 0] }).push { cls := .type "enumerate", data := .fields #[.none, .bool false, .ref S0.heap.objs.size, rawInt 0, .none, .none] } }) :=
  .of_wp fun prog w AA R S0 h => by
    obtain ⟨M, g, d, z, oo⟩ := S0; obtain ⟨kl, h⟩ := h
    have hsub := sub_enumerate
    have kL : Heap.IsTuple (Shared.heap ⟨M, g, d, z, oo⟩) l its := ⟨_, kl, rfl, n, rfl⟩
    wp_walk using wpAny_loadPart' kl
    refine wpAny_stack_any fun st => wpAny_pure ?_
    split
    · rename_i cc _ _ _ _ _
      cases (cc == Value.type "enumerate")
      · wp_walk using wpAny_loadPart' kl, wpAny_pyIter_tuple kL
        exact ⟨_, rfl, h⟩
      · wp_walk using wpAny_loadPart' kl, wpAny_pyIter_tuple kL
        exact ⟨_, rfl, h⟩
    · wp_walk using wpAny_loadPart' kl, wpAny_pyIter_tuple kL
      exact ⟨_, rfl, h⟩


section
variable {prog : Program} {w : World} {AA : Around} {E : Value → Shared → Prop} {S0 : Shared}
theorem call_enum_tup {l : Addr} {its : Array Value} {QQ : Value → Shared → Prop} (kL : S0.heap.IsTuple l its)
    (h : ∀ h', IsEnum h' (S0.heap.objs.size + 1) S0.heap.objs.size 0 .none → h'.IsTupleIter S0.heap.objs.size l 0 → h'.objs.size = S0.heap.objs.size + 2 →
      (∀ bb ob, S0.heap.get? bb = some ob → h'.get? bb = some ob) → QQ (.ref (S0.heap.objs.size + 1)) { S0 with heap := h' }) :
    wpAny (model prog w) AA (call (.type "enumerate") [.ref l]) QQ E S0 := by
  obtain ⟨⟨cc, dc, dt, sl⟩, kl, kc, n, kd⟩ := kL
  replace kc : cc = .type "tuple" := kc
  replace kd : dt = .seq its n := kd
  subst kc kd
  refine callType_new F.called_enumerate (by decide) (F.typeCall_enumerate_1 _) (F.newCall_enumerate_1 _) (fun obj => F.args_object_init_2 obj _) F.entry_enumerate_new
    (meets_enum_tup l its n dc sl) ⟨kl, ?_⟩
  have kzz : (S0.heap.push { cls := .type "tuple_iterator", data := .fields #[.ref l, .int 0 0] }).objs.size = S0.heap.objs.size + 1 := Heap.size_push ..
  show _ ∧ _
  rw [kzz]
  have ke : IsEnum ((S0.heap.push { cls := .type "tuple_iterator", data := .fields #[.ref l, .int 0 0] }).push
      { cls := .type "enumerate", data := .fields #[.none, .bool false, .ref S0.heap.objs.size, rawInt 0, .none, .none] }) (S0.heap.objs.size + 1) S0.heap.objs.size 0 .none := by
    have := Heap.get?_push_size (S0.heap.push { cls := .type "tuple_iterator", data := .fields #[.ref l, .int 0 0] })
      (o := { cls := .type "enumerate", data := .fields #[.none, .bool false, .ref S0.heap.objs.size, rawInt 0, .none, .none] }) rfl
    rw [kzz] at this; exact this
  refine ⟨⟨_, ke, rfl⟩, h _ ke ⟨_, Heap.get?_push_of_some _ (Heap.get?_push_size _ rfl), rfl, rfl⟩ (by rw [Heap.size_push, kzz]) fun bb ob x => Heap.get?_push_of_some _ (Heap.get?_push_of_some _ x)⟩

theorem enum_tup_item {en ti l : Addr} {i : Nat} {its : Array Value} {x old : Value} {QQ : Value → Shared → Prop}
    (ke : IsEnum S0.heap en ti i old) (ki : S0.heap.IsTupleIter ti l i) (kl : S0.heap.IsTuple l its) (kx : its[i]? = some x) (kn : en ≠ ti)
    (kQ : ∀ h', IsEnumOut h' en ti ((i : Int) + 1) x S0.heap.objs.size → h'.IsTupleIter ti l (i + 1) →
      h'.get? S0.heap.objs.size = some { cls := .type "tuple", data := .seq #[.int i S0.toks, x] } → h'.objs.size = S0.heap.objs.size + 1 →
      (∀ bb ob, bb ≠ en → bb ≠ ti → S0.heap.get? bb = some ob → h'.get? bb = some ob) → QQ (.ref S0.heap.objs.size) { S0 with heap := h', toks := S0.toks + 1 }) :
    wpAny (model prog w) AA (Builtin.«enumerate.__next__» ⟨[.ref en], []⟩) (fun fin s' => ∃ v, fin = .done (.ret v) ∧ QQ v s') E S0 := by
  obtain ⟨M, g, d, z, oo⟩ := S0
  show wpAny _ _ (field (.ref en) 2 >>= _) _ _ _
  refine wpAny_bind (wpAny_field ke rfl (x := .ref ti) rfl ?_)
  refine wpAny_bind (RZ.nextOf_tuple_item ki kl kx fun M1 i1 w1 => ?_)
  replace w1 : Heap.SameBut ti M M1 := w1
  have p1 : IsEnum M1 en ti i old := (w1.2 en kn).trans ke
  show wpAny _ _ (field (.ref en) 3 >>= _) _ _ ⟨M1, g, d, z, oo⟩
  refine wpAny_bind (wpAny_field p1 rfl (x := rawInt i) rfl ?_)
  show wpAny _ _ (field (.ref en) 4 >>= _) _ _ ⟨M1, g, d, z, oo⟩
  refine wpAny_bind (wpAny_field p1 rfl (x := .none) rfl ?_)
  show wpAny _ _ (mkInt i >>= _) _ _ ⟨M1, g, d, z, oo⟩
  refine wpAny_bind (wpAny_mkInt ?_)
  show wpAny _ _ (setField (.ref en) 3 (rawInt ((i : Int) + 1)) >>= _) _ _ ⟨M1, g, d, z + 1, oo⟩
  refine wpAny_bind (wpAny_setField_rec p1 (by simp) fun M2 p2 r2 => ?_)
  replace r2 : Heap.SameBut en M1 M2 := r2
  replace p2 : IsEnum M2 en ti ((i : Int) + 1) old := p2
  show wpAny _ _ (setField (.ref en) 4 .none >>= _) _ _ ⟨M2, g, d, z + 1, oo⟩
  refine wpAny_bind (wpAny_setField_rec p2 (by simp) fun M3 p3 r3 => ?_)
  replace r3 : Heap.SameBut en M2 M3 := r3
  replace p3 : IsEnum M3 en ti ((i : Int) + 1) old := p3
  show wpAny _ _ (newTuple [.int i z, x] >>= _) _ _ ⟨M3, g, d, z + 1, oo⟩
  refine wpAny_bind (wpAny_newTuple ?_)
  have p4 : IsEnum (M3.push { cls := .type "tuple", data := .seq #[.int i z, x] }) en ti ((i : Int) + 1) old := Heap.get?_push_of_some _ p3
  generalize q4 : M3.push { cls := .type "tuple", data := .seq #[.int i z, x] } = M4 at p4
  have kz : M3.objs.size = M.objs.size := by rw [r3.1, r2.1, w1.1]
  have kel : en < M.objs.size := Heap.lt_size ke
  have t4 : M4.get? M.objs.size = some { cls := .type "tuple", data := .seq #[.int i z, x] } := by rw [← q4, ← kz]; exact Heap.get?_push_size _ rfl
  have z4 : M4.objs.size = M.objs.size + 1 := by rw [← q4, Heap.size_push, kz]
  have k4 : ∀ bb ob, bb ≠ en → bb ≠ ti → M.get? bb = some ob → M4.get? bb = some ob := fun bb ob hbe hbi kb => by
    rw [← q4]; exact Heap.get?_push_of_some _ (r3.extBut bb ob hbe (r2.extBut bb ob hbe (w1.extBut bb ob hbi kb)))
  have i4 : M4.IsTupleIter ti l (i + 1) := by
    rw [← q4]; obtain ⟨ob, ho, r⟩ := (i1.extBut r2.extBut (Ne.symm kn)).extBut r3.extBut (Ne.symm kn); exact ⟨ob, Heap.get?_push_of_some _ ho, r⟩
  show wpAny _ _ (Builtin.SmallTypes.ownedTupleIsFree (.ref en) >>= _) _ _ ⟨M4, g, d, z + 1, oo⟩
  rw [kz]
  clear q4 p3 r3 p2 r2 p1 w1 i1 kz M3 M2 M1
  refine wpAny_bind ?_
  · unfold Builtin.SmallTypes.ownedTupleIsFree
    refine wpAny_bind (wpAny_field p4 rfl (x := .none) rfl (wpAny_pure ?_))
    simp only [if_true]
    refine wpAny_bind (wpAny_rule ?_)
    refine wpAny_bind (wpAny_field p4 rfl (x := old) rfl ?_)
    refine wpAny_bind (wpAny_setField_rec p4 (by simp) fun M5 p5 r5 => ?_)
    replace r5 : Heap.SameBut en M4 M5 := r5
    replace p5 : IsEnum M5 en ti ((i : Int) + 1) x := p5
    show wpAny _ _ (Builtin.SmallTypes.ownedTupleHandOut (.ref en) (.ref M.objs.size) >>= _) _ _ ⟨M5, g, d, z + 1, oo⟩
    refine wpAny_bind ?_
    · unfold Builtin.SmallTypes.ownedTupleHandOut
      refine wpAny_bind (wpAny_setField_rec p5 (by simp) fun M6 p6 r6 => ?_)
      replace r6 : Heap.SameBut en M5 M6 := r6
      replace p6 : IsEnumOut M6 en ti ((i : Int) + 1) x M.objs.size := p6
      refine wpAny_setField_rec p6 (by simp) fun M7 p7 r7 => ?_
      replace r7 : Heap.SameBut en M6 M7 := r7
      replace p7 : IsEnumOut M7 en ti ((i : Int) + 1) x M.objs.size := p7
      refine wpAny_bind (wpAny_letGo (wpAny_pure ⟨_, rfl, kQ M7 p7 ?_ ?_ ?_ ?_⟩))
      · exact ((i4.extBut r5.extBut (Ne.symm kn)).extBut r6.extBut (Ne.symm kn)).extBut r7.extBut (Ne.symm kn)
      · exact r7.extBut _ _ (Nat.ne_of_gt kel) (r6.extBut _ _ (Nat.ne_of_gt kel) (r5.extBut _ _ (Nat.ne_of_gt kel) t4))
      · rw [r7.1, r6.1, r5.1, z4]
      · exact fun bb ob hbe hbi kb => r7.extBut bb ob hbe (r6.extBut bb ob hbe (r5.extBut bb ob hbe (k4 bb ob hbe hbi kb)))

theorem wpAny_pyNext_enumT_item {en ti l : Addr} {i : Nat} {its : Array Value} {x old : Value} {QQ : Option Value → Shared → Prop}
    (ke : IsEnum S0.heap en ti i old) (ki : S0.heap.IsTupleIter ti l i) (kl : S0.heap.IsTuple l its) (kx : its[i]? = some x) (kn : en ≠ ti)
    (kQ : ∀ h', IsEnumOut h' en ti ((i : Int) + 1) x S0.heap.objs.size → h'.IsTupleIter ti l (i + 1) →
      h'.get? S0.heap.objs.size = some { cls := .type "tuple", data := .seq #[.int i S0.toks, x] } → h'.objs.size = S0.heap.objs.size + 1 →
      (∀ bb ob, bb ≠ en → bb ≠ ti → S0.heap.get? bb = some ob → h'.get? bb = some ob) → QQ (some (.ref S0.heap.objs.size)) { S0 with heap := h', toks := S0.toks + 1 }) :
    wpAny (model prog w) AA (pyNext (.ref en)) QQ E S0 := by
  have kT : S0.TypeIs (.ref en) "enumerate" := ⟨_, ke, rfl⟩
  unfold pyNext
  exact wpAny_bind (wpAny_attempt (wpAny_callSpecial?_slot (name := Str.ofString "__next__") kT F.slot_enumerate_next
    (wpAny_call_entry F.slot_enumerate_next kT F.entry_enumerate_next
      (enum_tup_item ke ki kl kx kn fun h' a bb cc d k => wpAny_pure (kQ h' a bb cc d k)) (F.args_enumerate_next_1 _))))

theorem wpAny_pyNext_enumT_end {en ti l : Addr} {i : Nat} {its : Array Value} {old : Value} {QQ : Option Value → Shared → Prop} (kh : AA.handled = none)
    (ke : IsEnum S0.heap en ti i old) (ki : S0.heap.IsTupleIter ti l i) (kl : S0.heap.IsTuple l its) (kx : its[i]? = none)
    (kQ : ∀ h', Heap.ExtBut ti S0.heap h' → QQ none { S0 with heap := h' }) : wpAny (model prog w) AA (pyNext (.ref en)) QQ E S0 := by
  have kT : S0.TypeIs (.ref en) "enumerate" := ⟨_, ke, rfl⟩
  unfold pyNext
  refine wpAny_bind (wpAny_attempt (wpAny_callSpecial?_slot (name := Str.ofString "__next__") kT F.slot_enumerate_next
    (wpAny_call_entry F.slot_enumerate_next kT F.entry_enumerate_next ?_ (F.args_enumerate_next_1 _))))
  show wpAny _ _ (field (.ref en) 2 >>= _) _ _ _
  refine wpAny_bind (wpAny_field ke rfl (x := .ref ti) rfl ?_)
  refine wpAny_bind (RZ.nextOf_tuple_end kh ki kl kx fun h' x he' hx' => ?_)
  obtain ⟨ob, ho, kc⟩ := hx'
  refine wpAny_bind (wpAny_isInstance (T := "StopIteration") (b := true) ⟨ob, ho, kc⟩ isSubtype_stop ?_)
  exact wpAny_pure (kQ _ he')end
end EnT
namespace EnT
open PySem PySem.Spec PyProof.Rows L2
def IteT (K : PySem.W.Frag) (a : Addr) : It :=
  ⟨fun i H => ∃ (vs0 : List V) (x : V), SqT K H a vs0 ∧ vs0[i]? = some x, fun i H v H' => ∃ T x, v = .ref T ∧ H T = none ∧ H' = upd H T (.tup [.int (i : Nat), x]) ∧ ∀ vs0, SqT K H a vs0 → vs0[i]? = some x, fun i H => ∃ vs0 : List V, SqT K H a vs0 ∧ vs0.length ≤ i⟩
theorem turn_enumT {P : Program} {w : World} {K : PySem.W.Frag} {elts : List Expr} {kk : Nat} {tpos : Pos} (a en ti : Addr) :
    Turn P w K (.Tuple elts kk tpos) (IteT K a) [en, ti] en (fun i h => (∃ old, IsEnum h en ti ((i : Nat) : Int) old) ∧ h.IsTupleIter ti a i ∧ en ≠ ti) where
  mem := by simp
  obj := fun i h st bb kb => by
    obtain ⟨⟨old, ke⟩, ⟨ob, ho, kc, kd⟩, _⟩ := st
    have e' : bb = en ∨ bb = ti := by simpa using kb
    rcases e' with z | z
    · rw [z]; exact ⟨_, ke, fun v q => nomatch q⟩
    · rw [z]; exact ⟨ob, ho, fun v q => by rw [kd] at q; cases q⟩
  keep := fun i h h' st k => let ⟨⟨old, ke⟩, hi, kn⟩ := st; ⟨⟨old, k en (by simp) _ ke⟩, hi.at fun ob q => k ti (by simp) ob q, kn⟩
  item := by
    intro X hP hw hK kc i pp S0 τ H E J hf st kg
    subst hP hw hK
    obtain ⟨⟨old, ke⟩, ki, kn⟩ := st
    obtain ⟨vs0, x, kq, kx⟩ := kg
    obtain ⟨its, rv, p, kzz⟩ := J.tuple kq
    obtain ⟨u, hu, ru⟩ := rv.get kx
    have kel : en < S0.heap.objs.size := Heap.lt_size ke
    have hil : ti < S0.heap.objs.size := by obtain ⟨_, q, _⟩ := ki; exact Heap.lt_size q
    refine wpAny_pyNext_enumT_item ke ki (show _ from p) (x := u) (by simpa using hu) kn fun h' ho hit' kT kz hk => ?_
    refine ⟨_, rfl, wpAny_letOwnedTupleGo_enum (s := { S0 with heap := h', toks := S0.toks + 1 }) ho fun h'' he' sb => ?_⟩
    have hT2 : h''.get? S0.heap.objs.size = some { cls := .type "tuple", data := .seq #[.int i S0.toks, u] } := (sb.2 _ (Nat.ne_of_gt kel)).trans kT
    have new : ObjOk X.prog X.w (upd H S0.heap.objs.size (.tup [.int (i : Nat), x])) h'' S0.heap.objs.size (.tup [.int (i : Nat), x]) :=
      ⟨by show 2 ≤ sizeLine; decide, [.int i S0.toks, u], .cons ⟨_, rfl⟩ (.cons ru .nil), ⟨_, hT2, rfl, _, rfl⟩⟩
    have J1 : Inv X pp τ (upd H S0.heap.objs.size (.tup [.int (i : Nat), x])) { S0 with heap := h'', toks := S0.toks + 1 } :=
      J.turnedNew (ch := [en, ti]) (fun bb ob kb q => (sb.2 bb (fun z => kb (by simp [z]))).trans (hk bb ob (fun z => kb (by simp [z])) (fun z => kb (by simp [z])) q)) hf (Nat.le_refl _) new
    refine ⟨.ref S0.heap.objs.size, _, J1, rfl, ⟨_, x, rfl, J.hok.fresh (Nat.le_refl _), rfl, fun ys hy => by rw [J.tuple_inj hy kq]; exact kx⟩, ⟨⟨u, ?_⟩, hit'.at fun ob q => (sb.2 ti (Ne.symm kn)).trans q, kn⟩, fun bb kb => ?_⟩
    · have e1 : ((i + 1 : Nat) : Int) = (i : Int) + 1 := by omega
      rw [e1]; exact he'
    · have kb' : bb < S0.heap.objs.size := by
        have e' : bb = en ∨ bb = ti := by simpa using kb
        rcases e' with z | z
        · rw [z]; exact kel
        · rw [z]; exact hil
      rw [upd_ne (Nat.ne_of_lt kb')]
      exact (hf bb kb).1
  done := by
    intro X hP hw hK kc i pp S0 τ H E J hf st kg
    subst hP hw hK
    obtain ⟨⟨old, ke⟩, ki, kn⟩ := st
    obtain ⟨vs0, kq, kx⟩ := kg
    obtain ⟨its, rv, p, kzz⟩ := J.tuple kq
    obtain ⟨g0, g1, g2, g3, g4, g5⟩ := hf ti (by simp)
    have kl := rv.length
    exact wpAny_pyNext_enumT_end (J.ok.hd kc) ke ki (show _ from p) (by simp; omega) fun h' eb => ⟨rfl, J.turned (t' := S0.toks) (fun bb ob kb q => eb bb ob kb q) g0 g1 g3 g4 g5⟩
  self := fun AA i S0 QQ E st h => let ⟨⟨_, ke⟩, _⟩ := st; wpAny_pyIter_enum ke h
/-- enumerate of a list or a tuple -/
def iEnA (K : PySem.W.Frag) (ta : TA) : TI := fun τ H R => ta τ H fun vs G1 => ∃ a, vs = [.ref a] ∧ ((∃ ys, SqL K G1 a ys ∧ R (Ite K a) G1) ∨ ∃ ys, SqT K G1 a ys ∧ R (IteT K a) G1)
theorem pi_enA {X : Cx} {en : Expr} {ta : TA} {p pos tpos : Pos} {elts : List Expr} {kk : Nat} (kg : Gl X "enumerate") (km : X.mg "enumerate" = none) (ha : PA X [en] ta) (ks : starEach [en] X.env = [(false, eval en X.env)] := by rfl) :
    PI X (.Tuple elts kk tpos) (.Call (.Name "enumerate" p) [en] [] pos) (iEnA X.K ta) := by
  refine ⟨fun pp S0 τ H R J h => ?_⟩
  refine Call_ (ld_blt J kg km boot_enumerate (PyProof.Rows.callWith_type1 (thn (ha.run pos pp S0 τ H _ J h) fun us S1 ⟨vs, G1, J1, w1, u1⟩ => ?_) ks rfl))
  obtain ⟨a, ex, u1⟩ := u1
  subst ex
  cases w1 with
  | cons r rr =>
    cases rr
    cases r
    have fresh : ∀ bb, bb = S1.heap.objs.size + 1 ∨ bb = S1.heap.objs.size → S1.heap.objs.size ≤ bb := fun bb z => by omega
    rcases u1 with ⟨ys, kq, q⟩ | ⟨ys, kq, q⟩
    · obtain ⟨its, rv, p', kzz⟩ := J1.list kq
      refine call_enumerate_list p'.isList fun M ke ki kz hk => wpAny_pyIter_enum ke ?_
      have J2 : Inv X pp τ G1 { S1 with heap := M } := J1.kept (t' := S1.toks) hk
      refine ⟨S1.heap.objs.size + 1, [S1.heap.objs.size + 1, S1.heap.objs.size], _, _, G1, rfl, J2, turn_enum a (S1.heap.objs.size + 1) S1.heap.objs.size, ⟨⟨.none, ke⟩, ki, Nat.succ_ne_self _⟩, fun bb kb => ?_, q⟩
      have kle := fresh bb (by simpa using kb)
      exact J1.fpOk kle (J1.hok.fresh kle)
    · obtain ⟨its, rv, p', kzz⟩ := J1.tuple kq
      refine call_enum_tup (show _ from p') fun M ke ki kz hk => wpAny_pyIter_enum ke ?_
      have J2 : Inv X pp τ G1 { S1 with heap := M } := J1.kept (t' := S1.toks) hk
      refine ⟨S1.heap.objs.size + 1, [S1.heap.objs.size + 1, S1.heap.objs.size], _, _, G1, rfl, J2, turn_enumT a (S1.heap.objs.size + 1) S1.heap.objs.size, ⟨⟨.none, ke⟩, ki, Nat.succ_ne_self _⟩, fun bb kb => ?_, q⟩
      have kle := fresh bb (by simpa using kb)
      exact J1.fpOk kle (J1.hok.fresh kle)
section
variable {K : PySem.W.Frag} {a : Addr} {ys : List V}
theorem walk_enT : Walk (IteT K a) ys.length (fun H => SqT K H a ys) (YPair (fun i => some (.int (i : Nat))) (fun i => ys[i]?)) := by
  refine ⟨fun i _ hi q => ⟨ys, ys[i], q, by simp [hi]⟩, fun _ q => ⟨ys, q, Nat.le_refl _⟩, ?_⟩
  rintro i H v H' _ q ⟨T, y, e1, e2, e3, e4⟩
  exact ⟨T, .int (i : Nat), y, e1, e2, e3, rfl, e4 ys q⟩
end
end EnT
set_option maxRecDepth 100000
set_option autoImplicit false
/-! Pev, soundness 11: what is walked. -/
namespace Pev
open PySem PySem.Spec PyProof.Rows L2
open LamX (Tabs TabS CodeO)

/-- a walk that gives the data ds, one a turn -/
structure SrcAt (K : PySem.W.Frag) (B : Addr → Prop) (H : Hp) (J : It) (ds : List PD) : Prop where
  ex : ∃ G Y, Walk J ds.length G Y ∧ (∀ B' H', Fr B' H H' → (∀ a, B' a → B a ∨ Nn H a) → G H') ∧
    ∀ B' i H1 x H2, Fr B' H H1 → (∀ a, B' a → B a ∨ Nn H a) → i < ds.length → Y i H1 x H2 → (H2 = H1 ∨ ∃ T xs, H1 T = none ∧ H2 = upd H1 T (.tup xs)) ∧
      ∃ d, ds[i]? = some d ∧ ∀ B2 : Addr → Prop, (∀ a, B2 a → B a ∨ Nn H a) → (∀ a, B2 a → H1 a ≠ none) → Rp K H2 B2 x d
section
variable {K : PySem.W.Frag} {B : Addr → Prop} {H : Hp} {a b : Addr} {xs ys : List V} {ds es : List PD}
theorem keep_at {B' : Addr → Prop} {H' : Hp} {o : HO} (n : ¬ B a) (e : H a = some o) (ht : ∀ ps, o ≠ .tbl ps) (fr : Fr B' H H') (hB : ∀ a, B' a → B a ∨ Nn H a) : H' a = some o :=
  fr.keep a _ e (fun z => (hB a z).elim n fun q => q.no e ht) ht
theorem src_list (n : ¬ B a) (e : H a = some (.lst xs)) (r : RpA K H B xs ds) : SrcAt K B H (Itl K a) ds := by
  refine ⟨fun H' => H' a = some (.lst xs), YAt xs, ?_, fun B' H' fr hB => keep_at n e (fun _ z => by cases z) fr hB, fun B' i H1 x H2 fr hB hi y => ?_⟩
  · rw [← r.length]
    exact walk_list.mono (fun H' h => SqL.of h) fun _ _ _ _ _ _ y => y
  · obtain ⟨rfl, hx⟩ := y
    obtain ⟨d, h1, h2⟩ := r.getV hx
    exact ⟨.inl rfl, d, h1, fun B2 hB2 hn => h2.stay (fr.mono hB) hB2⟩
theorem src_tup (n : ¬ B a) (e : H a = some (.tup xs)) (r : RpA K H B xs ds) : SrcAt K B H (Itt K a) ds := by
  refine ⟨fun H' => H' a = some (.tup xs), YAt xs, ?_, fun B' H' fr hB => keep_at n e (fun _ z => by cases z) fr hB, fun B' i H1 x H2 fr hB hi y => ?_⟩
  · rw [← r.length]
    exact walk_tup.mono (fun H' h => SqT.of h) fun _ _ _ _ _ _ y => y
  · obtain ⟨rfl, hx⟩ := y
    obtain ⟨d, h1, h2⟩ := r.getV hx
    exact ⟨.inl rfl, d, h1, fun B2 hB2 hn => h2.stay (fr.mono hB) hB2⟩
theorem rngD_length : ∀ (n : Nat) (lo : Int), (rngD lo n).length = n
  | 0, _ => rfl
  | n + 1, lo => by rw [rngD, List.length_cons, rngD_length n]
theorem rngD_get : ∀ (n : Nat) (lo : Int) (i : Nat), i < n → (rngD lo n)[i]? = some (.int (lo + (i : Nat)))
  | n + 1, lo, 0, _ => by simp [rngD]
  | n + 1, lo, i + 1, h => by
    rw [rngD, List.getElem?_cons_succ, rngD_get n (lo + 1) i (by omega)]
    congr 2
    omega
theorem src_rng (lo : Int) (n : Nat) : SrcAt K B H (Itr lo n) (rngD lo n) := by
  refine ⟨fun _ => True, YFn fun i => .int (lo + i), ?_, fun _ _ _ _ => trivial, fun B' i H1 x H2 fr hB hi y => ?_⟩
  · rw [rngD_length]; exact walk_range
  · obtain ⟨rfl, rfl⟩ := y
    rw [rngD_length] at hi
    exact ⟨.inl rfl, _, rngD_get n lo i hi, fun B2 _ _ => .int _⟩
theorem zipD_length : ∀ (ds es : List PD), (zipD ds es).length = min ds.length es.length
  | [], es => by simp [zipD]
  | _ :: _, [] => by simp [zipD]
  | _ :: ds, _ :: es => by rw [zipD, List.length_cons, zipD_length ds es, List.length_cons, List.length_cons]; omega
theorem zipD_get : ∀ (ds es : List PD) (i : Nat) (d e : PD), ds[i]? = some d → es[i]? = some e → (zipD ds es)[i]? = some (.tuple [d, e])
  | _ :: _, _ :: _, 0, _, _, h1, h2 => by simp at h1 h2; subst h1 h2; rfl
  | _ :: ds, _ :: es, i + 1, d, e, h1, h2 => by rw [zipD, List.getElem?_cons_succ]; exact zipD_get ds es i d e (by simpa using h1) (by simpa using h2)
  | [], _, _, _, _, h1, _ => by simp at h1
  | _ :: _, [], _, _, _, _, h2 => by simp at h2
/-- a new pair of one of the one and one of the other -/
theorem src_pair {J : It} {G : Hp → Prop} {fx fy : Nat → Option V} {ps : List PD} {n : Nat} (hn : n = ps.length) (w : Walk J n G (YPair fx fy)) (hg : ∀ B' H', Fr B' H H' → (∀ a, B' a → B a ∨ Nn H a) → G H')
    (hd : ∀ i x y, i < n → fx i = some x → fy i = some y → ∃ d e, ps[i]? = some (.tuple [d, e]) ∧ Rp K H B x d ∧ Rp K H B y e) : SrcAt K B H J ps := by
  subst hn
  refine ⟨G, YPair fx fy, w, hg, fun B' i H1 x H2 fr hB hi y => ?_⟩
  obtain ⟨T, x, y, rfl, hT, rfl, h1, h2⟩ := y
  obtain ⟨d, e, q, r1, r2⟩ := hd i x y hi h1 h2
  refine ⟨.inr ⟨T, _, hT, rfl⟩, _, q, fun B2 hB2 hn => ?_⟩
  have st : ∀ {v : V} {d : PD}, Rp K H B v d → Rp K (upd H1 T (.tup [x, y])) B2 v d := fun {v d} r => (r.stay (B' := fun a => B a ∨ B2 a) (fr.mono hB) fun a z => z.elim .inl (hB2 a)).stay (Fr.new hT) fun a z => .inl (.inr z)
  exact .tup (fun z => hn T z hT) upd_same (.cons (st r1) (.cons (st r2) .nil))
theorem src_zip (n : ¬ B a) (e : H a = some (.lst xs)) (r : RpA K H B xs ds) (n2 : ¬ B b) (e2 : H b = some (.lst ys)) (r2 : RpA K H B ys es) : SrcAt K B H (Itz K a b) (zipD ds es) := by
  refine src_pair (G := fun H' => H' a = some (.lst xs) ∧ H' b = some (.lst ys)) (n := min xs.length ys.length) (by rw [zipD_length, r.length, r2.length]) ((walk_zip rfl).mono (fun H' h => ⟨SqL.of h.1, SqL.of h.2⟩) fun _ _ _ _ _ _ y => y)
    (fun B' H' fr hB => ⟨keep_at n e (fun _ z => by cases z) fr hB, keep_at n2 e2 (fun _ z => by cases z) fr hB⟩) fun i x y hi h1 h2 => ?_
  obtain ⟨d, q1, q2⟩ := r.getV h1
  obtain ⟨d', q3, q4⟩ := r2.getV h2
  exact ⟨d, d', zipD_get _ _ _ _ _ q1 q3, q2, q4⟩
theorem walk_zipT {n : Nat} (hn : n = min xs.length ys.length) : Walk (RZ.ItzT K a b) n (fun H => SqT K H a xs ∧ SqT K H b ys) (YPair (fun i => xs[i]?) (fun i => ys[i]?)) := by
  subst hn
  refine ⟨fun i _ hi q => ?_, fun _ q => ⟨xs, ys, q.1, q.2, by omega⟩, fun i H v H' _ q y => ?_⟩
  · have h1 : i < xs.length := by omega
    have h2 : i < ys.length := by omega
    exact ⟨xs, ys, xs[i], ys[i], q.1, q.2, by simp [h1], by simp [h2]⟩
  · obtain ⟨T, x, z, h1, h2, h3, h4, h5⟩ := y
    exact ⟨T, x, z, h1, h2, h3, h4 xs q.1, h5 ys q.2⟩
theorem src_zipT (n : ¬ B a) (e : H a = some (.tup xs)) (r : RpA K H B xs ds) (n2 : ¬ B b) (e2 : H b = some (.tup ys)) (r2 : RpA K H B ys es) : SrcAt K B H (RZ.ItzT K a b) (zipD ds es) := by
  refine src_pair (G := fun H' => H' a = some (.tup xs) ∧ H' b = some (.tup ys)) (n := min xs.length ys.length) (by rw [zipD_length, r.length, r2.length]) ((walk_zipT rfl).mono (fun H' h => ⟨SqT.of h.1, SqT.of h.2⟩) fun _ _ _ _ _ _ y => y)
    (fun B' H' fr hB => ⟨keep_at n e (fun _ z => by cases z) fr hB, keep_at n2 e2 (fun _ z => by cases z) fr hB⟩) fun i x y hi h1 h2 => ?_
  obtain ⟨d, q1, q2⟩ := r.getV h1
  obtain ⟨d', q3, q4⟩ := r2.getV h2
  exact ⟨d, d', zipD_get _ _ _ _ _ q1 q3, q2, q4⟩
theorem enumD_length : ∀ (ds : List PD) (k : Nat), (enumD k ds).length = ds.length
  | [], _ => rfl
  | _ :: ds, k => by rw [enumD, List.length_cons, List.length_cons, enumD_length ds]
theorem enumD_get : ∀ (ds : List PD) (k i : Nat) (d : PD), ds[i]? = some d → (enumD k ds)[i]? = some (.tuple [.int ((k + i : Nat) : Int), d])
  | _ :: _, k, 0, _, h => by simp at h; subst h; rfl
  | _ :: ds, k, i + 1, d, h => by
    rw [enumD, List.getElem?_cons_succ, enumD_get ds (k + 1) i d (by simpa using h)]
    congr 5
    omega
  | [], _, _, _, h => by simp at h
theorem src_enm (n : ¬ B a) (e : H a = some (.lst xs)) (r : RpA K H B xs ds) : SrcAt K B H (Ite K a) (enumD 0 ds) := by
  refine src_pair (G := fun H' => H' a = some (.lst xs)) (n := xs.length) (by rw [enumD_length, r.length]) (walk_enum.mono (fun H' h => SqL.of h) fun _ _ _ _ _ _ y => y)
    (fun B' H' fr hB => keep_at n e (fun _ z => by cases z) fr hB) fun i x y hi h1 h2 => ?_
  obtain ⟨d, q1, q2⟩ := r.getV h2
  cases h1
  refine ⟨.int (i : Nat), d, ?_, .int _, q2⟩
  rw [enumD_get ds 0 i d q1, Nat.zero_add]
theorem src_enmT (n : ¬ B a) (e : H a = some (.tup xs)) (r : RpA K H B xs ds) : SrcAt K B H (EnT.IteT K a) (enumD 0 ds) := by
  refine src_pair (G := fun H' => H' a = some (.tup xs)) (n := xs.length) (by rw [enumD_length, r.length]) (EnT.walk_enT.mono (fun H' h => SqT.of h) fun _ _ _ _ _ _ y => y)
    (fun B' H' fr hB => keep_at n e (fun _ z => by cases z) fr hB) fun i x y hi h1 h2 => ?_
  obtain ⟨d, q1, q2⟩ := r.getV h2
  cases h1
  refine ⟨.int (i : Nat), d, ?_, .int _, q2⟩
  rw [enumD_get ds 0 i d q1, Nat.zero_add]
end

section
variable {X : Cx} {g : Gh} {call : Calls} {lamc : Nat → (Option (List PD) → FO) → Option (List PD) → FO} {actf : Option (List PD) → FO} {W : WX}
  {e e2 tg : Expr} {ia ib : IE} {pos p : Pos} {src : IR}
def RS (g : Gh) (hd : Dy) (σ : L2.St) : Rel (List PD) It := fun _ ds J s H => Cl g hd σ s H ∧ SrcAt g.K (Bz hd σ s.ρ) H J ds
theorem RS.up {hd : Dy} {σ : L2.St} : (RS g hd σ).Up := fun _ _ _ _ _ _ _ r => r
def tSrc (g : Gh) (call : Calls) (lamc : Nat → (Option (List PD) → FO) → Option (List PD) → FO) (actf : Option (List PD) → FO) (W : WX) (src : IR) : TI := fun σ H R => ∃ hd s, Cl g hd σ s H ∧ Post g W hd σ s H (RS g hd σ) (walk call lamc actf src s) R
theorem PI.imp {t t' : TI} (h : PI X tg e t) (q : ∀ σ H Q, t' σ H Q → t σ H Q) : PI X tg e t' := ⟨fun pins s σ H R I hw => h.run pins s σ H R I (q σ H R hw)⟩
theorem pi_seq {tl : TE} (hl : PE X e tl) : PI X tg e (fun σ H R => tl σ H fun x H1 => ∃ a, x = .ref a ∧ (((∃ xs, SqL X.K H1 a xs) ∧ R (Itl X.K a) H1) ∨ ((∃ xs, SqT X.K H1 a xs) ∧ R (Itt X.K a) H1))) := by
  refine ⟨fun pins s σ H R I h => ?_⟩
  refine thn (hl.run pins s σ H _ I h) fun v s1 ⟨x, H1, I1, r1, q1⟩ => ?_
  obtain ⟨a, rfl, ⟨⟨xs, hq⟩, q⟩ | ⟨⟨xs, hq⟩, q⟩⟩ := q1
  · cases r1
    obtain ⟨its, rv, p, hz⟩ := I1.list hq
    refine wpAny_pyIter_list p.isList ?_
    refine ⟨s1.heap.objs.size, [s1.heap.objs.size], _, _, H1, rfl, I1.kept (t' := s1.toks) fun b o e => Heap.get?_push_of_some _ e, turn_list a _, ⟨_, Heap.get?_push_size _ rfl, rfl, rfl⟩, fun b hb => ?_, q⟩
    obtain rfl : b = s1.heap.objs.size := by simpa using hb
    exact I1.fpOk (Nat.le_refl _) (I1.hok.fresh (Nat.le_refl _))
  · cases r1
    obtain ⟨its, rv, p, hz⟩ := I1.tuple hq
    refine wpAny_pyIter_tuple (show s1.heap.IsTuple a its.toArray from p) ?_
    refine ⟨s1.heap.objs.size, [s1.heap.objs.size], _, _, H1, rfl, I1.kept (t' := s1.toks) fun b o e => Heap.get?_push_of_some _ e, turn_tuple a _, ⟨_, Heap.get?_push_size _ rfl, rfl, rfl⟩, fun b hb => ?_, q⟩
    obtain rfl : b = s1.heap.objs.size := by simpa using hb
    exact I1.fpOk (Nat.le_refl _) (I1.hok.fresh (Nat.le_refl _))
theorem w_seq (hK : X.K = g.K) (h : PE X e (tEv g call lamc actf W ia)) : PI X tg e (tSrc g call lamc actf W (.seq ia)) := PI.imp (pi_seq h) fun σ H R ⟨hd, s, c, post⟩ => by
  rw [walk] at post
  refine ⟨hd, s, c, post.bind RS.up fun xo s1 x H1 fr1 le1 r1 post1 => ?_⟩
  obtain ⟨c1, r1⟩ := r1.drop
  split at post1
  · rename_i d e1
    rw [e1] at r1
    rw [hK]
    split at post1
    · rename_i ds e2
      cases r1 with
      | lst n q w => cases e2; exact ⟨_, rfl, .inl ⟨⟨_, SqL.of q⟩, post1.here rfl (Fr.refl _ _) AvLe.refl ⟨c1, src_list n q w⟩⟩⟩
      | tup n q w => cases e2; exact ⟨_, rfl, .inr ⟨⟨_, SqT.of q⟩, post1.here rfl (Fr.refl _ _) AvLe.refl ⟨c1, src_tup n q w⟩⟩⟩
      | _ => cases e2
    · exact post1.elim
  · exact post1.elim
theorem w_rng1 (h : PE X e (tEv g call lamc actf W ia)) (na : noStarE e = true) (hg : Gl X "range") (hm : X.mg "range" = none) : PI X tg (.Call (.Name "range" p) [e] [] pos) (tSrc g call lamc actf W (.rng1 ia)) :=
  PI.imp (pi_range1 hg hm (pa_cons h pa_nil (star_no na _ _)) (by rw [star_no na]; rfl)) fun σ H R ⟨hd, s, c, post⟩ => by
    rw [walk] at post
    refine ⟨hd, s, c, post.bind RS.up fun xo s1 x H1 fr1 le1 r1 post1 => ?_⟩
    obtain ⟨c1, r1⟩ := r1.drop
    split at post1
    · rename_i n e1
      rw [e1] at r1
      cases r1
      split at post1
      · exact ⟨n, rfl, by omega, by omega, post1.here rfl (Fr.refl _ _) AvLe.refl ⟨c1, src_rng _ _⟩⟩
      · exact post1.elim
    · exact post1.elim
theorem w_rng2 (h : PE X e (tEv g call lamc actf W ia)) (h2 : PE X e2 (tEv g call lamc actf W ib)) (na : noStarE e = true) (nb : noStarE e2 = true) (hg : Gl X "range") (hm : X.mg "range" = none) :
    PI X tg (.Call (.Name "range" p) [e, e2] [] pos) (tSrc g call lamc actf W (.rng2 ia ib)) :=
  PI.imp (pi_range2 hg hm (pa_cons h (pa_cons h2 pa_nil (star_no nb _ _)) (star_no na _ _)) (by rw [star_no na, star_no nb]; rfl) (by rw [star_no nb]; rfl)) fun σ H R ⟨hd, s, c, post⟩ => by
    rw [walk] at post
    refine ⟨hd, s, c, post.bind RS.up fun xo s1 x H1 fr1 le1 r1 post1 => ?_⟩
    obtain ⟨c1, r1⟩ := r1.drop
    refine ⟨hd, s1, c1, post1.bind RS.up fun yo s2 y H2 fr2 le2 r2 post2 => ?_⟩
    obtain ⟨c2, r2⟩ := r2.drop
    split at post2
    · rename_i lo n e1 e2
      rw [e1] at r1
      rw [e2] at r2
      cases r1
      cases r2
      split at post2
      · exact ⟨lo, n, rfl, by omega, post2.here rfl (Fr.refl _ _) AvLe.refl ⟨c2, src_rng _ _⟩⟩
      · exact post2.elim
    · exact post2.elim
theorem w_enm {elts : List Expr} {kk : Nat} {tpos : Pos} (hK : X.K = g.K) (h : PE X e (tEv g call lamc actf W ia)) (na : noStarE e = true) (hg : Gl X "enumerate") (hm : X.mg "enumerate" = none) :
    PI X (.Tuple elts kk tpos) (.Call (.Name "enumerate" p) [e] [] pos) (tSrc g call lamc actf W (.enm ia)) :=
  PI.imp (EnT.pi_enA hg hm (pa_cons h pa_nil (star_no na _ _)) (by rw [star_no na]; rfl)) fun σ H R ⟨hd, s, c, post⟩ => by
    rw [walk] at post
    refine ⟨hd, s, c, post.bind RS.up fun xo s1 x H1 fr1 le1 r1 post1 => ?_⟩
    obtain ⟨c1, r1⟩ := r1.drop
    split at post1
    · rename_i ds e1
      rw [e1] at r1
      rw [hK]
      cases r1 with
      | lst n q w => exact ⟨_, rfl, .inl ⟨_, SqL.of q, post1.here rfl (Fr.refl _ _) AvLe.refl ⟨c1, src_enm n q w⟩⟩⟩
    · rename_i ds e1
      rw [e1] at r1
      rw [hK]
      cases r1 with
      | tup n q w => exact ⟨_, rfl, .inr ⟨_, SqT.of q, post1.here rfl (Fr.refl _ _) AvLe.refl ⟨c1, src_enmT n q w⟩⟩⟩
    · exact post1.elim
theorem w_zip {elts : List Expr} {kk : Nat} {tpos : Pos} (hK : X.K = g.K) (h : PE X e (tEv g call lamc actf W ia)) (h2 : PE X e2 (tEv g call lamc actf W ib)) (na : noStarE e = true) (nb : noStarE e2 = true) (hg : Gl X "zip") (hm : X.mg "zip" = none) :
    PI X (.Tuple elts kk tpos) (.Call (.Name "zip" p) [e, e2] [] pos) (tSrc g call lamc actf W (.zip ia ib)) :=
  PI.imp (RZ.pi_zipA hg hm (pa_cons h (pa_cons h2 pa_nil (star_no nb _ _)) (star_no na _ _)) (star_no na _ _) (by rw [star_no nb]; rfl)) fun σ H R ⟨hd, s, c, post⟩ => by
    rw [walk] at post
    refine ⟨hd, s, c, post.bind RS.up fun xo s1 x H1 fr1 le1 r1 post1 => ?_⟩
    obtain ⟨c1, r1⟩ := r1.drop
    refine ⟨hd, s1, c1, post1.bind RS.up fun yo s2 y H2 fr2 le2 r2 post2 => ?_⟩
    obtain ⟨c2, r2⟩ := r2.drop
    rw [hK]
    have r1 := RpV.on fr2 le2 r1
    split at post2
    · rename_i ds es e1 e2
      rw [e1] at r1
      rw [e2] at r2
      cases r1 with
      | lst n q w => cases r2 with
        | lst n2 q2 w2 => exact ⟨_, _, _, _, rfl, .inl ⟨SqL.of q, SqL.of q2, post2.here rfl (Fr.refl _ _) AvLe.refl ⟨c2, src_zip n q w n2 q2 w2⟩⟩⟩
    · rename_i ds es e1 e2
      rw [e1] at r1
      rw [e2] at r2
      cases r1 with
      | tup n q w => cases r2 with
        | tup n2 q2 w2 => exact ⟨_, _, _, _, rfl, .inr ⟨SqT.of q, SqT.of q2, post2.here rfl (Fr.refl _ _) AvLe.refl ⟨c2, src_zipT n q w n2 q2 w2⟩⟩⟩
    · exact post2.elim
end
end Pev
set_option maxRecDepth 100000
set_option autoImplicit false
/-! Pev, soundness 12: targets, list comprehensions. -/
namespace Pev
open PySem PySem.Spec PyProof.Rows L2
open LamX (Tabs TabS CodeO)

/-! ### slots set, forgotten, brought back -/
theorem wipeS_get : ∀ (own : List Nat) (ρ : List Slot) (j : Nat), (wipeS ρ own)[j]? = if j ∈ own then (if j < ρ.length then some Slot.emp else none) else ρ[j]?
  | [], ρ, j => by simp [wipeS]
  | i :: own, ρ, j => by
    have h := wipeS_get own (ρ.set i .emp) j
    unfold wipeS at h ⊢
    rw [List.foldl_cons, h, List.length_set]
    by_cases h1 : j ∈ own
    · rw [if_pos h1, if_pos (List.mem_cons_of_mem _ h1)]
    · rw [if_neg h1]
      by_cases h2 : j = i
      · subst h2
        rw [if_pos List.mem_cons_self, List.getElem?_set]
        simp
      · rw [if_neg (by simp [h1, h2]), List.getElem?_set_ne (fun e => h2 e.symm)]
theorem wipeS_length : ∀ (own : List Nat) (ρ : List Slot), (wipeS ρ own).length = ρ.length
  | [], ρ => rfl
  | i :: own, ρ => by
    have h := wipeS_length own (ρ.set i .emp)
    unfold wipeS at h ⊢
    rw [List.foldl_cons, h, List.length_set]
theorem unwipe_get : ∀ (own : List Nat) (ρ ρ' : List Slot) (j : Nat), (unwipe ρ ρ' own)[j]? = if j ∈ own then (if j < ρ'.length then some (ρ[j]?.getD .emp) else none) else ρ'[j]?
  | [], ρ, ρ', j => by simp [unwipe]
  | i :: own, ρ, ρ', j => by
    have h := unwipe_get own ρ (ρ'.set i (ρ[i]?.getD .emp)) j
    unfold unwipe at h ⊢
    rw [List.foldl_cons, h, List.length_set]
    by_cases h1 : j ∈ own
    · rw [if_pos h1, if_pos (List.mem_cons_of_mem _ h1)]
    · rw [if_neg h1]
      by_cases h2 : j = i
      · subst h2
        rw [if_pos List.mem_cons_self, List.getElem?_set]
        simp
      · rw [if_neg (by simp [h1, h2]), List.getElem?_set_ne (fun e => h2 e.symm)]
theorem unwipe_length : ∀ (own : List Nat) (ρ ρ' : List Slot), (unwipe ρ ρ' own).length = ρ'.length
  | [], ρ, ρ' => rfl
  | i :: own, ρ, ρ' => by
    have h := unwipe_length own ρ (ρ'.set i (ρ[i]?.getD .emp))
    unfold unwipe at h ⊢
    rw [List.foldl_cons, h, List.length_set]
theorem wipe_get : ∀ (vs : List Nat) (σ : L2.St) (j : Nat), (wipe σ vs)[j]? = if j ∈ vs then (if j < σ.length then some none else none) else σ[j]?
  | [], σ, j => by simp [wipe]
  | i :: vs, σ, j => by
    unfold wipe
    rw [List.getElem?_set, wipe_length, wipe_get vs σ j]
    by_cases h2 : i = j
    · subst h2
      simp
    · rw [if_neg h2]
      by_cases h1 : j ∈ vs
      · rw [if_pos h1, if_pos (List.mem_cons_of_mem _ h1)]
      · rw [if_neg h1, if_neg (by simp only [List.mem_cons, not_or]; exact ⟨fun e => h2 e.symm, h1⟩)]
theorem wipe_eq {vs : List Nat} {σ σ' : L2.St} (hl : σ'.length = σ.length) (h : ∀ j, j ∉ vs → σ'[j]? = σ[j]?) : wipe σ' vs = wipe σ vs := by
  apply List.ext_getElem?
  intro j
  rw [wipe_get, wipe_get, hl]
  by_cases hj : j ∈ vs
  · rw [if_pos hj, if_pos hj]
  · rw [if_neg hj, if_neg hj, h j hj]

theorem tabs_upd {T : List (Addr × Str)} {H : Hp} {p : Addr} {u o : HO} (t : Tabs T H) (e : H p = some u) (m : isMu u) : Tabs T (upd H p o) := fun q hq => by
  obtain ⟨ps, h1, h2, h3⟩ := t q hq
  refine ⟨ps, ?_, h2, fun pos cv hc => ?_⟩
  · rw [upd_ne (fun z => by rw [z, e] at h1; cases h1; exact m)]
    exact h1
  · obtain ⟨c, hc1, hc2⟩ := h3 pos cv hc
    refine ⟨c, hc1, ?_⟩
    rw [upd_ne (fun z => by rw [z, e] at hc2; cases hc2; exact m)]
    exact hc2
section
variable {g : Gh} {hd : Dy} {σ : L2.St} {s : S} {H H' : Hp}
/-- slots changed to what is known to be right -/
theorem Cl.re {σ' : L2.St} {ρ' : List Slot} (c : Cl g hd σ s H) (hl : ρ'.length = σ'.length) (ho : ∀ (j : Nat) (d : PD), ρ'[j]? = some (Slot.own d) → s.ρ[j]? = some (Slot.own d) ∧ σ'[j]? = σ[j]?)
    (hv : ∀ (j : Nat) (v : Val), ρ'[j]? = some (Slot.val v) → (s.ρ[j]? = some (Slot.val v) ∧ σ'[j]? = σ[j]?) ∨ ∃ x, σ'[j]? = some (some x) ∧ RpV g hd H (Bz hd σ' ρ') x v) : Cl g hd σ' { s with ρ := ρ' } H ∧ ∀ a, Av hd σ' ρ' a → Av hd σ s.ρ a := by
  have le : ∀ a, Av hd σ' ρ' a → Av hd σ s.ρ a := fun a z => z.imp id fun ⟨j, d, h1, h2⟩ => by
    obtain ⟨q1, q2⟩ := ho j d h1
    exact ⟨j, d, q1, by rw [← q2]; exact h2⟩
  have leB : ∀ a, Bz hd σ' ρ' a → Bz hd σ s.ρ a := fun a z => z.imp (le a) id
  refine ⟨⟨hl, fun a z => .inl z, fun a z => c.mu a (leB a z), fun i v e => ?_, fun i d e => ?_, fun i j d e a h1 h2 h3 h4 => ?_, HandAt.less c.hand leB, c.tabs⟩, le⟩
  · rcases hv i v e with ⟨q1, q2⟩ | q
    · obtain ⟨x, h1, h2⟩ := c.vals i v q1
      exact ⟨x, by rw [q2]; exact h1, rpV_less leB h2⟩
    · exact q
  · obtain ⟨q1, q2⟩ := ho i d e
    obtain ⟨a, h1, h2, h3⟩ := c.owns i d q1
    exact ⟨a, by rw [q2]; exact h1, h2.stay (Fr.refl _ _) (fun a z => .inl (leB a z)) (fun _ z => z), h3⟩
  · obtain ⟨q1, q2⟩ := ho i d h1
    obtain ⟨q3, q4⟩ := ho j e h2
    exact c.apart i j d e a q1 q3 (by rw [← q2]; exact h3) (by rw [← q4]; exact h4)
/-- a value goes into a slot -/
theorem Cl.setV {i : Nat} {x : V} {v : Val} (c : Cl g hd σ s H) (r : RpV g hd H (Bz hd σ s.ρ) x v) : Cl g hd (σ.set i (some x)) { s with ρ := s.ρ.set i (.val v) } H ∧ ∀ a, Av hd (σ.set i (some x)) (s.ρ.set i (.val v)) a → Av hd σ s.ρ a := by
  have ho : ∀ (j : Nat) (d : PD), (s.ρ.set i (.val v))[j]? = some (Slot.own d) → s.ρ[j]? = some (Slot.own d) ∧ (σ.set i (some x))[j]? = σ[j]? := fun j d e => by
    rw [List.getElem?_set] at e
    split at e
    · split at e <;> cases e
    · rename_i ne
      exact ⟨e, by rw [List.getElem?_set_ne ne]⟩
  have le : ∀ a, Av hd (σ.set i (some x)) (s.ρ.set i (.val v)) a → Av hd σ s.ρ a := fun a z => z.imp id fun ⟨j, d, h1, h2⟩ => by
    obtain ⟨q1, q2⟩ := ho j d h1
    exact ⟨j, d, q1, by rw [← q2]; exact h2⟩
  refine c.re (by rw [List.length_set, List.length_set]; exact c.len) ho fun j w e => ?_
  rw [List.getElem?_set] at e
  split at e
  · rename_i e1
    subst e1
    split at e
    · rename_i hl
      cases e
      exact .inr ⟨x, by rw [List.getElem?_set_self (by rw [← c.len]; exact hl)], rpV_less (fun a z => z.imp (le a) id) r⟩
    · cases e
  · rename_i ne
    exact .inl ⟨e, by rw [List.getElem?_set_ne ne]⟩
/-- another ambient set -/
theorem Ok.amb {B Z : Addr → Prop} (c : Ok g hd B σ s H) (h1 : ∀ a, Bz ⟨hd.p, Z⟩ σ s.ρ a → B a) (h2 : ∀ (a : Addr) (i : Nat) (d : PD), s.ρ[i]? = some (Slot.own d) → σ[i]? = some (some (V.ref a)) → ¬ Z a) : Cl g ⟨hd.p, Z⟩ σ s H := by
  refine ⟨c.len, fun a z => .inl z, fun a z => c.mu a (h1 a z), fun i v e => ?_, fun i d e => ?_, c.apart, handAt_hd (hd := hd) rfl (HandAt.less c.hand h1), c.tabs⟩
  · obtain ⟨x, q1, q2⟩ := c.vals i v e
    exact ⟨x, q1, rpV_hd (hd := hd) rfl (rpV_less h1 q2)⟩
  · obtain ⟨a, q1, q2, q3, q4⟩ := c.owns i d e
    exact ⟨a, q1, q2.stay (Fr.refl _ _) (fun a z => .inl (h1 a z)) (fun _ z => z), q3, h2 a i d e q1⟩
/-- an object that only the ambient set tells of is written -/
theorem Cl.updZ {p : Addr} {u o : HO} (c : Cl g hd σ s H) (hz : hd.Z p) (e : H p = some u) (mu : isMu u) (mo : isMu o) (hp : hd.p ≠ some p) : Cl g hd σ s (upd H p o) := by
  have fr : Fr (Bz hd σ s.ρ) H (upd H p o) := Fr.set e (.inr hz) (fun ps z => by rw [z] at mo; exact mo)
  have hB : ∀ a, Bz hd σ s.ρ a → Bz hd σ s.ρ a ∨ Nn H a := fun a z => .inl z
  refine ⟨c.len, c.av, fun a z => ?_, fun i v q => ?_, fun i d q => ?_, c.apart, HandAt.stay fr hB (fun a ha o' e' => ?_) c.hand, tabs_upd c.tabs e mu⟩
  · by_cases h : a = p
    · subst h
      exact ⟨o, upd_same, mo⟩
    · rw [upd_ne h]
      exact c.mu a z
  · obtain ⟨x, h1, h2⟩ := c.vals i v q
    exact ⟨x, h1, h2.stay fr hB⟩
  · obtain ⟨a, h1, h2, h3, h4⟩ := c.owns i d q
    exact ⟨a, h1, h2.stay fr hB (fun o' e' => by rw [upd_ne (fun z => h4 (by rw [z]; exact hz))]; exact e'), h3, h4⟩
  · rw [upd_ne (fun z => hp (by rw [ha, z]))]
    exact e'
end
end Pev
set_option maxRecDepth 100000
set_option autoImplicit false
/-! Pev, soundness 13: targets, list comprehensions. -/
namespace Pev
open PySem PySem.Spec PyProof.Rows L2
open LamX (Tabs TabS CodeO)

/-! ### targets -/
def gIs : List Nat → TGs
  | [] => gNil
  | i :: is => gCons (gName i) (gIs is)
def gTgt (K : PySem.W.Frag) : Tgt → TG
  | .nm i => gName i
  | .tp is => gTup K is.length (gIs is)
def tgIx : Tgt → List Nat
  | .nm i => [i]
  | .tp is => is
section
variable {g : Gh} {hd : Dy} {σ : L2.St} {s s1 : S} {H H' : Hp}
def setAll (is : List Nat) (ds : List PD) (ρ : List Slot) : List Slot := (is.zip ds).foldl (fun ρ p => ρ.set p.1 (.val (.dat p.2))) ρ
theorem gIs_run {Q : L2.St → Hp → Prop} : ∀ {is : List Nat} {vs : List V} {ds : List PD} {σ : L2.St} {s : S}, Cl g hd σ s H → RpA g.K H (Bz hd σ s.ρ) vs ds → is.length = ds.length →
    (∀ σ1, Cl g hd σ1 { s with ρ := setAll is ds s.ρ } H → (∀ a, Av hd σ1 (setAll is ds s.ρ) a → Av hd σ s.ρ a) → σ1.length = σ.length → (∀ j, j ∉ is → σ1[j]? = σ[j]?) → Q σ1 H) → gIs is vs σ H Q
  | [], vs, ds, σ, s, c, r, hl, hq => by
    cases r with
    | nil => exact ⟨rfl, hq σ c (fun _ z => z) rfl fun _ _ => rfl⟩
    | cons _ _ => cases hl
  | i :: is, vs, ds, σ, s, c, r, hl, hq => by
    cases r with
    | nil => cases hl
    | cons h t =>
      rename_i v vs d ds
      obtain ⟨c1, le1⟩ := c.setV (i := i) (v := .dat d) h
      refine ⟨v, vs, rfl, ?_⟩
      have t' : RpA g.K H (Bz hd (σ.set i (some v)) (s.ρ.set i (.val (.dat d)))) vs ds := t.stay (Fr.refl _ _) fun a z => .inl (z.imp (le1 a) id)
      refine gIs_run c1 t' (by simpa using hl) fun σ1 c2 le2 l2 st2 => ?_
      refine hq σ1 c2 (fun a z => le1 a (le2 a z)) (by rw [l2, List.length_set]) fun j hj => ?_
      rw [List.mem_cons, not_or] at hj
      rw [st2 j hj.2, List.getElem?_set_ne (fun e => hj.1 e.symm)]
theorem tgt_run {tg : Tgt} {d : PD} {x : V} {Q : L2.St → Hp → Prop} (c : Cl g hd σ s H) (r : Rp g.K H (Bz hd σ s.ρ) x d) (e : assignT tg d s = some s1)
    (hq : ∀ σ1, Cl g hd σ1 s1 H → (∀ a, Av hd σ1 s1.ρ a → Av hd σ s.ρ a) → σ1.length = σ.length → (∀ j, j ∉ tgIx tg → σ1[j]? = σ[j]?) → Q σ1 H) : gTgt g.K tg x σ H Q := by
  cases tg with
  | nm i =>
    cases e
    obtain ⟨c1, le1⟩ := c.setV (i := i) (v := .dat d) r
    exact hq _ c1 le1 (by rw [List.length_set]) fun j hj => by
      rw [List.getElem?_set_ne]
      intro e
      exact hj (by rw [e]; exact List.mem_singleton_self _)
  | tp is =>
    cases d with
    | tuple ds =>
      have e : (if is.length = ds.length then some { s with ρ := setAll is ds s.ρ } else none) = some s1 := e
      split at e
      · rename_i hl
        cases e
        cases r with
        | tup n q w => exact ⟨_, _, rfl, SqT.of q, by rw [w.length, hl], gIs_run c w hl hq⟩
      · cases e
    | _ => cases e
end

/-! ### comprehensions -/
section
variable {g : Gh} {call : Calls} {lamc : Nat → (Option (List PD) → FO) → Option (List PD) → FO} {actf : Option (List PD) → FO}
/-- no exception is wanted -/
def W0 : WX := fun _ _ _ _ => False
def lcBody (call : Calls) (lamc : Nat → (Option (List PD) → FO) → Option (List PD) → FO) (actf : Option (List PD) → FO) (ifs : IT) (elt : IE) : S → Out (Option PD) := fun s => (tst call lamc actf ifs s).bind fun t s => if t then (ev call lamc actf elt s).bind fun x s => match x.v with
        | .dat d => .ok (some d) s
        | _ => .bad
      else .ok none s
/-- the comprehension's own ambient set -/
def hdL (hd : Dy) (D : Addr) : Dy := ⟨hd.p, fun a => hd.Z a ∨ a = D⟩
structure LcInv (g : Gh) (hd : Dy) (σ : L2.St) (ρ0 : List Slot) (H0 : Hp) (D : Addr) (n : Nat) (acc : List PD) (s : S) (H : Hp) : Prop where
  cl : Cl g (hdL hd D) σ s H
  fr : Fr (fun a => Av hd σ ρ0 a ∨ a = D) H0 H
  le : ∀ a, Av hd σ s.ρ a → Av hd σ ρ0 a
  at' : ∃ xs, H D = some (.lst xs) ∧ RpA g.K H (Bz (hdL hd D) σ s.ρ) xs acc
  len : acc.length ≤ n
variable {hd : Dy} {σ : L2.St} {s0 : S} {H0 : Hp} {J : It} {ds ys : List PD} {tg : Tgt} {ifs : IT} {elt : IE} {own : List Nat} {s' : S} {D : Addr}
theorem avL (a : Addr) {σ : L2.St} {ρ : List Slot} : Av (hdL hd D) σ ρ a ↔ Av hd σ ρ a := Iff.rfl
/-- the slots own are forgotten -/
theorem Cl.wiped {σ' : L2.St} {s : S} {H : Hp} {hd : Dy} (c : Cl g hd σ' s H) (hl : σ'.length = σ.length) (hs : ∀ j, j ∉ own → σ'[j]? = σ[j]?) : Cl g hd (wipe σ own) { s with ρ := wipeS s.ρ own } H ∧ ∀ a, Av hd (wipe σ own) (wipeS s.ρ own) a → Av hd σ' s.ρ a := by
  have k : ∀ (j : Nat) (x : Slot), (wipeS s.ρ own)[j]? = some x → x ≠ .emp → s.ρ[j]? = some x ∧ (wipe σ own)[j]? = σ'[j]? := fun j x e hx => by
    rw [wipeS_get] at e
    split at e
    · split at e
      · cases e; exact absurd rfl hx
      · cases e
    · rename_i hj
      exact ⟨e, by rw [wipe_get, if_neg hj, hs j hj]⟩
  exact c.re (by rw [wipeS_length, wipe_length, ← hl]; exact c.len) (fun j d e => k j _ e (by intro z; cases z)) fun j v e => .inl (k j _ e (by intro z; cases z))
theorem lc_turn {i : Nat} {acc : List PD} {s : S} {H H1 : Hp} {x : V} (hp : hd.p ≠ some D) (i1 : LcInv g hd (wipe σ own) (wipeS s0.ρ own) H0 D i acc s H) (hi : i < 100000)
    (hx : H1 = H ∨ ∃ T xs, H T = none ∧ H1 = upd H T (.tup xs)) {d : PD} (hr : ∀ B2 : Addr → Prop, (∀ a, B2 a → Bz (hdL hd D) (wipe σ own) s.ρ a) → Rp g.K H1 B2 x d)
    {rest : List PD} {res : S} (run : lcLoop (lcBody call lamc actf ifs elt) tg own (d :: rest) acc s = .ok ys res) (htg : ∀ j, j ∈ tgIx tg → j ∈ own) {Pv : Hp → Prop}
    (hn : ∀ acc' s2 H2, LcInv g hd (wipe σ own) (wipeS s0.ρ own) H0 D (i + 1) acc' s2 H2 → lcLoop (lcBody call lamc actf ifs elt) tg own rest acc' s2 = .ok ys res → Pv H2) :
    gTgt g.K tg x (wipe σ own) H1 fun σ2 H2 => wipe σ2 own = wipe σ own ∧ tTst g call lamc actf W0 ifs σ2 H2 fun b H3 =>
      if b = true then tEv g call lamc actf W0 elt σ2 H3 fun y H4 => ∃ acc, H4 D = some (.lst acc) ∧ acc.length < sizeLine ∧ Pv (upd H4 D (.lst (acc ++ [y]))) else Pv H3 := by
  obtain ⟨c, fr, le, ⟨xs, hD, rD⟩, hlen⟩ := i1
  rw [lcLoop] at run
  cases ea : assignT tg d s with
  | none => rw [ea] at run; cases run
  | some s1 =>
  rw [ea] at run
  simp only at run
  -- the pair's own tuple, if any
  have c1 : Cl g (hdL hd D) (wipe σ own) s H1 ∧ Fr (fun _ => False) H H1 ∧ H1 D = some (.lst xs) := by
    rcases hx with rfl | ⟨T, ts, hT, rfl⟩
    · exact ⟨c, Fr.refl _ _, hD⟩
    · refine ⟨c.new hT (fun _ z => z) (fun a z => .inl z), Fr.new hT, ?_⟩
      rw [upd_ne (ne_of_none hD hT)]
      exact hD
  obtain ⟨c1, fr1, hD1⟩ := c1
  have pD : ∀ {σ : L2.St} {s : S} {H : Hp}, Cl g (hdL hd D) σ s H → ¬ Av hd σ s.ρ D := fun {σ s H} c z => by
    rcases z with z | ⟨j, d', q1, q2⟩
    · exact hp z
    · obtain ⟨a, h1, _, _, h4⟩ := c.owns j d' q1
      rw [q2] at h1
      cases h1
      exact h4 (.inr rfl)
  refine tgt_run c1 (hr _ fun _ z => z) ea fun σ2 c2 le2 l2 st2 => ⟨wipe_eq (by rw [l2, wipe_length]) fun j hj => ?_, hdL hd D, s1, c2, ?_⟩
  · rw [st2 j fun m => hj (htg j m), wipe_get, if_neg hj]
  have hl2 : σ2.length = σ.length := by rw [l2, wipe_length]
  have hs2 : ∀ j, j ∉ own → σ2[j]? = σ[j]? := fun j hj => by rw [st2 j fun m => hj (htg j m), wipe_get, if_neg hj]
  have frA : Fr (fun a => Av hd (wipe σ own) (wipeS s0.ρ own) a ∨ a = D) H0 H1 := fr.trans fr1 fun a z => z.elim
  -- a turn's end
  have fin : ∀ {s3 : S} {H4 : Hp} {acc' : List PD} {xs' : List V}, Cl g (hdL hd D) σ2 s3 H4 → Fr (fun a => Av hd σ2 s1.ρ a ∨ a = D) H1 H4 → (∀ a, Av hd σ2 s3.ρ a → Av hd σ2 s1.ρ a) → H4 D = some (.lst xs') → RpA g.K H4 (Bz (hdL hd D) σ2 s3.ρ) xs' acc' → acc'.length ≤ i + 1 →
      LcInv g hd (wipe σ own) (wipeS s0.ρ own) H0 D (i + 1) acc' { s3 with ρ := wipeS s3.ρ own } H4 := fun {s3 H4 acc' xs'} c4 fr4 le4 h4 r4 hl4 => by
    obtain ⟨cw, lew⟩ := c4.wiped hl2 hs2
    have lea : ∀ a, Av hd σ2 s3.ρ a → Av hd (wipe σ own) (wipeS s0.ρ own) a := fun a z => le a (le2 a (le4 a z))
    refine ⟨cw, frA.trans fr4 fun a z => .inl (z.imp (fun z => le a (le2 a z)) id), fun a z => lea a (lew a z), ⟨xs', h4, ?_⟩, hl4⟩
    exact r4.stay (Fr.refl _ _) fun a z => .inl (z.imp (lew a) id)
  have rD1 : RpA g.K H1 (Bz (hdL hd D) (wipe σ own) s.ρ) xs acc := rD.stay (fr1.mono fun a z => z.elim) fun a z => .inl z
  cases et : tst call lamc actf ifs s1 with
  | bad => simp only [lcBody, et, Out.bind] at run; cases run
  | exc _ _ => simp only [lcBody, et, Out.bind] at run; cases run
  | ok t s2 =>
  intro b H3 fr3 le3 ⟨c3, hb⟩
  subst hb
  have hD3 : H3 D = some (.lst xs) := fr3.keep D _ hD1 (fun z => pD c2 z) fun _ z => by cases z
  have rD3 : RpA g.K H3 (Bz (hdL hd D) σ2 s2.ρ) xs acc := rD1.stay (fr3.mono fun a z => .inl (.inl (le2 a z))) fun a z => .inl (z.imp (fun z => le2 a (le3 a z)) id)
  have fr3' : Fr (fun a => Av hd σ2 s1.ρ a ∨ a = D) H1 H3 := fr3.mono fun a z => .inl (.inl z)
  cases t with
  | false =>
    rw [if_neg (by intro z; cases z)]
    simp only [lcBody, et, Out.bind] at run
    exact hn _ _ _ (fin c3 fr3' le3 hD3 rD3 (by omega)) run
  | true =>
    rw [if_pos rfl]
    refine ⟨hdL hd D, s2, c3, ?_⟩
    cases ee : ev call lamc actf elt s2 with
    | bad => simp only [lcBody, et, Out.bind, ee, if_true] at run; cases run
    | exc _ _ => simp only [lcBody, et, Out.bind, ee, if_true] at run; cases run
    | ok rv s3 =>
    intro y H4 fr4 le4 r4
    obtain ⟨c4, r4⟩ := r4.drop
    simp only [lcBody, et, Out.bind, ee, if_true] at run
    obtain ⟨v, frv⟩ := rv
    cases v with
    | dat d' =>
      have hD4 : H4 D = some (.lst xs) := fr4.keep D _ hD3 (fun z => pD c3 z) fun _ z => by cases z
      have rD4 : RpA g.K H4 (Bz (hdL hd D) σ2 s3.ρ) xs acc := RpA.on fr4 le4 rD3
      refine ⟨xs, hD4, by rw [rD4.length, sizeLine_eq]; omega, ?_⟩
      have r4 : Rp g.K H4 (Bz (hdL hd D) σ2 s3.ρ) y d' := r4
      have c5 := c4.updZ (o := .lst (xs ++ [y])) (.inr rfl) hD4 trivial trivial hp
      have frs : Fr (Bz (hdL hd D) σ2 s3.ρ) H4 (upd H4 D (.lst (xs ++ [y]))) := Fr.set hD4 (.inr (.inr rfl))
      refine hn (acc ++ [d']) _ _ (fin c5 ?_ (fun a z => le3 a (le4 a z)) upd_same ((rD4.append (.cons r4 .nil)).stay frs fun a z => .inl z) (by rw [List.length_append]; simp; omega)) run
      refine (fr3'.trans (fr4.mono fun a z => .inl z) fun a z => .inl (.inl (le3 a z))).trans (B' := fun a => a = D) ?_ fun a z => .inl (.inr z)
      exact Fr.set hD4 rfl
    | _ => simp only at run; cases run

theorem lcLoop_exc {body : S → Out (Option PD)} {c : Nat} {h : Option (List PD)} : ∀ {ds acc : List PD} {s : S}, lcLoop body tg own ds acc s ≠ .exc c h
  | [], acc, s => fun e => by cases e
  | d :: ds, acc, s => fun e => by
    rw [lcLoop] at e
    split at e
    · cases e
    · split at e
      · exact lcLoop_exc e
      · exact lcLoop_exc e
      · cases e
theorem noOwn_of {ρ : List Slot} {j : Nat} {d : PD} (h : own.all (noOwnAt ρ) = true) (hj : j ∈ own) : ρ[j]? ≠ some (Slot.own d) := fun e => by
  have q := List.all_eq_true.mp h j hj
  unfold noOwnAt at q
  rw [e] at q
  cases q
/-- behind the comprehension -/
theorem lc_end {s1 : S} {H1 H : Hp} (c1 : Cl g hd σ s1 H1) (hown : own.all (noOwnAt s1.ρ) = true) (hD : H1 D = none) (inv : LcInv g hd (wipe σ own) (wipeS s1.ρ own) (upd H1 D (.lst [])) D ds.length ys s' H) :
    Fr (Av hd σ s1.ρ) H1 H ∧ AvLe hd σ (unwipe s1.ρ s'.ρ own) s1.ρ ∧ RE g hd σ H1 ⟨.dat (.list ys), true⟩ (.ref D) { s' with ρ := unwipe s1.ρ s'.ρ own } H := by
  obtain ⟨c2, le2⟩ := c1.wiped (own := own) (σ := σ) rfl fun _ _ => rfl
  have frD : Fr (fun a => Av hd σ s1.ρ a ∨ a = D) H1 H := (Fr.new (B := fun a => Av hd σ s1.ρ a ∨ a = D) hD).trans inv.fr fun a z => .inl (z.imp (le2 a) id)
  have fr : Fr (Av hd σ s1.ρ) H1 H := frD.mono fun a z => z.imp id fun e => by rw [e]; exact nn hD
  have ow : ∀ (j : Nat) (d : PD), (unwipe s1.ρ s'.ρ own)[j]? = some (Slot.own d) → s'.ρ[j]? = some (Slot.own d) ∧ (wipe σ own)[j]? = σ[j]? := fun j d e => by
    rw [unwipe_get] at e
    split at e
    · rename_i hj
      split at e
      · cases e1 : s1.ρ[j]? with
        | none => rw [e1] at e; cases e
        | some x =>
          rw [e1] at e
          cases e
          exact absurd e1 (noOwn_of hown hj)
      · cases e
    · rename_i hj
      exact ⟨e, by rw [wipe_get, if_neg hj]⟩
  have le' : ∀ a, Av hd σ (unwipe s1.ρ s'.ρ own) a → Av hd (wipe σ own) s'.ρ a := fun a z => z.imp id fun ⟨j, d, h1, h2⟩ => by
    obtain ⟨q1, q2⟩ := ow j d h1
    exact ⟨j, d, q1, by rw [q2]; exact h2⟩
  have leA : AvLe hd σ (unwipe s1.ρ s'.ρ own) s1.ρ := fun a z => le2 a (inv.le a (le' a z))
  have hB : ∀ a, (Bz hd σ (unwipe s1.ρ s'.ρ own) a ∨ a = D) → Bz (hdL hd D) (wipe σ own) s'.ρ a := fun a z => z.elim (fun z => z.elim (fun z => .inl (le' a z)) fun z => .inr (.inl z)) fun z => .inr (.inr z)
  refine ⟨fr, leA, .inr ⟨rfl, D, _, rfl, rfl, nn hD, fun z => c1.fresh hD (z.imp (leA D) id), ?_, ?_⟩⟩
  · refine ⟨?_, fun a z => .inl (.inl z), fun a z => inv.cl.mu a (hB a z), fun j v e => ?_, fun j d e => ?_, fun i j d e a h1 h2 h3 h4 => ?_, handAt_hd (hd := hdL hd D) rfl (HandAt.less inv.cl.hand hB), inv.cl.tabs⟩
    · rw [unwipe_length, inv.cl.len, wipe_length]
    · have e0 := e
      rw [unwipe_get] at e
      split at e
      · rename_i hj
        split at e
        · cases e1 : s1.ρ[j]? with
          | none => rw [e1] at e; cases e
          | some x =>
            rw [e1] at e
            cases e
            obtain ⟨x, q1, q2⟩ := c1.vals j v e1
            exact ⟨x, q1, q2.stay (fr.mono fun a z => .inl (.inl z)) fun a z => z.elim (fun z => .inl (z.imp (leA a) id)) fun z => .inr (by rw [z]; exact nn hD)⟩
        · cases e
      · rename_i hj
        obtain ⟨x, q1, q2⟩ := inv.cl.vals j v e
        refine ⟨x, ?_, rpV_hd (hd := hdL hd D) rfl (rpV_less hB q2)⟩
        rw [wipe_get, if_neg hj] at q1
        exact q1
    · obtain ⟨q1, q2⟩ := ow j d e
      obtain ⟨a, h1, h2, h3, h4⟩ := inv.cl.owns j d q1
      exact ⟨a, by rw [← q2]; exact h1, h2.stay (Fr.refl _ _) (fun a z => .inl (hB a z)) (fun _ z => z), h3, fun z => h4 (.inl z)⟩
    · obtain ⟨q1, q2⟩ := ow i d h1
      obtain ⟨q3, q4⟩ := ow j e h2
      exact inv.cl.apart i j d e a q1 q3 (by rw [q2]; exact h3) (by rw [q4]; exact h4)
  · obtain ⟨xs, q1, q2⟩ := inv.at'
    exact ⟨xs, q1, q2.stay (Fr.refl _ _) fun a z => .inl (hB a z)⟩
variable {W : WX} {src : IR}
theorem lc_imp (htg : ∀ j, j ∈ tgIx tg → j ∈ own) (σ : L2.St) (H : Hp) (Q : VK) : tEv g call lamc actf W (.lc elt tg src ifs own) σ H Q →
    tLc (tSrc g call lamc actf W src) (gTgt g.K tg) (tTst g call lamc actf W0 ifs) (tEv g call lamc actf W0 elt) own σ H Q := fun ⟨hd, s, c, post⟩ => by
  rw [ev] at post
  refine ⟨hd, s, c, post.bind RE.up fun ds s1 J H1 fr1 le1 ⟨c1, sr⟩ post1 => fun D hD => ?_⟩
  split at post1
  · rename_i hcond
    rw [Bool.and_eq_true, decide_eq_true_eq] at hcond
    obtain ⟨hown, hlen⟩ := hcond
    have post1 : Post g W hd σ s1 H1 (RE g hd σ) ((lcLoop (lcBody call lamc actf ifs elt) tg own ds [] { s1 with ρ := wipeS s1.ρ own }).bind fun ys s' => .ok (rvD (.list ys) true) { s' with ρ := unwipe s1.ρ s'.ρ own }) Q := post1
    cases run : lcLoop (lcBody call lamc actf ifs elt) tg own ds [] { s1 with ρ := wipeS s1.ρ own } with
    | bad => rw [run] at post1; exact post1.elim
    | exc n h => exact (lcLoop_exc run).elim
    | ok ys s' =>
    rw [run] at post1
    have post1 : Post g W hd σ s1 H1 (RE g hd σ) (.ok (rvD (.list ys) true) { s' with ρ := unwipe s1.ρ s'.ρ own }) Q := post1
    obtain ⟨c2, le2⟩ := c1.wiped (own := own) (σ := σ) rfl fun _ _ => rfl
    have hp : hd.p ≠ some D := fun e => c1.fresh hD (.inl (.inl e))
    obtain ⟨G, Y, w, stab, yl⟩ := sr.ex
    have ext : ∀ {i : Nat} {acc : List PD} {s : S} {H : Hp}, LcInv g hd (wipe σ own) (wipeS s1.ρ own) (upd H1 D (.lst [])) D i acc s H → Fr (fun a => Av hd (wipe σ own) (wipeS s1.ρ own) a ∨ a = D) H1 H := fun inv => (Fr.new hD).trans inv.fr fun a z => .inl z
    have extB : ∀ a, (Av hd (wipe σ own) (wipeS s1.ρ own) a ∨ a = D) → Bz hd σ s1.ρ a ∨ Nn H1 a := fun a z => z.imp (fun z => .inl (le2 a z)) fun e => by rw [e]; exact nn hD
    refine lc_it w (fun i H => ∃ acc s, LcInv g hd (wipe σ own) (wipeS s1.ρ own) (upd H1 D (.lst [])) D i acc s H ∧ lcLoop (lcBody call lamc actf ifs elt) tg own (ds.drop i) acc s = .ok ys s') ⟨[], _, ?_, run⟩ ?_ ?_ ?_
    · have c3 : Ok g hd (fun b => Bz hd (wipe σ own) (wipeS s1.ρ own) b ∨ b = D) (wipe σ own) { s1 with ρ := wipeS s1.ρ own } (upd H1 D (.lst [])) := c2.new hD (fun _ z => .inl z) fun a z => z.imp id fun e => ⟨e, trivial⟩
      refine ⟨c3.amb (fun a z => z.elim (fun z => .inl (.inl z)) fun z => z.imp .inr id) fun a i d h1 h2 z => ?_, Fr.refl _ _, fun _ z => z, ⟨[], upd_same, .nil⟩, Nat.le_refl _⟩
      rcases z with z | z
      · obtain ⟨b, q1, _, _, q4⟩ := c2.owns i d h1
        rw [h2] at q1
        cases q1
        exact q4 z
      · subst z
        exact c2.fresh hD (.inl (.inr ⟨i, d, h1, h2⟩))
    · rintro i H hi ⟨acc, s, inv, r⟩
      exact stab _ _ (ext inv) extB
    · rintro i x H H' hi ⟨acc, s, inv, r⟩ y
      obtain ⟨hx, d, ed, hr⟩ := yl _ i H x H' (ext inv) extB hi y
      have edrop : ds.drop i = d :: ds.drop (i + 1) := by
        rw [List.drop_eq_getElem_cons hi]
        congr 1
        rw [List.getElem?_eq_getElem hi] at ed
        exact Option.some.inj ed
      rw [edrop] at r
      refine lc_turn hp inv (by omega) hx (fun B2 hB2 => hr B2 (fun a z => ?_) fun a z e => ?_) r htg fun acc' s2 H2 inv2 r2 => ⟨acc', s2, inv2, r2⟩
      · rcases hB2 a z with z | z | z
        · exact .inl (.inl (le2 a (inv.le a z)))
        · exact .inl (.inr z)
        · exact .inr (by rw [z]; exact nn hD)
      · obtain ⟨o, q, _⟩ := inv.cl.mu a (hB2 a z)
        rw [e] at q
        cases q
    · rintro H ⟨acc, s, inv, r⟩
      rw [List.drop_eq_nil_of_le (Nat.le_refl _)] at r
      cases r
      obtain ⟨f1, f2, f3⟩ := lc_end c1 hown hD inv
      exact post1.here rfl f1 f2 f3
  · exact post1.elim
end
end Pev
set_option maxRecDepth 100000
set_option autoImplicit false
/-! Pev, soundness 14: statements. -/
namespace Pev
open PySem PySem.Spec PyProof.Rows L2
open LamX (Tabs TabS CodeO)

/-- the shared list may have been made -/
structure PLe (H0 : Hp) (hd hd' : Dy) : Prop where
  Z : hd'.Z = hd.Z
  p : hd'.p = hd.p ∨ (hd.p = none ∧ ∀ a, hd'.p = some a → Nn H0 a)
theorem PLe.refl {H0 : Hp} {hd : Dy} : PLe H0 hd hd := ⟨rfl, .inl rfl⟩
theorem PLe.trans {H0 H1 : Hp} {a b c : Dy} (x : PLe H0 a b) (y : PLe H1 b c) (dom : ∀ p, Nn H1 p → Nn H0 p) : PLe H0 a c := by
  refine ⟨y.Z.trans x.Z, ?_⟩
  rcases x.p with e | ⟨e, q⟩
  · rcases y.p with e2 | ⟨e2, q2⟩
    · exact .inl (e2.trans e)
    · exact .inr ⟨by rw [← e]; exact e2, fun p hp => dom p (q2 p hp)⟩
  · rcases y.p with e2 | ⟨e2, q2⟩
    · exact .inr ⟨e, fun p hp => q p (by rw [← e2]; exact hp)⟩
    · exact .inr ⟨e, fun p hp => dom p (q2 p hp)⟩
def HLe (H0 : Hp) (hd : Dy) (σ : L2.St) (ρ : List Slot) (hd' : Dy) (σ' : L2.St) (ρ' : List Slot) : Prop := ∀ a, Av hd' σ' ρ' a → Av hd σ ρ a ∨ Nn H0 a
/-- what is returned: a value, or a thing that nobody else holds -/
def RT (g : Gh) (hd : Dy) (own : Addr → Prop) (h : Option (List PD)) (H : Hp) (rv : RV) (x : V) : Prop :=
  (rv.fr = false ∧ HandAt g hd (B0 hd) h H ∧ RpV g hd H (B0 hd) x rv.v) ∨
  (rv.fr = true ∧ ∃ a d, x = .ref a ∧ rv.v = .dat d ∧ own a ∧ ¬ B0 hd a ∧ (∃ o, H a = some o ∧ isMu o) ∧ HandAt g hd (fun b => B0 hd b ∨ b = a) h H ∧ At g.K H (fun b => B0 hd b ∨ b = a) a d)
/-- a def's result, at its own end -/
def PostS (g : Gh) (W : WX) (hd : Dy) (σ : L2.St) (s0 : S) (H0 : Hp) (D : Ends) : SOut → Prop
  | .nxt s => ∀ hd' σ' H, PLe H0 hd hd' → Fr (Av hd σ s0.ρ) H0 H → HLe H0 hd σ s0.ρ hd' σ' s.ρ → Cl g hd' σ' s H → D.nx σ' H
  | .ret rv s => ∀ hd' x H, PLe H0 hd hd' → Fr (Av hd σ s0.ρ) H0 H → Tabs g.T H → RT g hd' (fun a => Av hd σ s0.ρ a ∨ Nn H0 a) s.h H rv x → D.rt x H
  | .exc c h => ∀ hd' σ' H, PLe H0 hd hd' → Fr (Av hd σ s0.ρ) H0 H → HandAt g hd' (fun a => hd'.p = some a ∨ hd'.Z a) h H → Tabs g.T H → W (.ref (g.C c)) none σ' H
  | .bad => False
section
variable {g : Gh} {W : WX} {hd hd1 : Dy} {σ σ1 : L2.St} {s0 s1 : S} {H0 H1 : Hp} {D : Ends}
theorem HLe.trans {hd2 : Dy} {σ2 : L2.St} {ρ0 ρ1 ρ2 : List Slot} (x : HLe H0 hd σ ρ0 hd1 σ1 ρ1) (y : HLe H1 hd1 σ1 ρ1 hd2 σ2 ρ2) (dom : ∀ p, Nn H1 p → Nn H0 p) : HLe H0 hd σ ρ0 hd2 σ2 ρ2 :=
  fun a z => (y a z).elim (x a) fun q => .inr (dom a q)
theorem PostS.shift {o : SOut} (h : PostS g W hd σ s0 H0 D o) (fr : Fr (Av hd σ s0.ρ) H0 H1) (le : HLe H0 hd σ s0.ρ hd1 σ1 s1.ρ) (pl : PLe H0 hd hd1) : PostS g W hd1 σ1 s1 H1 D o := by
  cases o with
  | bad => exact h
  | nxt s => exact fun hd' σ' H pl2 fr2 le2 c => h hd' σ' H (pl.trans pl2 fr.dom) (fr.trans fr2 le) (le.trans le2 fr.dom) c
  | ret rv s => exact fun hd' x H pl2 fr2 tb r => h hd' x H (pl.trans pl2 fr.dom) (fr.trans fr2 le) tb (r.imp id fun ⟨e, a, d, h1, h2, h3, h4⟩ => ⟨e, a, d, h1, h2, h3.elim (le a) fun z => .inr (fr.dom a z), h4⟩)
  | exc c hh => exact fun hd' σ' H pl2 fr2 h2 tb => h hd' σ' H (pl.trans pl2 fr.dom) (fr.trans fr2 le) h2 tb
theorem b0_of {hd : Dy} {σ : L2.St} {ρ : List Slot} (a : Addr) (z : B0 hd a) : Bz hd σ ρ a := z.imp .inl id
theorem RE.rt {s : S} {H : Hp} {rv : RV} {x : V} {own : Addr → Prop} (r : RE g hd σ H0 rv x s H) (ho : ∀ a, Nn H0 a → own a) : Tabs g.T H ∧ RT g hd own s.h H rv x := by
  rcases r with ⟨e, c, r⟩ | ⟨e, p, d, rfl, ev, hp, n, ok, at'⟩
  · exact ⟨c.tabs, .inl ⟨e, HandAt.less c.hand b0_of, rpV_less b0_of r⟩⟩
  · have hB : ∀ b, (B0 hd b ∨ b = p) → (Bz hd σ s.ρ b ∨ b = p) := fun b z => z.imp (b0_of b) id
    exact ⟨ok.tabs, .inr ⟨e, p, d, rfl, ev, ho p hp, fun z => n (b0_of p z), ok.mu p (.inr rfl), HandAt.less ok.hand hB, at'.stay (Fr.refl _ _) (fun b z => .inl (hB b z)) fun _ z => z⟩⟩
/-- an expression ahead -/
theorem PostS.bind {α β : Type} {R : Rel α β} {o : Out α} {f : α → S → SOut} {Q : β → Hp → Prop} (h : PostS g W hd σ s0 H0 D (o.bindS f))
    (k : ∀ a s1 b H1, Fr (Av hd σ s0.ρ) H0 H1 → AvLe hd σ s1.ρ s0.ρ → R H0 a b s1 H1 → PostS g W hd σ s1 H1 D (f a s1) → Q b H1) : Post g W hd σ s0 H0 R o Q := by
  cases o with
  | bad => exact h.elim
  | exc c x => exact fun H fr hh tb => h hd σ H PLe.refl fr hh tb
  | ok a s1 =>
    intro b H1 fr le r
    exact k a s1 b H1 fr le r (PostS.shift (show PostS g W hd σ s0 H0 D (f a s1) from h) fr (fun a z => .inl (le a z)) PLe.refl)
/-- the same, seen from the start -/
theorem PostS.bind0 {α β : Type} {R : Rel α β} {o : Out α} {f : α → S → SOut} {Q : β → Hp → Prop} (h : PostS g W hd σ s0 H0 D (o.bindS f))
    (k : ∀ a s1 b H1, Fr (Av hd σ s0.ρ) H0 H1 → AvLe hd σ s1.ρ s0.ρ → R H0 a b s1 H1 → PostS g W hd σ s0 H0 D (f a s1) → Q b H1) : Post g W hd σ s0 H0 R o Q := by
  cases o with
  | bad => exact h.elim
  | exc c x => exact fun H fr hh tb => h hd σ H PLe.refl fr hh tb
  | ok a s1 => exact fun b H1 fr le r => k a s1 b H1 fr le r h
end
section
variable (g : Gh) (call : Calls) (lamc : Nat → (Option (List PD) → FO) → Option (List PD) → FO) (actf : Option (List PD) → FO) (wf : Nat) (W : WX)
def tS (i : IS) : TS := fun D σ H => ∃ hd s, Cl g hd σ s H ∧ PostS g W hd σ s H D (evS call lamc actf wf i s)
def tSs (b : IB) : TS := fun D σ H => ∃ hd s, Cl g hd σ s H ∧ PostS g W hd σ s H D (evB call lamc actf wf b s)
end
section
variable {X : Cx} {g : Gh} {call : Calls} {lamc : Nat → (Option (List PD) → FO) → Option (List PD) → FO} {actf : Option (List PD) → FO} {wf : Nat} {W : WX}
  {e a b c : Expr} {ia ib ic ie : IE} {pos p2 p : Pos} {st : Stmt} {sts sts2 : List Stmt} {ist : IS} {ibl ibl2 : IB} {it : IT}
theorem PS.imp {t t' : TS} (h : PS X st t) (q : ∀ D σ H, t' D σ H → t D σ H) : PS X st t' := ⟨fun pins s σ H D I hw => h.run pins s σ H D I (q D σ H hw)⟩
theorem PSs.imp {t t' : TS} (h : PSs X sts t) (q : ∀ D σ H, t' D σ H → t D σ H) : PSs X sts t' := ⟨fun pins s σ H D I hw => h.run pins s σ H D I (q D σ H hw)⟩
theorem q_nil : PSs X [] (tSs g call lamc actf wf W .nil) := PSs.imp pss_nil fun D σ H ⟨hd, s, c, post⟩ => by
  rw [evB] at post
  exact post hd σ H PLe.refl (Fr.refl _ _) (fun _ z => .inl z) c
theorem q_cons (h1 : PS X st (tS g call lamc actf wf W ist)) (h2 : PSs X sts (tSs g call lamc actf wf W ibl)) : PSs X (st :: sts) (tSs g call lamc actf wf W (.cons ist ibl)) := PSs.imp (pss_cons h1 h2) fun D σ H ⟨hd, s, c, post⟩ => by
  rw [evB] at post
  refine ⟨hd, s, c, ?_⟩
  cases e : evS call lamc actf wf ist s with
  | bad => rw [e] at post; exact post
  | exc n h => rw [e] at post; exact post
  | ret rv s1 => rw [e] at post; exact post
  | nxt s1 =>
    rw [e] at post
    exact fun hd' σ' H' pl fr le c' => ⟨hd', s1, c', PostS.shift (show PostS g W hd σ s H D (evB call lamc actf wf ibl s1) from post) fr le pl⟩

/-! ### a value into a slot -/
section
variable {hd : Dy} {σ : L2.St} {s : S} {H H0 : Hp}
theorem Cl.setO {B : Addr → Prop} {i : Nat} {p : Addr} {d : PD} (ok : Ok g hd B σ s H) (hB : ∀ a, B a → Bz hd σ s.ρ a ∨ a = p) (hB2 : ∀ a, (Bz hd σ s.ρ a ∨ a = p) → B a) (n : ¬ Bz hd σ s.ρ p) (at' : At g.K H B p d) :
    Cl g hd (σ.set i (some (.ref p))) { s with ρ := s.ρ.set i (.own d) } H ∧ ∀ a, Av hd (σ.set i (some (.ref p))) (s.ρ.set i (.own d)) a → Av hd σ s.ρ a ∨ a = p := by
  have lst : ∀ (j : Nat) (x : Slot), (s.ρ.set i (.own d))[j]? = some x → (j = i ∧ x = .own d ∧ (σ.set i (some (V.ref p)))[j]? = some (some (V.ref p))) ∨ (j ≠ i ∧ s.ρ[j]? = some x ∧ (σ.set i (some (V.ref p)))[j]? = σ[j]?) := fun j x e => by
    rw [List.getElem?_set] at e
    split at e
    · rename_i e1
      subst e1
      split at e
      · rename_i hl
        cases e
        exact .inl ⟨rfl, rfl, by rw [List.getElem?_set_self (by rw [← ok.len]; exact hl)]⟩
      · cases e
    · rename_i ne
      exact .inr ⟨fun z => ne z.symm, e, by rw [List.getElem?_set_ne ne]⟩
  have le : ∀ a, Av hd (σ.set i (some (.ref p))) (s.ρ.set i (.own d)) a → Av hd σ s.ρ a ∨ a = p := fun a z => by
    rcases z with z | ⟨j, d', h1, h2⟩
    · exact .inl (.inl z)
    · rcases lst j _ h1 with ⟨_, _, q⟩ | ⟨_, q1, q2⟩
      · rw [q] at h2
        cases h2
        exact .inr rfl
      · exact .inl (.inr ⟨j, d', q1, by rw [← q2]; exact h2⟩)
  have leB : ∀ a, Bz hd (σ.set i (some (.ref p))) (s.ρ.set i (.own d)) a → B a := fun a z => hB2 a (z.elim (fun z => (le a z).imp .inl id) fun z => .inl (.inr z))
  have frB : Fr B H H := Fr.refl _ _
  refine ⟨⟨by rw [List.length_set, List.length_set]; exact ok.len, fun a z => .inl z, fun a z => ok.mu a (leB a z), fun j v e => ?_, fun j d' e => ?_, fun j k d1 d2 a h1 h2 h3 h4 => ?_, HandAt.less ok.hand leB, ok.tabs⟩, le⟩
  · rcases lst j _ e with ⟨_, q, _⟩ | ⟨_, q1, q2⟩
    · cases q
    · obtain ⟨x, r1, r2⟩ := ok.vals j v q1
      exact ⟨x, by rw [q2]; exact r1, rpV_less leB r2⟩
  · rcases lst j _ e with ⟨_, q, q3⟩ | ⟨_, q1, q2⟩
    · cases q
      exact ⟨p, q3, at'.stay frB (fun a z => .inl (leB a z)) (fun _ z => z), fun z => n (.inl (.inl z)), fun z => n (.inr z)⟩
    · obtain ⟨a, r1, r2, r3⟩ := ok.owns j d' q1
      exact ⟨a, by rw [q2]; exact r1, r2.stay frB (fun a z => .inl (leB a z)) (fun _ z => z), r3⟩
  · rcases lst j _ h1 with ⟨e1, _, q1⟩ | ⟨e1, q1, q2⟩
    · rcases lst k _ h2 with ⟨e2, _, _⟩ | ⟨_, q3, q4⟩
      · rw [e1, e2]
      · rw [q1] at h3
        cases h3
        exact (n (.inl (.inr ⟨k, d2, q3, by rw [← q4]; exact h4⟩))).elim
    · rcases lst k _ h2 with ⟨_, _, q3⟩ | ⟨_, q3, q4⟩
      · rw [q3] at h4
        cases h4
        exact (n (.inl (.inr ⟨j, d1, q1, by rw [← q2]; exact h3⟩))).elim
      · exact ok.apart j k d1 d2 a q1 q3 (by rw [← q2]; exact h3) (by rw [← q4]; exact h4)
theorem store_re {i : Nat} {rv : RV} {x : V} (r : RE g hd σ H0 rv x s H) : Cl g hd (σ.set i (some x)) (store i rv s) H ∧ HLe H0 hd σ s.ρ hd (σ.set i (some x)) (store i rv s).ρ := by
  rcases r with ⟨e, c, r⟩ | ⟨e, p, d, rfl, ev, hp, n, ok, at'⟩
  · obtain ⟨v, fr⟩ := rv
    cases e
    obtain ⟨c1, le1⟩ := c.setV (i := i) r
    exact ⟨by cases v <;> exact c1, fun a z => .inl (le1 a (by cases v <;> exact z))⟩
  · obtain ⟨v, fr⟩ := rv
    cases e
    cases ev
    obtain ⟨c1, le1⟩ := Cl.setO (i := i) ok (fun _ z => z) (fun _ z => z) n at'
    exact ⟨c1, fun a z => (le1 a z).imp id fun e => by rw [e]; exact hp⟩
end
/-! ### stores -/
theorem q_set {i : Nat} {x : Str} {pos' : Pos} (hN : X.N.Nodup) (hi : X.N[i]? = some x) (hx : Loc X.env.scope x) (h : PE X e (tEv g call lamc actf W ie)) (hs : swapsWith e (some (.Name x pos')) pos.line X.env = pure false) (hf : X.fn x = true ∨ X.env.scope.names.lookup x = some .local) :
    PS X (.Assign [.Name x pos'] e pos) (tS g call lamc actf wf W (.asg (.nm i) ie)) := PS.imp (ps_set hN hi hx h hs hf) fun D σ H ⟨hd, s, c, post⟩ => by
  rw [evS] at post
  refine ⟨hd, s, c, post.bind0 fun rv s1 x H1 fr le r post1 => ?_⟩
  obtain ⟨c1, l1⟩ := store_re (i := i) r
  exact post1 hd _ H1 PLe.refl fr (fun a z => (l1 a z).imp (le a) id) c1
theorem q_tup {tgE : Expr} {is : List Nat} (hK : X.K = g.K) (h : PE X e (tEv g call lamc actf W ie)) (hg : PG X tgE (gTgt X.K (.tp is))) (hs : swapsWithSole [tgE] e pos.line X.env = pure false) (hw : swappedStores [tgE] e X.env = pure none) (h1 : (assignEach [tgE] X.env).map (·.2) = [assign tgE X.env]) :
    PS X (.Assign [tgE] e pos) (tS g call lamc actf wf W (.asg (.tp is) ie)) := PS.imp (ps_asg h hg hs hw h1) fun D σ H ⟨hd, s, c, post⟩ => by
  rw [evS] at post
  refine ⟨hd, s, c, post.bind fun rv s1 x H1 fr le r post1 => ?_⟩
  obtain ⟨c1, r1⟩ := r.drop
  rw [hK]
  split at post1
  · rename_i d e1
    rw [e1] at r1
    split at post1
    · rename_i s2 e2
      exact tgt_run c1 r1 e2 fun σ2 c2 le2 l2 st2 => post1 hd σ2 H1 PLe.refl (Fr.refl _ _) (fun a z => .inl (le2 a z)) c2
    · exact post1.elim
  · exact post1.elim
theorem q_exp (h : PE X e (tEv g call lamc actf W ie)) (hs : swapsWith e none pos.line X.env = pure false) : PS X (.Expr e pos) (tS g call lamc actf wf W (.exp ie)) := PS.imp (ps_expr h hs) fun D σ H ⟨hd, s, c, post⟩ => by
  rw [evS] at post
  exact ⟨hd, s, c, post.bind fun rv s1 x H1 fr le r post1 => post1 hd σ H1 PLe.refl (Fr.refl _ _) (fun a z => .inl z) r.drop.1⟩
theorem q_if {sa sb : List Stmt} (hc : PT X c (tTst g call lamc actf W it)) (ha : PSs X sa (tSs g call lamc actf wf W ibl)) (hb : PSs X sb (tSs g call lamc actf wf W ibl2)) : PS X (.If c sa sb pos) (tS g call lamc actf wf W (.ifs it ibl ibl2)) :=
  PS.imp (ps_if hc ha hb) fun D σ H ⟨hd, s, cl, post⟩ => by
    rw [evS] at post
    refine ⟨hd, s, cl, post.bind fun t s1 t' H1 fr le ⟨c1, e1⟩ post1 => ?_⟩
    subst e1
    cases t with
    | true => exact ⟨hd, s1, c1, post1⟩
    | false => exact ⟨hd, s1, c1, post1⟩
/-! ### return -/
theorem ret_eq {r : Out RV} {s : S} (h : notVar ie = true) : retv ie r s = r.bindS fun x s => .ret x s := by
  cases ie <;> first | rfl | cases h
theorem q_ret (hn : notVar ie = true) (h : PE X e (tEv g call lamc actf W ie)) : PS X (.Return (some e) pos) (tS g call lamc actf wf W (.ret ie)) := PS.imp (ps_ret h) fun D σ H ⟨hd, s, c, post⟩ => by
  rw [evS, ret_eq hn] at post
  refine ⟨hd, s, c, post.bind0 fun rv s1 x H1 fr le r post1 => ?_⟩
  obtain ⟨tb, rt⟩ := r.rt (own := fun a => Av hd σ s.ρ a ∨ Nn H a) fun a z => .inr z
  exact post1 hd x H1 PLe.refl fr tb rt
/-- a name: what it owns goes out -/
theorem q_retV {i : Nat} (h : PE X e (tVar i)) : PS X (.Return (some e) pos) (tS g call lamc actf wf W (.ret (.var i))) := PS.imp (ps_ret h) fun D σ H ⟨hd, s, c, post⟩ => by
  rw [evS] at post
  simp only [retv] at post
  split at post
  · rename_i d e1
    obtain ⟨p, h1, h2, h3, h4⟩ := c.owns i d e1
    have pB : Bz hd σ s.ρ p := .inl (.inr ⟨i, d, e1, h1⟩)
    have hB : ∀ b, (B0 hd b ∨ b = p) → Bz hd σ s.ρ b := fun b z => z.elim (b0_of b) fun e => by rw [e]; exact pB
    exact ⟨_, h1, post hd _ H PLe.refl (Fr.refl _ _) c.tabs (.inr ⟨rfl, p, d, rfl, rfl, .inl (.inr ⟨i, d, e1, h1⟩), fun z => z.elim h3 h4, c.mu p pB, HandAt.less c.hand hB, h2.stay (Fr.refl _ _) (fun b z => .inl (hB b z)) fun _ z => z⟩)⟩
  · rename_i v e1
    obtain ⟨x, h1, h2⟩ := c.vals i v e1
    exact ⟨x, h1, post hd x H PLe.refl (Fr.refl _ _) c.tabs (.inl ⟨rfl, HandAt.less c.hand b0_of, rpV_less b0_of h2⟩)⟩
  · exact post.elim
end
end Pev
set_option maxRecDepth 100000
set_option autoImplicit false
/-! Pev: several values at once, some of them nobody else's. -/
namespace Pev
open PySem PySem.Spec PyProof.Rows L2
open LamX (Tabs TabS CodeO)
/-- set apart: these too -/
def Dy.more (hd : Dy) (ps : List Addr) : Dy := ⟨hd.p, fun b => hd.Z b ∨ b ∈ ps⟩
section
variable {g : Gh} {hd hd2 : Dy} {B : Addr → Prop} {σ : L2.St} {s : S} {H H0 H1 : Hp} {ps : List Addr}
theorem rpv_hd {x : V} {v : Val} (hp : hd2.p = hd.p) (r : RpV g hd H B x v) : RpV g hd2 H B x v := by
  cases v with
  | hnd => obtain ⟨a, e, q⟩ := r; exact ⟨a, by rw [hp]; exact e, q⟩
  | lmb => have r : g.la hd.p x H B := r; show g.la hd2.p x H B; rw [hp]; exact r
  | dat d => exact r
  | fn f => exact r
  | exn c => exact r
  | scr ns => exact r
theorem hand_hd {h : Option (List PD)} (hp : hd2.p = hd.p) (r : HandAt g hd B h H) : HandAt g hd2 B h H := by
  unfold HandAt at *
  rw [hp]
  exact r
theorem av_hd {ρ : List Slot} (hp : hd2.p = hd.p) (a : Addr) : Av hd2 σ ρ a ↔ Av hd σ ρ a := by
  unfold Av
  rw [hp]
theorem Ok.hdTo (ok : Ok g hd B σ s H) (hp : hd2.p = hd.p) (hz : ∀ (i : Nat) (d : PD) (a : Addr), s.ρ[i]? = some (Slot.own d) → σ[i]? = some (some (V.ref a)) → ¬ hd2.Z a) : Ok g hd2 B σ s H := by
  refine ⟨ok.len, fun a z => ok.av a ((av_hd hp a).mp z), ok.mu, fun i v e => ?_, fun i d e => ?_, ok.apart, hand_hd hp ok.hand, ok.tabs⟩
  · obtain ⟨x, h1, h2⟩ := ok.vals i v e
    exact ⟨x, h1, rpv_hd hp h2⟩
  · obtain ⟨a, h1, h2, h3, h4⟩ := ok.owns i d e
    exact ⟨a, h1, h2, by rw [hp]; exact h3, hz i d a e h1⟩
theorem bz_more (a : Addr) : Bz (hd.more ps) σ s.ρ a ↔ Bz hd σ s.ρ a ∨ a ∈ ps := by
  unfold Bz
  rw [av_hd (hd2 := hd.more ps) (hd := hd) rfl]
  show _ ∨ (_ ∨ _) ↔ _
  rw [or_assoc]
theorem not_own (ok : Ok g hd B σ s H) {ps : List Addr} (n : ∀ p ∈ ps, ¬ Bz hd σ s.ρ p) : ∀ (i : Nat) (d : PD) (a : Addr), s.ρ[i]? = some (Slot.own d) → σ[i]? = some (some (V.ref a)) → ¬ (hd.more ps).Z a := by
  intro i d a e h z
  rcases z with z | z
  · obtain ⟨b, h1, _, _, h4⟩ := ok.owns i d e
    rw [h] at h1; cases h1
    exact h4 z
  · exact n a z (.inl (.inr ⟨i, d, e, h⟩))
/-- the values, each as it lies -/
inductive FrL (g : Gh) (hd : Dy) (H : Hp) (B : Addr → Prop) : List Addr → List RV → List V → Prop
  | nil : FrL g hd H B [] [] []
  | val {ps : List Addr} {rvs : List RV} {xs : List V} {v : Val} {x : V} : RpV g hd H B x v → FrL g hd H B ps rvs xs → FrL g hd H B ps (⟨v, false⟩ :: rvs) (x :: xs)
  | own {ps : List Addr} {rvs : List RV} {xs : List V} {p : Addr} {d : PD} : At g.K H B p d → FrL g hd H B ps rvs xs → FrL g hd H B (p :: ps) (⟨.dat d, true⟩ :: rvs) (.ref p :: xs)
theorem FrL.less {B' : Addr → Prop} {rvs : List RV} {xs : List V} (hp : hd2.p = hd.p) (hB : ∀ a, B' a → B a) (h : FrL g hd H B ps rvs xs) : FrL g hd2 H B' ps rvs xs := by
  induction h with
  | nil => exact .nil
  | val r _ ih => exact .val (rpv_hd hp (rpV_less hB r)) ih
  | own r _ ih => exact .own (r.stay (Fr.refl _ _) (fun a z => .inl (hB a z)) fun _ z => z) ih
theorem FrL.stay {rvs : List RV} {xs : List V} (fr : Fr B H H1) (hk : ∀ a o, H a = some o → H1 a = some o) (h : FrL g hd H B ps rvs xs) : FrL g hd H1 B ps rvs xs := by
  induction h with
  | nil => exact .nil
  | val r _ ih => exact .val (r.stay fr fun a z => .inl z) ih
  | own r _ ih => exact .own (r.stay fr (fun a z => .inl z) fun o e => hk _ o e) ih
theorem FrL.length {rvs : List RV} {xs : List V} (h : FrL g hd H B ps rvs xs) : rvs.length = xs.length := by
  induction h with
  | nil => rfl
  | val _ _ ih => rw [List.length_cons, List.length_cons, ih]
  | own _ _ ih => rw [List.length_cons, List.length_cons, ih]
def RF (g : Gh) (hd : Dy) (σ : L2.St) : Rel (List RV) (List V) := fun H0 rvs xs s H => ∃ ps : List Addr, ps.Nodup ∧ (∀ p ∈ ps, Nn H0 p ∧ ¬ Bz hd σ s.ρ p) ∧ Cl g (hd.more ps) σ s H ∧ FrL g hd H (Bz (hd.more ps) σ s.ρ) ps rvs xs
theorem RF.up : (RF g hd σ).Up := fun _ _ _ _ _ _ d ⟨ps, h1, h2, h3⟩ => ⟨ps, h1, fun p hp => ⟨d p (h2 p hp).1, (h2 p hp).2⟩, h3⟩
end
section
variable (g : Gh) (call : Calls) (lamc : Nat → (Option (List PD) → FO) → Option (List PD) → FO) (actf : Option (List PD) → FO) (W : WX)
def tRvs (es : IEs) : TA := fun σ H Q => ∃ hd s, Cl g hd σ s H ∧ Post g W hd σ s H (RF g hd σ) (rvals call lamc actf es s) Q
end
section
variable {X : Cx} {g : Gh} {call : Calls} {lamc : Nat → (Option (List PD) → FO) → Option (List PD) → FO} {actf : Option (List PD) → FO} {W : WX} {es : List Expr} {ies : IEs}
theorem a_rvals (h : SndA X g call lamc actf W es ies) : PA X es (tRvs g call lamc actf W ies) := by
  induction h with
  | nil =>
    exact PA.imp pa_nil fun σ H Q ⟨hd, s, c, post⟩ => by
      rw [rvals] at post
      refine post.here rfl (Fr.refl _ _) AvLe.refl ⟨[], List.nodup_nil, (fun _ z => by cases z), ?_, .nil⟩
      exact (Ok.hdTo c (hd2 := hd.more []) rfl (not_own c (fun _ z => by cases z))).less (fun a z => .inl z) fun a z => ((bz_more (s := s) a).mp z).elim id fun z => by cases z
  | @cons e0 ie0 es0 ies0 n h _ ih =>
    exact PA.imp (pa_cons h.ev ih (star_no n _ _)) fun σ H Q ⟨hd, s, c, post⟩ => by
      rw [rvals] at post
      refine ⟨hd, s, c, ?_⟩
      cases e1 : ev call lamc actf ie0 s with
      | bad => rw [e1] at post; exact post.elim
      | exc cc hh =>
        rw [e1] at post
        exact fun H1 fr1 hx tb => post H1 fr1 hx tb
      | ok x s1 =>
      rw [e1] at post
      intro v H1 fr1 le1 r1
      have post : Post g W hd σ s H (RF g hd σ) ((rvals call lamc actf ies0 s1).bind fun xs s => .ok (x :: xs) s) Q := post
      rcases r1 with ⟨e, c1, r1⟩ | ⟨e, p, d, rfl, ev', hp, np, ok, at'⟩
      · refine ⟨hd, s1, c1, ?_⟩
        cases e2 : rvals call lamc actf ies0 s1 with
        | bad => rw [e2] at post; exact post.elim
        | exc cc hh =>
          rw [e2] at post
          exact fun H2 fr2 hx tb => post H2 (fr1.trans fr2 fun a z => .inl (le1 a z)) hx tb
        | ok xs s2 =>
          rw [e2] at post
          intro vs H2 fr2 le2 r2
          obtain ⟨ps, nd, h2, c2, fl⟩ := r2
          obtain ⟨w, fr⟩ := x
          cases e
          refine post (_ :: vs) H2 (fr1.trans fr2 fun a z => .inl (le1 a z)) (fun a z => le1 a (le2 a z)) ⟨ps, nd, fun q hq => ⟨fr1.dom q (h2 q hq).1, (h2 q hq).2⟩, c2, .val ?_ fl⟩
          refine RpV.stay (fr_bz fr2) (fun a z => ?_) r1
          rcases (bz_more (s := s2) a).mp z with z | z
          · exact .inl (bz_le le2 a z)
          · exact .inr (h2 a z).1
      · have n1 : ∀ q ∈ [p], ¬ Bz hd σ s1.ρ q := fun q z => by
          rw [List.mem_singleton] at z
          rw [z]; exact np
        have c1 : Cl g (hd.more [p]) σ s1 H1 := (Ok.hdTo ok (hd2 := hd.more [p]) rfl (not_own ok n1)).less (fun a z => .inl z) fun a z => ((bz_more (s := s1) a).mp z).imp id fun z => by
          rw [List.mem_singleton] at z; exact z
        refine ⟨hd.more [p], s1, c1, ?_⟩
        cases e2 : rvals call lamc actf ies0 s1 with
        | bad => rw [e2] at post; exact post.elim
        | exc cc hh =>
          rw [e2] at post
          intro H2 fr hx tb
          exact post H2 (fr1.trans (fr.mono fun a z => .inl ((av_hd rfl a).mp z)) fun a z => .inl (le1 a z)) (HandAt.less (hand_hd (hd := hd.more [p]) (hd2 := hd) rfl hx) fun a z => z.imp id .inl) tb
        | ok xs s2 =>
          rw [e2] at post
          intro vs H2 fr2 le2 r2
          obtain ⟨ps, nd, h2, c2, fl⟩ := r2
          have fr2 : Fr (Av hd σ s1.ρ) H1 H2 := fr2.mono fun a z => .inl ((av_hd (hd2 := hd.more [p]) (hd := hd) rfl a).mpr z)
          have le2 : AvLe hd σ s2.ρ s1.ρ := fun a z => (av_hd rfl a).mp (le2 a ((av_hd (hd2 := hd.more [p]) (hd := hd) rfl a).mpr z))
          have np2 : ¬ Bz hd σ s2.ρ p := fun z => np (bz_le le2 p z)
          have pz : ∀ a, Bz ((hd.more [p]).more ps) σ s2.ρ a ↔ Bz (hd.more (p :: ps)) σ s2.ρ a := fun a => by
            rw [bz_more, bz_more, bz_more, List.mem_singleton, List.mem_cons, or_assoc]
          obtain ⟨w, fr⟩ := x
          cases e
          cases ev'
          refine post (_ :: vs) H2 (fr1.trans fr2 fun a z => .inl (le1 a z)) (fun a z => le1 a (le2 a z)) ⟨p :: ps, List.nodup_cons.mpr ⟨fun z => ?_, nd⟩, fun q hq => ?_, ?_, .own ?_ (FrL.less (hd := hd.more [p]) rfl (fun a z => (pz a).mpr z) fl)⟩
          · exact (h2 p z).2 ((bz_more (s := s2) p).mpr (.inr (List.mem_singleton.mpr rfl)))
          · rcases List.mem_cons.mp hq with e | hq
            · rw [e]; exact ⟨hp, np2⟩
            · exact ⟨fr1.dom q (h2 q hq).1, fun z => (h2 q hq).2 ((bz_more (s := s2) q).mpr (.inl z))⟩
          · refine (Ok.hdTo c2 (hd2 := hd.more (p :: ps)) rfl ?_).less (fun a z => .inl z) fun a z => (pz a).mpr z
            intro i d' a e1 e3 z
            obtain ⟨b, q1, _, _, q4⟩ := Ok.owns c2 i d' e1
            rw [e3] at q1; cases q1
            rcases z with z | z
            · exact q4 (.inl (.inl z))
            · rcases List.mem_cons.mp z with z | z
              · exact q4 (.inl (.inr (List.mem_singleton.mpr z)))
              · exact q4 (.inr z)
          · have na : ¬ Av hd σ s1.ρ p := fun z => np (.inl z)
            refine at'.stay (fr2.mono fun a z => .inl (.inl (.inl z))) (fun a z => ?_) fun o q => ?_
            · rcases (bz_more (s := s2) a).mp z with z | z
              · exact .inl (.inl (bz_le le2 a z))
              · rcases List.mem_cons.mp z with e | z
                · exact .inl (.inr e)
                · exact .inr (h2 a z).1
            · refine fr2.keep p o q na fun ps' e => ?_
              obtain ⟨u, q1, m⟩ := ok.mu p (.inr rfl)
              rw [q] at q1; cases q1
              rw [e] at m; exact m
end
end Pev
set_option maxRecDepth 100000
set_option autoImplicit false
/-! Pev, soundness 15: changes of lists and dicts. -/
namespace Pev
open PySem PySem.Spec PyProof.Rows L2
open LamX (Tabs TabS CodeO)

section
variable {g : Gh} {hd : Dy} {σ : L2.St} {s : S} {H : Hp}
theorem av_own {i : Nat} {c c' : PD} (e : s.ρ[i]? = some (Slot.own c)) (a : Addr) : Av hd σ (s.ρ.set i (.own c')) a ↔ Av hd σ s.ρ a := by
  have hl : i < s.ρ.length := (List.getElem?_eq_some_iff.mp e).1
  refine ⟨fun z => z.imp id fun ⟨j, d, h1, h2⟩ => ?_, fun z => z.imp id fun ⟨j, d, h1, h2⟩ => ?_⟩
  · rw [List.getElem?_set] at h1
    split at h1
    · rename_i e1; subst e1; exact ⟨i, c, e, h2⟩
    · exact ⟨j, d, h1, h2⟩
  · by_cases e1 : i = j
    · subst e1; exact ⟨i, c', List.getElem?_set_self hl, h2⟩
    · exact ⟨j, d, by rw [List.getElem?_set_ne e1]; exact h1, h2⟩
/-- what a slot owns changes -/
theorem Cl.updO {i : Nat} {c c' : PD} {p : Addr} {o : HO} (cl : Cl g hd σ s H) (e : s.ρ[i]? = some (Slot.own c)) (hp : σ[i]? = some (some (V.ref p))) (mo : isMu o) (at' : At g.K (upd H p o) (Bz hd σ s.ρ) p c') :
    Cl g hd σ { s with ρ := s.ρ.set i (.own c') } (upd H p o) ∧ Fr (Av hd σ s.ρ) H (upd H p o) := by
  obtain ⟨p', q1, q2, q3, q4⟩ := cl.owns i c e
  rw [hp] at q1
  cases q1
  have pA : Av hd σ s.ρ p := .inr ⟨i, c, e, hp⟩
  obtain ⟨u, hu, mu⟩ := cl.mu p (.inl pA)
  have frA : Fr (Av hd σ s.ρ) H (upd H p o) := Fr.set hu pA (fun ps z => by rw [z] at mo; exact mo)
  have fr : Fr (Bz hd σ s.ρ) H (upd H p o) := Fr.set hu (.inl pA) (fun ps z => by rw [z] at mo; exact mo)
  have leB : ∀ a, Bz hd σ (s.ρ.set i (.own c')) a → Bz hd σ s.ρ a := fun a z => z.imp (av_own e a).mp id
  have hB : ∀ a, Bz hd σ (s.ρ.set i (.own c')) a → Bz hd σ s.ρ a ∨ Nn H a := fun a z => .inl (leB a z)
  have hl : i < s.ρ.length := (List.getElem?_eq_some_iff.mp e).1
  have lst : ∀ (j : Nat) (x : Slot), (s.ρ.set i (.own c'))[j]? = some x → (j = i ∧ x = .own c') ∨ (j ≠ i ∧ s.ρ[j]? = some x) := fun j x h => by
    rw [List.getElem?_set] at h
    split at h
    · rename_i e1
      subst e1
      cases h
      exact .inl ⟨rfl, rfl⟩
    · rename_i ne
      exact .inr ⟨fun z => ne z.symm, h⟩
  refine ⟨⟨by rw [List.length_set]; exact cl.len, fun a z => .inl z, fun a z => ?_, fun j v h => ?_, fun j d h => ?_, fun j k d1 d2 a h1 h2 h3 h4 => ?_, HandAt.stay fr hB (fun a ha o' e' => ?_) cl.hand, tabs_upd cl.tabs hu mu⟩, frA⟩
  · by_cases h : a = p
    · subst h; exact ⟨o, upd_same, mo⟩
    · rw [upd_ne h]; exact cl.mu a (leB a z)
  · rcases lst j _ h with ⟨_, z⟩ | ⟨_, h⟩
    · cases z
    · obtain ⟨x, r1, r2⟩ := cl.vals j v h
      exact ⟨x, r1, r2.stay fr hB⟩
  · rcases lst j _ h with ⟨rfl, z⟩ | ⟨ne, h⟩
    · cases z
      exact ⟨p, hp, at'.stay (Fr.refl _ _) (fun a z => .inl (leB a z)) (fun _ z => z), q3, q4⟩
    · obtain ⟨a, r1, r2, r3, r4⟩ := cl.owns j d h
      refine ⟨a, r1, r2.stay fr hB (fun o' e' => ?_), r3, r4⟩
      rw [upd_ne (fun z => ne (cl.apart j i d c a h e r1 (by rw [z]; exact hp)))]
      exact e'
  · have f : ∀ (j : Nat) (d : PD), (s.ρ.set i (.own c'))[j]? = some (Slot.own d) → ∃ d', s.ρ[j]? = some (Slot.own d') := fun j d h => by
      rcases lst j _ h with ⟨rfl, z⟩ | ⟨_, h⟩
      · exact ⟨c, e⟩
      · exact ⟨d, h⟩
    obtain ⟨d1', h1'⟩ := f j d1 h1
    obtain ⟨d2', h2'⟩ := f k d2 h2
    exact cl.apart j k d1' d2' a h1' h2' h3 h4
  · rw [upd_ne (fun z => q3 (by rw [ha, z]))]
    exact e'
/-- the shared list changes -/
theorem Cl.updH {ds ds' : List PD} {p : Addr} {xs : List V} (cl : Cl g hd σ s H) (hp : hd.p = some p) (hs : s.h = some ds) (r : RpA g.K H (Bz hd σ s.ρ) xs ds') : Cl g hd σ { s with h := some ds' } (upd H p (.lst xs)) ∧ Fr (Av hd σ s.ρ) H (upd H p (.lst xs)) := by
  have pA : Av hd σ s.ρ p := .inl hp
  obtain ⟨u, hu, mu⟩ := cl.mu p (.inl pA)
  have frA : Fr (Av hd σ s.ρ) H (upd H p (.lst xs)) := Fr.set hu pA
  have fr : Fr (Bz hd σ s.ρ) H (upd H p (.lst xs)) := Fr.set hu (.inl pA)
  have hB : ∀ a, Bz hd σ s.ρ a → Bz hd σ s.ρ a ∨ Nn H a := fun a z => .inl z
  refine ⟨⟨cl.len, cl.av, fun a z => ?_, fun j v h => ?_, fun j d h => ?_, cl.apart, ?_, tabs_upd cl.tabs hu mu⟩, frA⟩
  · by_cases h : a = p
    · subst h; exact ⟨_, upd_same, trivial⟩
    · rw [upd_ne h]; exact cl.mu a z
  · obtain ⟨x, r1, r2⟩ := cl.vals j v h
    exact ⟨x, r1, r2.stay fr hB⟩
  · obtain ⟨a, r1, r2, r3, r4⟩ := cl.owns j d h
    refine ⟨a, r1, r2.stay fr hB (fun o' e' => ?_), r3, r4⟩
    rw [upd_ne (fun z => r3 (by rw [hp, z]))]
    exact e'
  · unfold HandAt
    rw [hp]
    exact ⟨xs, upd_same, r.stay fr hB⟩
end

section
variable {X : Cx} {g : Gh} {call : Calls} {lamc : Nat → (Option (List PD) → FO) → Option (List PD) → FO} {actf : Option (List PD) → FO} {wf : Nat} {W : WX}
  {e a b c : Expr} {ia ib ic ie ik : IE} {pos p2 p apos cpos : Pos}
/-! ### x[k] = e -/
def rSetA : TSet := fun o i v H Q => rSetL o i v H Q ∨ rSetD o i v H Q
theorem set_any (hu : X.A.units + 64 < cLine) : PSet X rSetA := by
  intro pins s σ H o i v ov iv u Q I ro ri rv h
  rcases h with h | h
  · exact set_list pins s σ H o i v ov iv u Q I ro ri rv h
  · exact set_dict (by omega) pins s σ H o i v ov iv u Q I ro ri rv h
def noSlE : Expr → Bool
  | .Slice _ _ _ _ => false
  | _ => true
theorem put_list {hd : Dy} {σ : L2.St} {s : S} {H : Hp} {xs : List V} {ds : List PD} {j : Int} {n : Nat} {v : V} {d : PD} (r : RpA g.K H (Bz hd σ s.ρ) xs ds) (h : ixAt ds j = some n) (q : Rp g.K H (Bz hd σ s.ρ) v d) : ixN xs.length j = some n ∧ RpA g.K H (Bz hd σ s.ρ) (xs.set n v) (ds.set n d) := by
  refine ⟨?_, r.set q n⟩
  unfold ixAt at h
  unfold ixN
  rw [r.length]
  exact h
theorem q_sset {o : Expr} {i : Nat} (hK : X.K = g.K) (hu : X.A.units + 64 < cLine) (ho : PE X o (tVar i)) (hk : PE X b (tEv g call lamc actf W ik)) (h : PE X e (tEv g call lamc actf W ie)) (ns : noSlE b = true) (hs : swapsWith e (some (.Subscript o b apos)) pos.line X.env = pure false) :
    PS X (.Assign [.Subscript o b apos] e pos) (tS g call lamc actf wf W (.sset i ik ie)) :=
  PS.imp (ps_asg h (pg_sub ho hk (set_any hu) (by intro v; cases b <;> first | rfl | cases ns)) hs rfl rfl) fun D σ H ⟨hd, s, cl, post⟩ => by
    rw [evS] at post
    refine ⟨hd, s, cl, post.bind fun rv s1 v H1 fr le r post1 => ?_⟩
    obtain ⟨c1, r1⟩ := r.drop
    split at post1
    · rename_i hcan
      have slot : ∃ p, σ[i]? = some (some (V.ref p)) := by
        unfold canPut at hcan
        split at hcan
        · rename_i d e1
          obtain ⟨p, q, _⟩ := c1.owns i d e1
          exact ⟨p, q⟩
        · rename_i e1
          obtain ⟨x, q1, a, _, q2⟩ := c1.vals i _ e1
          exact ⟨a, by rw [q1, q2]⟩
        · cases hcan
      obtain ⟨p, hσ⟩ := slot
      refine ⟨_, hσ, hd, s1, c1, post1.bind fun ry s2 y H2 fr2 le2 r2 post2 => ?_⟩
      obtain ⟨c2, r2⟩ := r2.drop
      have r1 := RpV.on fr2 le2 r1
      split at post2
      · rename_i d k e1 e2
        rw [e1] at r1
        rw [e2] at r2
        unfold putIn at post2
        split at post2
        · rename_i cc e3
          obtain ⟨p', q1, at', q3, q4⟩ := c2.owns i cc e3
          rw [hσ] at q1
          cases q1
          obtain ⟨u, hu', mu⟩ := c2.mu p (.inl (.inr ⟨i, cc, e3, hσ⟩))
          have frB : ∀ o, isMu o → Fr (Bz hd σ s2.ρ) H2 (upd H2 p o) := fun o mo => Fr.set hu' (.inl (.inr ⟨i, cc, e3, hσ⟩)) (fun ps z => by rw [z] at mo; exact mo)
          cases e4 : setop cc k d with
          | none => rw [e4] at post2; exact post2.elim
          | some cc' =>
            rw [e4] at post2
            match cc, k, e4 with
            | .list ds, .int j, e4 =>
              obtain ⟨n, e5, rfl⟩ := map_of (show (ixAt ds j).map (fun n => PyData.list (ds.set n d)) = some cc' from e4)
              obtain ⟨xs, h1, h2⟩ := at'
              cases r2
              obtain ⟨f1, f2⟩ := put_list h2 e5 r1
              obtain ⟨c3, fr3⟩ := c2.updO (c' := .list (ds.set n d)) (o := .lst (xs.set n v)) e3 hσ trivial ⟨_, upd_same, f2.stay (frB (.lst (xs.set n v)) trivial) fun a z => .inl z⟩
              exact .inl ⟨p, xs, j, n, rfl, rfl, h1, f1, post2 hd σ _ PLe.refl fr3 (fun a z => .inl ((av_own e3 a).mp z)) c3⟩
            | .dict kvs, k, e4 =>
              have e4 : (if (isKey k && decide (kvs.length < 100000)) = true then some (PyData.dict (dput kvs k d)) else none) = some cc' := e4
              split at e4
              · rename_i hk
                rw [Bool.and_eq_true, decide_eq_true_eq] at hk
                cases e4
                obtain ⟨ks, h1, h2⟩ := at'
                obtain ⟨k, rfl⟩ := isKey_of hk.1
                obtain ⟨b', rfl, hb⟩ := nw_key r2.nw
                have r1 : Rp g.K H2 (Bz hd σ s2.ρ) v d := r1
                obtain ⟨c3, fr3⟩ := c2.updO (c' := .dict (dput kvs (.tuple (k.map kD)) d)) (o := .dT (putK ks k v)) e3 hσ trivial ⟨_, upd_same, (rpD_put r1 h2).stay (frB (.dT (putK ks k v)) trivial) fun a z => .inl z⟩
                refine .inr ⟨p, _, rfl, .inr ⟨ks, k, b', h1, rfl, hb, ?_, rfl⟩, post2 hd σ _ PLe.refl fr3 (fun a z => .inl ((av_own e3 a).mp z)) c3⟩
                rw [rpD_len h2, sizeLine_eq]
                omega
              · cases e4
        · rename_i e3
          obtain ⟨x, q1, a, hp, rfl⟩ := c2.vals i _ e3
          rw [hσ] at q1
          cases q1
          split at post2
          · rename_i ds e4
            have hh := c2.hand
            unfold HandAt at hh
            rw [hp, e4] at hh
            obtain ⟨xs, h1, h2⟩ := (show At g.K H2 (Bz hd σ s2.ρ) p (.list ds) from hh)
            match k, r2, post2 with
            | .int j, r2, post2 =>
              have post2 : PostS g W hd σ s2 H2 D (match (ixAt ds j).map (fun n => PyData.list (ds.set n d)) with
                | some (.list ds') => .nxt { s2 with h := some ds' }
                | _ => .bad) := post2
              cases e5 : ixAt ds j with
              | none => rw [e5] at post2; exact post2.elim
              | some n =>
                rw [e5] at post2
                cases r2
                obtain ⟨f1, f2⟩ := put_list h2 e5 r1
                obtain ⟨c3, fr3⟩ := c2.updH hp e4 f2
                exact .inl ⟨p, xs, j, n, rfl, rfl, h1, f1, post2 hd σ _ PLe.refl fr3 (fun a z => .inl z) c3⟩
            | .none, _, post2 => exact post2.elim
            | .bool _, _, post2 => exact post2.elim
            | .str _, _, post2 => exact post2.elim
            | .list _, _, post2 => exact post2.elim
            | .tuple _, _, post2 => exact post2.elim
            | .dict _, _, post2 => exact post2.elim
          · exact post2.elim
        · exact post2.elim
      · exact post2.elim
    · exact post1.elim
end
end Pev
set_option maxRecDepth 100000
set_option autoImplicit false
/-! Pev, soundness 16: append, extend, pop. -/
namespace Pev
open PySem PySem.Spec PyProof.Rows L2
open LamX (Tabs TabS CodeO)

section
variable {X : Cx} {g : Gh} {call : Calls} {lamc : Nat → (Option (List PD) → FO) → Option (List PD) → FO} {actf : Option (List PD) → FO} {wf : Nat} {W : WX}
  {e o : Expr} {ie ik : IE} {pos p2 p apos cpos : Pos} {i : Nat}
theorem own_list {hd : Dy} {σ : L2.St} {s : S} {H : Hp} (c : Cl g hd σ s H) (h : isOwnL i s = true) : ∃ p xs, σ[i]? = some (some (V.ref p)) ∧ H p = some (.lst xs) := by
  unfold isOwnL at h
  split at h
  · rename_i ds e1
    obtain ⟨p, q1, ⟨xs, q2, _⟩, _⟩ := c.owns i _ e1
    exact ⟨p, xs, q1, q2⟩
  · cases h
/-- the slot's list, later -/
theorem own_now {hd : Dy} {σ : L2.St} {s : S} {H : Hp} {p : Addr} {ds : List PD} (c : Cl g hd σ s H) (hσ : σ[i]? = some (some (V.ref p))) (e : s.ρ[i]? = some (Slot.own (.list ds))) :
    ∃ xs, H p = some (.lst xs) ∧ RpA g.K H (Bz hd σ s.ρ) xs ds ∧ ∀ o, isMu o → Fr (Bz hd σ s.ρ) H (upd H p o) := by
  obtain ⟨p', q1, ⟨xs, q2, q3⟩, _⟩ := c.owns i _ e
  rw [hσ] at q1
  cases q1
  exact ⟨xs, q2, q3, fun o mo => Fr.set q2 (.inl (.inr ⟨i, _, e, hσ⟩)) (fun ps z => by rw [z] at mo; exact mo)⟩
theorem q_app (hK : X.K = g.K) (ho : PE X o (tVar i)) (h : PE X e (tEv g call lamc actf W ie)) (ob : baseOk o = true) (ns : noStarE e = true) (hline : (apos.endLine == cpos.line) = true) :
    PS X (.Expr (.Call (.Attribute o "append" apos) [e] [] cpos) pos) (tS g call lamc actf wf W (.app i ie)) :=
  PS.imp (ps_expr (pe_bmL PySem.F.slot_list_append PySem.F.type_list_append mt_append ho (pa_cons h pa_nil (star_no ns _ _)) ob (by show 1 < 20; decide) (by rw [List.all_cons, ns]; rfl) hline) rfl) fun D σ H ⟨hd, s, cl, post⟩ => by
    rw [evS] at post
    split at post
    · rename_i hown
      obtain ⟨p, xs0, hσ, hl⟩ := own_list cl hown
      refine ⟨_, hσ, .inl ⟨rfl, xs0, SqL.of hl⟩, hd, s, cl, post.bind fun rv s1 v H1 fr le r post1 => ?_⟩
      obtain ⟨c1, r1⟩ := r.drop
      split at post1
      · rename_i d ds e1 e2
        rw [e1] at r1
        obtain ⟨xs, h1, h2, fb⟩ := own_now c1 hσ e2
        split at post1
        · rename_i hz
          obtain ⟨c3, fr3⟩ := c1.updO (c' := .list (ds ++ [d])) (o := .lst (xs ++ [v])) e2 hσ trivial ⟨_, upd_same, (h2.append (.cons r1 .nil)).stay (fb (.lst (xs ++ [v])) trivial) fun a z => .inl z⟩
          exact ⟨p, xs, v, rfl, rfl, h1, by rw [h2.length, sizeLine_eq]; omega, post1 hd σ _ PLe.refl fr3 (fun a z => .inl ((av_own e2 a).mp z)) c3⟩
        · exact post1.elim
      · exact post1.elim
    · exact post.elim
theorem q_ext (hK : X.K = g.K) (ho : PE X o (tVar i)) (h : PE X e (tEv g call lamc actf W ie)) (ob : baseOk o = true) (ns : noStarE e = true) (hline : (apos.endLine == cpos.line) = true) :
    PS X (.Expr (.Call (.Attribute o "extend" apos) [e] [] cpos) pos) (tS g call lamc actf wf W (.ext i ie)) :=
  PS.imp (ps_expr (pe_bmL PySem.F.slot_list_extend PySem.F.type_list_extend mt_extend ho (pa_cons h pa_nil (star_no ns _ _)) ob (by show 1 < 20; decide) (by rw [List.all_cons, ns]; rfl) hline) rfl) fun D σ H ⟨hd, s, cl, post⟩ => by
    rw [evS] at post
    split at post
    · rename_i hown
      obtain ⟨p, xs0, hσ, hl⟩ := own_list cl hown
      refine ⟨_, hσ, .inl ⟨rfl, xs0, SqL.of hl⟩, hd, s, cl, post.bind fun rv s1 v H1 fr le r post1 => ?_⟩
      obtain ⟨c1, r1⟩ := r.drop
      split at post1
      · rename_i d ds e1 e2
        rw [e1] at r1
        obtain ⟨xs, h1, h2, fb⟩ := own_now c1 hσ e2
        cases r1 with
        | lst nb hb rb =>
          rename_i b zs
          split at post1
          · rename_i hz
            obtain ⟨c3, fr3⟩ := c1.updO (c' := .list (ds ++ d)) (o := .lst (xs ++ zs)) e2 hσ trivial ⟨_, upd_same, (h2.append rb).stay (fb (.lst (xs ++ zs)) trivial) fun a z => .inl z⟩
            exact ⟨p, b, xs, zs, rfl, rfl, h1, hb, by rw [h2.length, rb.length, sizeLine_eq]; omega, post1 hd σ _ PLe.refl fr3 (fun a z => .inl ((av_own e2 a).mp z)) c3⟩
          · exact post1.elim
      · exact post1.elim
    · exact post.elim
theorem s_pop0 (hK : X.K = g.K) (ho : PE X o (tVar i)) (ob : baseOk o = true) (hline : (apos.endLine == cpos.line) = true) : PE X (.Call (.Attribute o "pop" apos) [] [] cpos) (tEv g call lamc actf W (.pop0 i)) :=
  PE.imp (pe_bm0 PySem.F.plainAttrs_list PySem.F.slot_list_pop PySem.F.type_list_pop mt_pop ho (base_ok ob _ _ _) hline) fun σ H Q ⟨hd, s, cl, post⟩ => by
    rw [ev] at post
    split at post
    · rename_i ds e2
      split at post
      · rename_i y e3
        obtain ⟨p, q1, ⟨xs, q2, q3⟩, _⟩ := cl.owns i _ e2
        obtain ⟨xs', h1, h2, fb⟩ := own_now cl q1 e2
        rw [q2] at h1
        cases h1
        have e3' : ds[ds.length - 1]? = some y := by rw [← e3, List.getLast?_eq_getElem?]
        obtain ⟨v, g1, g2⟩ := h2.get e3'
        obtain ⟨c3, fr3⟩ := cl.updO (c' := .list ds.dropLast) (o := .lst xs.dropLast) e2 q1 trivial ⟨_, upd_same, h2.dropLast.stay (fb (.lst xs.dropLast) trivial) fun a z => .inl z⟩
        refine ⟨_, q1, .inl ⟨rfl, xs, SqL.of q2⟩, p, xs, v, rfl, rfl, q2, by rw [h2.length]; exact g1, post.here rfl fr3 (fun a z => (av_own e2 a).mp z) (RE.val c3 ?_)⟩
        exact Rp.stay (fb (.lst xs.dropLast) trivial) (fun a z => .inl (z.imp (av_own e2 a).mp id)) g2
      · exact post.elim
    · exact post.elim
theorem s_pop (hK : X.K = g.K) (ho : PE X o (tVar i)) (h : PE X e (tEv g call lamc actf W ik)) (ob : baseOk o = true) (ns : noStarE e = true) (hline : (apos.endLine == cpos.line) = true) :
    PE X (.Call (.Attribute o "pop" apos) [e] [] cpos) (tEv g call lamc actf W (.pop i ik)) :=
  PE.imp (pe_bmL PySem.F.slot_list_pop PySem.F.type_list_pop mt_popAt ho (pa_cons h pa_nil (star_no ns _ _)) ob (by show 1 < 20; decide) (by rw [List.all_cons, ns]; rfl) hline) fun σ H Q ⟨hd, s, cl, post⟩ => by
    rw [ev] at post
    split at post
    · rename_i hown
      obtain ⟨p, xs0, hσ, hl⟩ := own_list cl hown
      refine ⟨_, hσ, .inl ⟨rfl, xs0, SqL.of hl⟩, hd, s, cl, post.bind RE.up fun rv s1 v H1 fr le r post1 => ?_⟩
      obtain ⟨c1, r1⟩ := r.drop
      split at post1
      · rename_i j ds e1 e2
        rw [e1] at r1
        cases r1
        obtain ⟨xs, h1, h2, fb⟩ := own_now c1 hσ e2
        split at post1
        · rename_i hj
          split at post1
          · rename_i n e3
            split at post1
            · rename_i y e4
              obtain ⟨w, g1, g2⟩ := h2.get e4
              obtain ⟨c3, fr3⟩ := c1.updO (c' := .list (ds.eraseIdx n)) (o := .lst (xs.eraseIdx n)) e2 hσ trivial ⟨_, upd_same, (h2.erase n).stay (fb (.lst (xs.eraseIdx n)) trivial) fun a z => .inl z⟩
              have hn : ixN xs.length j = some n := by
                unfold ixAt at e3
                unfold ixN
                rw [h2.length]
                exact e3
              refine ⟨p, xs, j, n, w, rfl, rfl, h1, by omega, by omega, (ixN_seq hn).1, g1, post1.here rfl fr3 (fun a z => (av_own e2 a).mp z) (RE.val c3 ?_)⟩
              exact Rp.stay (fb (.lst (xs.eraseIdx n)) trivial) (fun a z => .inl (z.imp (av_own e2 a).mp id)) g2
            · exact post1.elim
          · exact post1.elim
        · exact post1.elim
      · exact post1.elim
    · exact post.elim
end
end Pev
set_option maxRecDepth 100000
set_option autoImplicit false
/-! Pev, soundness 17: raise C(), C an own class whose __init__ says super().__init__(). -/
namespace Pev
open PySem PySem.Spec PyProof.Rows L2 PySem.W PySem.Calls
abbrev vE : List Value := [.type "ValueError", .type "Exception", .type "BaseException", .type "object"]
/-- what the written part says of the class at C -/
structure RaiseC (P : Program) (K : PySem.W.Frag) (C : Addr) : Prop where
  kC : keepIn K (.ref C) = true
  ex : excInitIn K C vE "ValueError.__new__" = true
  bP : subIn K (.ref C) (.type "BaseException") = some true
  tP : typeIn K (.ref C) = some (.type "type")
  vP : subIn K (.ref C) (.type "ValueError") = some true
  th : nsIn K cStatics "thirdparty.any" = some none
  sup : ks_superIn K C C "__init__" = some (some (.builtin "ValueError.__init__"))
  mro : mroIn K C (.ref C) = some true
  main : (P.main.scope.names.lookup ("super" : Str)).isSome = false
  init : ∃ (fI cda cc : Addr) (oc ccl cl : Value) (od cdd cld : Option Addr) (osl ccs csl : Array (Option Value)) (name qual : Str) (params : Arguments) (scope : Scope) (dV kV doc pm ct : Value) (an : Option Addr) (ar : Arg) (vs : Array Value) (file : Str) (tf : Tok) (p0 p1 p2 p3 p4 : Pos), (p2.endLine == p3.line) = true ∧
    findIn K (.ref C) "__init__" = some (some (.ref fI)) ∧ typeIn K (.ref fI) = some (.type "function") ∧
    K.lookup fI = some ⟨oc, od, .func (ksFn name qual params [.Expr (.Call (.Attribute (.Call (.Name "super" p0) [] [] p1) "__init__" p2) [] [] p3) p4] scope dV kV doc pm an (.ref cda) ct cc), osl⟩ ∧
    codeIn K (.ref cda) qual = true ∧ (params.posonlyargs ++ params.args).head? = some ar ∧
    (∀ v, bindArgs (ksFn name qual params [.Expr (.Call (.Attribute (.Call (.Name "super" p0) [] [] p1) "__init__" p2) [] [] p3) p4] scope dV kV doc pm an (.ref cda) ct cc) ⟨[v], []⟩ = pure [(ar.arg, v)]) ∧
    K.lookup cda = some ⟨ccl, cdd, .fields vs, ccs⟩ ∧ vs[2]? = some (.str file tf) ∧ ((P.main.file : Str) == file) = true ∧
    K.lookup cc = some ⟨cl, cld, .cell (some (.ref C)), csl⟩ ∧
    scope.names.lookup ("super" : Str) = some .globalImplicit ∧ scope.names.lookup ("__class__" : Str) = some .free ∧ scope.names.lookup ar.arg = some .local ∧ scope.kind = .function ∧
    (∀ x ∈ scope.names, x.2 ≠ .cell) ∧ scope.isCoroutine = false ∧ scope.isGenerator = false
theorem mcall_tree {o : Expr} {name : Str} {apos pos : Pos} {env : Env} (h : (apos.endLine == pos.line) = true)
    (e : eval (.Call (.Attribute o name apos) [] [] pos) env = (do
      let ov ← attributeBase o name env (eval o env)
      standAt apos.atName
      methodCall o name apos pos env ov 0 [] []) := by rfl) :
    eval (.Call (.Attribute o name apos) [] [] pos) env = (do
      let ov ← attributeBase o name env (eval o env)
      standAt apos.atName
      let (f, first) ← holding [ov] (getMethod ov name (do return (← importBound o env).getD true))
      callWith pos f first (backTo pos (starEach [] env)) []) := by
  rw [e]
  have q : ∀ ov, methodCall o name apos pos env ov 0 [] [] = (do
      let (f, first) ← holding [ov] (getMethod ov name (do return (← importBound o env).getD true))
      callWith pos f first (backTo pos (starEach [] env)) []) := fun ov => by
    have q2 : methodCallPos (methodCallForm 0 [] []) o env apos pos = pure pos := by
      unfold methodCallPos
      rw [h, Bool.or_true]
      rfl
    unfold methodCall
    rw [q2]
    rfl
  simp only [q]
section
variable {X : Cx} {pins : List (Addr × Obj)} {σ : L2.St} {H : Hp} {s : Shared} {x : Str} {C : Addr} {p pos pos2 : Pos} {Q : XK}
theorem super_init {A : Around} {R : Result → Shared → Prop} {hp : Heap} {g : Array GenState} {d : Drawn} {t : Nat} {os : OsState} {e t0 fI : Addr} (T : RaiseC X.prog X.K C) (fi : findIn X.K (.ref C) "__init__" = some (some (.ref fI))) (hm : Mod X.K X.mg X.base) (hsup : X.mg "super" = none)
    (hb : ∀ b o, X.base.get? b = some o → hp.get? b = some o) (lim : hp.NoLimit) (hroom : A.depth < recursionLimit) (he : hp.get? e = some (PySem.HandSPX.excO C t0)) (hne : X.K.lookup e = none)
    (hq : ∀ h' t' t1, (∀ b o, b ≠ e → hp.get? b = some o → h'.get? b = some o) → h'.get? e = some (PySem.HandSPX.excO C t1) → R (.ok (.ret .none)) ⟨h', g, d, t', os⟩) :
    codeAny (model X.prog X.w) A (.call (.ref fI) ⟨[.ref e], []⟩) R ⟨hp, g, d, t, os⟩ := by
  obtain ⟨fI', cda, cc, oc, ccl, cl, od, cdd, cld, osl, ccs, csl, name, qual, params, scope, dV, kV, doc, pm, ct, an, ar, vs, file, tf, p0, p1, p2, p3, p4, hline, i1, i2, i3, i4, i5, i6, i7, i8, i9, i10, i11, i12, i13, i14, i15, i16, i17⟩ := T.init
  rw [fi] at i1
  cases i1
  have KI : X.K.In hp := hm.kin.keeps hb
  refine ks_codeAny_call_defAt (binds := [(ar.arg, .ref e)]) hroom (KI _ _ i3) rfl lim (codeRec_of KI i4) rfl (BindsTo.of_eq (i6 _)) i15 (fun y hy => ?_) (fun h1 hns hk1 => ?_) i16 i17 i14
  · have : y = (ar.arg, .ref e) := by simpa using hy
    subst this
    exact i13
  · have K1 : X.K.In h1 := KI.keeps hk1
    have hint : ∀ q : FuncData, q.scope = scope → interactive (callEnv q hp.objs.size fI) = false := fun q hq => by
      unfold interactive
      show _ = false
      simp [callEnv, newEnv, hq, i14]
    refine ks_wpAt_execs_cons (ks_wpAt_Expr_any (ks_wpAt_MethodCall ?_ (mcall_tree hline)) (hint _ rfl) rfl)
    have eX : ∀ b o, hp.get? b = some o → h1.get? b = some o := hk1
    obtain ⟨cd, hcd⟩ : ∃ cd, clsIn X.K C = some cd := by
      cases hc : clsIn X.K C with
      | none => have z := T.sup; unfold ks_superIn at z; rw [hc] at z; cases z
      | some cd => exact ⟨cd, rfl⟩
    obtain ⟨oC, hC1, hC2⟩ : ∃ oC, h1.get? C = some oC ∧ oC.data = .cls cd := by
      unfold clsIn at hcd
      split at hcd
      · rename_i c d cd' sl ho
        cases hcd
        exact ⟨_, K1 _ _ ho, rfl⟩
      · cases hcd
    have he1 : h1.get? e = some (PySem.HandSPX.excO C t0) := hk1 _ _ he
    have hn1 : h1.Ns hp.objs.size (fun x => [(ar.arg, Value.ref e)].reverse.lookup x) := hns
    obtain ⟨mb, b1, b2⟩ := hm.blt
    have hb1 : ∀ b o, X.base.get? b = some o → h1.get? b = some o := fun b o z => hk1 b o (hb b o z)
    refine ks_wpAt_super_base i11 i12 (by decide) rfl (K1 _ _ i3) rfl i5 rfl (K1 _ _ i7) rfl i8 i9 T.main ?_
    refine ks_loadName_global i14 i11 (loadGlobal_builtin (hm.glob.keeps hb1) hsup (b1.keeps hb1) ((b2 _ (by decide)).trans (by decide +kernel : bootBuiltins "super" = some (.type "super"))) ⟨rfl, ?_⟩)
    refine wpAny_loadName_free i14 i12 rfl ⟨_, K1 _ _ i10, rfl⟩ ?_
    refine wpAny_loadName_local i14 i13 hn1 (v := .ref e) (by simp) ?_
    refine ks_wpAny_isType_cls hC1 hC2 ⟨rfl, ?_⟩
    refine ks_wpAny_call_super hC1 hC2 he1 rfl (fun c z => by cases z) (looks_mroIn K1 T.mro) (fun h2 hso k2 => ?_)
    have K2 : X.K.In h2 := K1.keeps k2
    have he2 : h2.get? e = some (PySem.HandSPX.excO C t0) := k2 _ _ he1
    have hsup2 : alongIn X.K "__init__" ((cd.mro.dropWhile (· != .ref C)).drop 1) = some (some (.builtin "ValueError.__init__")) := by
      have z := T.sup
      unfold ks_superIn at z
      rw [hcd] at z
      exact z
    have inst : InstAt h2 e (PySem.HandSPX.excO C t0) C none := ⟨he2, rfl, rfl, trivial⟩
    have hI : Looks (model X.prog X.w) h2 (isInstance (.ref e) (.type "ValueError")) true := inst.type.andThen (looks_subIn K2 T.vP)
    refine kxs_getMethod kxs_ValueError hso (looks_opaque K2 T.th) (l₀ := cd.mro) (fun A Q E s k q => wpAny_bind ((looks_clsIn K2 hcd) A _ E s k (wpAny_pure q))) rfl K2 hsup2 hI (ks_ne K2 inst hcd) (by decide) ?_
    -- the wrapper called
    generalize hh3 : h2.push (kxs_mw "ValueError.__init__" e) = h3
    have k3 : ∀ b o, h2.get? b = some o → h3.get? b = some o := fun b o z => by rw [← hh3]; exact Heap.get?_push_of_some _ z
    have hu3 : h3.get? h2.objs.size = some (kxs_mw "ValueError.__init__" e) := by rw [← hh3]; exact Heap.get?_push_size _ rfl
    have K3 : X.K.In h3 := K2.keeps k3
    have he3 : h3.get? e = some (PySem.HandSPX.excO C t0) := k3 _ _ he2
    obtain ⟨nm, N', qn, bs, bm, hdct, sn, sub, ab, col, dd, k0, q1, q2, q3, q5, hC, hT⟩ := excInit_of K3 T.ex
    refine kxs_callWith (i := "ValueError.__init__") (x := e) rfl (evalArgs_empty ⟨hu3, ?_⟩)
    refine wpAny_call (codeAny_of_tree ?_)
    show wpAny _ _ (callAny (.ref h2.objs.size) ⟨[], []⟩) _ _ _
    simp only [callAny]
    refine wpAny_bind (wpAny_load hu3 ?_)
    simp only [kxs_mw, show (Value.type "method-wrapper" == Value.type "method" || Value.type "method-wrapper" == Value.type "builtin_function_or_method" || Value.type "method-wrapper" == Value.type "method-wrapper") = true by decide, if_true]
    refine KFB.if_so (by decide) ?_
    refine wpAny_bind (check_bound_init PySem.F.excBase_ValueError.toExcCallFacts hC he3 rfl ?_)
    refine wpAny_bind (wpAny_pure (wpAny_pure ?_))
    refine ⟨plainId_quiet PySem.F.excBase_ValueError.init.plain _, codeAny_builtin PySem.F.excBase_ValueError.initEntry ?_⟩
    refine exc_init_tree (cls := .ref C) (t0 := t0) (dv := none) (c2 := .none) (c3 := .none) (b4 := .bool false) he3 (by simp) fun h4 k4 e4 _ => ?_
    exact wpAt_of_wpAny (wpAny_execs_nil (hq h4 _ _ (fun b o hb z => k4 b o hb (k3 _ _ (k2 _ _ (hk1 _ _ z)))) e4))
/-- C() -/
theorem pmk_super (T : RaiseC X.prog X.K C) (hr : Room 1 X.A) (hg : Gl X x) (hm : X.mg x = some (.ref C)) (hsup : X.mg "super" = none) (hdb : (x == ("__debug__" : Str)) = false) : PMk X (.Call (.Name x p) [] [] pos) (fun _ H Q => Q (.ref C) none H) := by
  intro pins s σ H Q I h
  refine wpAny_Call_Name_kw (ld_glob I hg hm ?_ hdb)
  refine PySem.W.callWith_K0 I.kIn T.kC ?_
  obtain ⟨fI, cda, cc, oc, ccl, cl, od, cdd, cld, osl, ccs, csl, name, qual, params, scope, dV, kV, doc, pm, ct, an, ar, vs, file, tf, p0, p1, p2, p3, p4, hline, i1, i2, _⟩ := T.init
  obtain ⟨nm, N', qn, bs, bm, hdct, sn, sub, ab, col, dd, k0, q1, q2, q3, q5, hC, hT⟩ := excInit_of I.kIn T.ex
  have hln := Heap.lt_size hC
  have hlim : s.heap.NoLimit := I.ok.mod.nolimit.keeps I.bk
  have hbk := I.bk
  have hn : H (s.heap.objs.size + 1) = none := I.hok.fresh (Nat.le_succ _)
  have hKn : X.K.lookup (s.heap.objs.size + 1) = none := by
    cases z : X.K.lookup (s.heap.objs.size + 1) with
    | none => rfl
    | some o => exact absurd (Heap.lt_size (I.kIn _ _ z)) (Nat.not_lt_of_le (Nat.le_succ _))
  have KI := I.kIn
  have bare := I.bare
  have hsI : ∃ s0 : Shared, s0 = s := ⟨s, rfl⟩
  obtain ⟨s0, hs0⟩ := hsI
  obtain ⟨hp, g, d, t, os⟩ := s
  have kk : ∀ b o, hp.get? b = some o → ((hp.push (kdv_tup [])).push (PySem.HandSPX.excO C hp.objs.size)).get? b = some o := fun b o e => Heap.get?_push_of_some _ (Heap.get?_push_of_some _ e)
  have hget : ((hp.push (kdv_tup [])).push (PySem.HandSPX.excO C hp.objs.size)).get? (hp.objs.size + 1) = some (PySem.HandSPX.excO C hp.objs.size) := by heap_get
  refine wpAny_call (PySem.HandSPX.call_own PySem.F.excBase_ValueError hT hC (looks_findIn KI i1) (fun self => bind_fn KI self i2) (by simp) ?_)
  refine super_init (t0 := hp.objs.size) T i1 I.ok.mod hsup (fun b o z => kk b o (hbk b o z)) (hlim.keeps kk) (by rw [make_depth]; have := hr.dp; omega) hget hKn fun h' t' t1 k1 e1 => ?_
  refine ⟨rfl, ?_⟩
  have ke : ∀ b o, hp.get? b = some o → h'.get? b = some o := fun b o z => k1 b o (Nat.ne_of_lt (Nat.lt_succ_of_lt (Heap.lt_size z))) (kk b o z)
  have hnew : hp.get? (hp.objs.size + 1) = none := by
    cases z : hp.get? (hp.objs.size + 1) with
    | none => rfl
    | some o => exact absurd (Heap.lt_size z) (Nat.not_lt_of_le (Nat.le_succ _))
  exact ⟨hp.objs.size + 1, _, _, ⟨hp, g, d, t, os⟩, H, .ref C, none, rfl, I, ke, hnew, e1, ⟨rfl, rfl⟩, rfl, rfl, hn, rfl, bare, raises_own T.bP T.tP, h⟩
end
end Pev
set_option maxRecDepth 100000
set_option autoImplicit false
/-! Pev, soundness 18: loops, raise, the shared list. -/
namespace Pev
open PySem PySem.Spec PyProof.Rows L2
open LamX (Tabs TabS CodeO)

section
variable {X : Cx} {g : Gh} {call : Calls} {lamc : Nat → (Option (List PD) → FO) → Option (List PD) → FO} {actf : Option (List PD) → FO} {wf : Nat} {W : WX}
  {e a b c tgE : Expr} {ia ib ic ie : IE} {pos p2 p : Pos} {it : IT} {sb : List Stmt} {ibl : IB} {tg : Tgt} {src : IR}
/-- in a loop -/
structure LoopInv (g : Gh) (W : WX) (D : Ends) (hd : Dy) (σ : L2.St) (ρ0 : List Slot) (H0 : Hp) (hd' : Dy) (σ' : L2.St) (s' : S) (H' : Hp) : Prop where
  cl : Cl g hd' σ' s' H'
  fr : Fr (Av hd σ ρ0) H0 H'
  le : HLe H0 hd σ ρ0 hd' σ' s'.ρ
  pl : PLe H0 hd hd'
section
variable {D : Ends} {hd hd' hd2 : Dy} {σ σ' σ2 : L2.St} {s1 s' s2 : S} {H1 H' H2 : Hp}
theorem LoopInv.next (i : LoopInv g W D hd σ s1.ρ H1 hd' σ' s' H') (pl : PLe H' hd' hd2) (fr : Fr (Av hd' σ' s'.ρ) H' H2) (le : HLe H' hd' σ' s'.ρ hd2 σ2 s2.ρ) (c : Cl g hd2 σ2 s2 H2) : LoopInv g W D hd σ s1.ρ H1 hd2 σ2 s2 H2 :=
  ⟨c, i.fr.trans fr i.le, i.le.trans le i.fr.dom, i.pl.trans pl i.fr.dom⟩
theorem LoopInv.bz (i : LoopInv g W D hd σ s1.ρ H1 hd' σ' s' H') (a : Addr) (z : Bz hd' σ' s'.ρ a) : Bz hd σ s1.ρ a ∨ Nn H1 a := z.elim (fun z => (i.le a z).imp .inl id) fun z => .inl (.inr (by rw [← i.pl.Z]; exact z))
end
theorem q_for (hK : X.K = g.K) (hp : PassesOwn (model X.prog X.w) X.A X.env X.xe) (hc : X.calm = true) (hi : PI X tgE e (tSrc g call lamc actf W src)) (hg : PG X tgE (gTgt X.K tg)) (hb : PSs X sb (tSs g call lamc actf wf W ibl)) (hs : ∀ x, foldedSetIterable e X.env x = pure x) :
    PS X (.For tgE e sb [] pos) (tS g call lamc actf wf W (.fors tg src ibl)) := PS.imp (ps_for hp hc hi hg hb hs) fun D σ H ⟨hd, s, cl, post⟩ => by
  rw [evS] at post
  refine ⟨hd, s, cl, post.bind fun ds s1 J H1 fr le ⟨c1, sr⟩ post1 => ?_⟩
  obtain ⟨G, Y, w, stab, yl⟩ := sr.ex
  have avB : ∀ a, Av hd σ s1.ρ a → Bz hd σ s1.ρ a ∨ Nn H1 a := fun a z => .inl (.inl z)
  refine for_it w (fun i σ' H' => ∃ hd' s', LoopInv g W D hd σ s1.ρ H1 hd' σ' s' H' ∧ PostS g W hd σ s1 H1 D (forLoop (evB call lamc actf wf ibl) tg (ds.drop i) s')) ⟨hd, s1, ⟨c1, Fr.refl _ _, fun a z => .inl z, PLe.refl⟩, post1⟩ ?_ ?_ ?_
  · rintro i σ' H' hi ⟨hd', s', inv, po⟩
    exact stab _ _ inv.fr avB
  · rintro i x σ' H' H2 hi ⟨hd', s', inv, po⟩ y
    obtain ⟨hx, d, ed, hr⟩ := yl _ i H' x H2 inv.fr avB hi y
    have edrop : ds.drop i = d :: ds.drop (i + 1) := by
      rw [List.drop_eq_getElem_cons hi]
      congr 1
      rw [List.getElem?_eq_getElem hi] at ed
      exact Option.some.inj ed
    rw [edrop, forLoop] at po
    have rx : Rp g.K H2 (Bz hd' σ' s'.ρ) x d := hr _ inv.bz fun a z e => by
      obtain ⟨o, q, _⟩ := inv.cl.mu a z
      rw [e] at q
      cases q
    have c2 : Cl g hd' σ' s' H2 ∧ Fr (Av hd' σ' s'.ρ) H' H2 := by
      rcases hx with rfl | ⟨T, ts, hT, rfl⟩
      · exact ⟨inv.cl, Fr.refl _ _⟩
      · exact ⟨inv.cl.new hT (fun _ z => z) (fun a z => .inl z), Fr.new hT⟩
    obtain ⟨c2, fr2⟩ := c2
    cases ea : assignT tg d s' with
    | none => rw [ea] at po; exact po.elim
    | some s2 =>
    rw [ea] at po
    simp only at po
    rw [hK]
    refine tgt_run c2 rx ea fun σ3 c3 le3 l3 st3 => ⟨hd', s2, c3, ?_⟩
    have inv3 : LoopInv g W D hd σ s1.ρ H1 hd' σ3 s2 H2 := inv.next PLe.refl fr2 (fun a z => .inl (le3 a z)) c3
    cases eb : evB call lamc actf wf ibl s2 with
    | bad => rw [eb] at po; exact po
    | exc n h => rw [eb] at po; exact PostS.shift po inv3.fr inv3.le inv3.pl
    | ret rv s4 => rw [eb] at po; exact PostS.shift po inv3.fr inv3.le inv3.pl
    | nxt s4 =>
      rw [eb] at po
      exact fun hd4 σ4 H4 pl4 fr4 le4 c4 => ⟨hd4, s4, inv3.next pl4 fr4 le4 c4, po⟩
  · rintro σ' H' ⟨hd', s', inv, po⟩
    rw [List.drop_eq_nil_of_le (Nat.le_refl _), forLoop] at po
    exact po hd' σ' H' inv.pl inv.fr inv.le inv.cl
theorem q_while (hp : PassesOwn (model X.prog X.w) X.A X.env X.xe) (hc : PT X c (tTst g call lamc actf W it)) (hb : PSs X sb (tSs g call lamc actf wf W ibl)) : PS X (.While c sb [] pos) (tS g call lamc actf wf W (.whl it ibl)) :=
  PS.imp (ps_while hp hc hb) fun D σ H ⟨hd, s, cl, post⟩ => by
    rw [evS] at post
    refine ⟨fun m σ' H' => ∃ hd' s', LoopInv g W D hd σ s.ρ H hd' σ' s' H' ∧ PostS g W hd σ s H D (whlLoop (tst call lamc actf it) (evB call lamc actf wf ibl) m s'), ⟨wf, hd, s, ⟨cl, Fr.refl _ _, fun a z => .inl z, PLe.refl⟩, post⟩, ?_⟩
    rintro m σ' H' ⟨hd', s', inv, po⟩
    cases m with
    | zero => exact po.elim
    | succ m =>
    rw [whlLoop] at po
    refine ⟨hd', s', inv.cl, ?_⟩
    cases et : tst call lamc actf it s' with
    | bad => rw [et] at po; exact po.elim
    | exc n h =>
      rw [et] at po
      exact fun H2 fr2 hh tb => po hd' σ' H2 inv.pl (inv.fr.trans fr2 inv.le) hh tb
    | ok t s2 =>
    intro b H2 fr2 le2 ⟨c2, hb⟩
    subst hb
    have inv2 : LoopInv g W D hd σ s.ρ H hd' σ' s2 H2 := inv.next PLe.refl fr2 (fun a z => .inl (le2 a z)) c2
    rw [et] at po
    cases t with
    | false =>
      rw [if_neg (by intro z; cases z)]
      exact po hd' σ' H2 inv2.pl inv2.fr inv2.le c2
    | true =>
      rw [if_pos rfl]
      refine ⟨fun σ4 H4 => ∃ hd4 s4, LoopInv g W D hd σ s.ρ H hd4 σ4 s4 H4 ∧ PostS g W hd σ s H D (whlLoop (tst call lamc actf it) (evB call lamc actf wf ibl) m s4), fun σ4 H4 q => ⟨m, Nat.lt_succ_self _, q⟩, hd', s2, c2, ?_⟩
      simp only at po
      cases eb : evB call lamc actf wf ibl s2 with
      | bad => rw [eb] at po; exact po
      | exc n h => rw [eb] at po; exact PostS.shift po inv2.fr inv2.le inv2.pl
      | ret rv s4 => rw [eb] at po; exact PostS.shift po inv2.fr inv2.le inv2.pl
      | nxt s4 =>
        rw [eb] at po
        exact fun hd4 σ4 H4 pl4 fr4 le4 c4 => ⟨hd4, s4, inv2.next pl4 fr4 le4 c4, po⟩

/-! ### raise C() -/
theorem q_rse {x : Str} {n : Nat} (hc : X.calm = true) (tk : Takes X W) (T : RaiseC X.prog X.K (g.C n)) (hr : Room 1 X.A) (hg : Gl X x) (hm : X.mg x = some (.ref (g.C n))) (hsup : X.mg "super" = none) (hdb : (x == ("__debug__" : Str)) = false) :
    PS X (.Raise (some (.Call (.Name x p) [] [] p2)) none pos) (tS g call lamc actf wf W (.rse n)) := PS.imp (ps_raise hc tk (pmk_super T hr hg hm hsup hdb)) fun D σ H ⟨hd, s, cl, post⟩ => by
  rw [evS] at post
  exact post hd σ H PLe.refl (Fr.refl _ _) (HandAt.less cl.hand b0_of) cl.tabs

/-! ### hand = _law_hand(script) -/
theorem q_mkh {i : Nat} {x : Str} {pos' : Pos} (hN : X.N.Nodup) (hi : X.N[i]? = some x) (hx : Loc X.env.scope x) (h : PE X e (tEv g call lamc actf W ie)) (hs : swapsWith e (some (.Name x pos')) pos.line X.env = pure false) (hf : X.fn x = true ∨ X.env.scope.names.lookup x = some .local) :
    PS X (.Assign [.Name x pos'] e pos) (tS g call lamc actf wf W (.mkh i ie)) := PS.imp (ps_set hN hi hx h hs hf) fun D σ H ⟨hd, s, c, post⟩ => by
  rw [evS] at post
  have hh0 := c.hand
  unfold HandAt at hh0
  cases hh : s.h with
  | some ds => rw [hh] at post; exact post.elim
  | none =>
    rw [hh] at post
    have hp : hd.p = none := by
      cases z : hd.p with
      | none => rfl
      | some a => rw [z, hh] at hh0; exact hh0.elim
    refine ⟨hd, s, c, PostS.bind0 post fun rv s1 x H1 fr le r post1 => ?_⟩
    rcases r with ⟨e1, _, _⟩ | ⟨e1, a, d, rfl, e2, ha, n, ok, at'⟩
    · rw [e1] at post1
      exact post1.elim
    · rw [e1, e2] at post1
      cases d with
      | list ds =>
        have post1 : PostS g W hd σ s H D (if noLmb s1.ρ then .nxt ⟨s1.ρ.set i (.val .hnd), some ds⟩ else .bad) := post1
        by_cases hnl : noLmb s1.ρ = true
        case neg => rw [if_neg hnl] at post1; exact post1.elim
        rw [if_pos hnl] at post1
        have av : ∀ b, Av ⟨some a, hd.Z⟩ (σ.set i (some (.ref a))) (s1.ρ.set i (.val .hnd)) b → Av hd σ s1.ρ b ∨ b = a := fun b z => by
          rcases z with z | ⟨j, d', h1, h2⟩
          · exact .inr (Option.some.inj z).symm
          · rw [List.getElem?_set] at h1
            split at h1
            · split at h1 <;> cases h1
            · rename_i ne
              rw [List.getElem?_set_ne ne] at h2
              exact .inl (.inr ⟨j, d', h1, h2⟩)
        have avB : ∀ b, Bz ⟨some a, hd.Z⟩ (σ.set i (some (.ref a))) (s1.ρ.set i (.val .hnd)) b → (Bz hd σ s1.ρ b ∨ b = a) := fun b z => z.elim (fun z => (av b z).imp .inl id) fun z => .inl (.inr z)
        refine post1 ⟨some a, hd.Z⟩ _ H1 ⟨rfl, .inr ⟨hp, fun b hb => by cases hb; exact ha⟩⟩ fr (fun b z => (av b z).imp (le b) fun z => by rw [z]; exact ha) ?_
        refine ⟨by rw [List.length_set, List.length_set]; exact ok.len, fun b z => .inl z, fun b z => ok.mu b (avB b z), fun j v q => ?_, fun j d' q => ?_, fun j k d1 d2 b h1 h2 h3 h4 => ?_, ?_, ok.tabs⟩
        · rw [List.getElem?_set] at q
          split at q
          · rename_i e3
            subst e3
            split at q
            · rename_i hl
              cases q
              exact ⟨.ref a, by rw [List.getElem?_set_self (by rw [← ok.len]; exact hl)], a, rfl, rfl⟩
            · cases q
          · rename_i ne
            obtain ⟨x, q1, q2⟩ := ok.vals j v q
            refine ⟨x, by rw [List.getElem?_set_ne ne]; exact q1, ?_⟩
            have q3 := rpV_less avB q2
            cases v with
            | hnd =>
              obtain ⟨b, hb, _⟩ := q3
              rw [hp] at hb
              cases hb
            | dat _ => exact q3
            | fn _ => exact q3
            | exn _ => exact q3
            | scr _ => exact q3
            | lmb =>
              have z := List.all_eq_true.mp hnl _ (List.mem_of_getElem? q)
              cases z
        · rw [List.getElem?_set] at q
          split at q
          · split at q <;> cases q
          · rename_i ne
            obtain ⟨b, q1, q2, q3, q4⟩ := ok.owns j d' q
            refine ⟨b, by rw [List.getElem?_set_ne ne]; exact q1, q2.stay (Fr.refl _ _) (fun b z => .inl (avB b z)) (fun _ z => z), fun z => ?_, q4⟩
            cases z
            exact n (.inl (.inr ⟨j, d', q, q1⟩))
        · have f : ∀ (j : Nat) (d : PD), (s1.ρ.set i (.val .hnd))[j]? = some (Slot.own d) → s1.ρ[j]? = some (Slot.own d) ∧ (σ.set i (some (V.ref a)))[j]? = σ[j]? := fun j d q => by
            rw [List.getElem?_set] at q
            split at q
            · split at q <;> cases q
            · rename_i ne
              exact ⟨q, List.getElem?_set_ne ne⟩
          obtain ⟨f1, f2⟩ := f j d1 h1
          obtain ⟨f3, f4⟩ := f k d2 h2
          exact ok.apart j k d1 d2 b f1 f3 (by rw [← f2]; exact h3) (by rw [← f4]; exact h4)
        · obtain ⟨xs, q1, q2⟩ := at'
          exact ⟨xs, q1, q2.stay (Fr.refl _ _) fun b z => .inl (avB b z)⟩
      | _ => exact post1.elim
end
end Pev
set_option maxRecDepth 100000
set_option autoImplicit false
/-! Pev, soundness 19: {k: v}, the key a tuple. -/
namespace L2
open PySem PySem.Spec PyProof.Rows
/-- {k: v}: the new dict stands empty while the pair is made -/
def tDispT (tk tv : TE) : TE := fun σ H Q => ∀ p, H p = none → tk σ (upd H p (.dT [])) fun x H1 => tv σ H1 fun y H2 => H2 p = some (.dT []) ∧ ∃ (k : List Key) (b : Addr), x = .ref b ∧ H2 b = some (.tup (k.map kV)) ∧ Q (.ref p) (upd H2 p (.dT (putK [] k y)))
def pairQ (p : Addr) (Q : VK) : List (V × V) → Hp → Prop
  | [(x, y)], H2 => H2 p = some (.dT []) ∧ ∃ (k : List Key) (b : Addr), x = .ref b ∧ H2 b = some (.tup (k.map kV)) ∧ Q (.ref p) (upd H2 p (.dT (putK [] k y)))
  | _, _ => False
theorem pe_dispT {X : Cx} {pos : Pos} {ek evl : Expr} {tk tv : TE} (hu : X.A.units < cLine) (hk : PE X ek tk) (hv : PE X evl tv) : PE X (.Dict [some ek] [evl] pos) (tDispT tk tv) := by
  refine ⟨fun pins s σ H Q I q => ?_⟩
  have hn := I.hok.fresh (Nat.le_refl s.heap.objs.size)
  have I1 := I.laid (a := s.heap.objs.size) (o := .dT []) (h' := s.heap.push { cls := .type "dict", data := .dict #[] }) (t' := s.toks) (fun _ _ q => Heap.get?_push_of_some _ q) (Nat.le_refl _) (dt_empty s.heap I.big)
  have q := q _ hn
  have hP : PPs X pos [some ek] [evl] [(tk, tv)] := pps_cons hk hv pps_nil
  have hrun := hP.run pins _ σ _ (pairQ s.heap.objs.size Q) I1 q
  have hsh : (evalEachOpt [some ek] X.env).zip ((evalEach [evl] X.env).map fun v => do let x ← v; standAt pos; pure x) = [(eval ek X.env, (do let x ← eval evl X.env; standAt pos; pure x : Sem Value))].map fun p => (some p.1, p.2) := rfl
  rw [arm_eval_Dict, hsh, dictDisplay_pairs _ (by simp) (by simp)]
  refine wpAny_bind (wpAny_standAt (wpAny_bind (wpAny_subDictH (knd := tupleKind (mixKind X.prog X.w)) (Q := fun d s' => wpAny (model X.prog X.w) X.A (pure (Value.ref d)) (EP X pins σ Q) X.xe s') hu (by simp) ?_)))
  refine thn hrun fun ws s2 ⟨ps, H2, I2, rel, q2⟩ => ?_
  cases rel with
  | nil => exact (show False from q2).elim
  | @cons pv wv _ _ r rr =>
    cases rr with
    | cons _ _ => exact (show False from q2).elim
    | nil =>
      obtain ⟨x, y⟩ := pv
      obtain ⟨uk, uv⟩ := wv
      obtain ⟨e, k, b, ex, eb, q3⟩ := (show H2 s.heap.objs.size = some (.dT []) ∧ ∃ (k : List Key) (b : Addr), x = .ref b ∧ H2 b = some (.tup (k.map kV)) ∧ Q (.ref s.heap.objs.size) (upd H2 s.heap.objs.size (.dT (putK [] k y))) from q2)
      obtain ⟨r1, r2⟩ := r
      subst ex
      cases (show uk = Value.ref b from r1)
      obtain ⟨z, hd, xs, rx, dd⟩ := dt_of I2.hok e
      cases rx
      refine ⟨[(k, b, uv)], ⟨rfl, rfl, key_of I2.hok eb, trivial⟩, dd, fun h' tk' dk hs => wpAny_pure ⟨.ref s.heap.objs.size, _, ?_, rfl, q3⟩⟩
      obtain ⟨o, es, ep, hq, h2, h3, h4, _, h5⟩ := dk
      have rel0 : KT H2 ([] : List (List Key × V)) [] := .nil
      have rel1 : KT (upd H2 s.heap.objs.size (.dT (putK [] k y))) (putK [] k y) (storedH [] k b uv) := (rel0.put k eb r2).keeps fun c ys ec => by
        rw [upd_ne (ne_of ec e (fun z => nomatch z))]
        exact ec
      have hz : (putK ([] : List (List Key × V)) k y).length ≤ sizeLine := by
        have := length_putK ([] : List (List Key × V)) k y
        rw [List.length_nil] at this
        rw [sizeLine_eq]
        omega
      exact d_write I2 (by rw [e]; exact True.intro) hs ⟨o, hq⟩ ⟨hz, hd, _, rel1, o, es, ep, hq, h2, h3, h4, h5⟩
end L2
namespace Pev
open PySem PySem.Spec PyProof.Rows L2
open LamX (Tabs TabS CodeO)
section
variable {X : Cx} {g : Gh} {call : Calls} {lamc : Nat → (Option (List PD) → FO) → Option (List PD) → FO} {actf : Option (List PD) → FO} {W : WX}
  {e a b : Expr} {ik iv : IE} {pos : Pos}
theorem hand_dic {hd : Dy} {p : Addr} {h : Option (List PD)} {H : Hp} (q : HandAt g (hdL hd p) (fun a => (hdL hd p).p = some a ∨ (hdL hd p).Z a) h H) : HandAt g hd (fun a => hd.p = some a ∨ hd.Z a) h H :=
  handAt_hd (hd := hdL hd p) rfl (HandAt.less q fun a z => z.imp id .inl)
/-- the key is no whole number, no text -/
theorem s_dicT (hu : X.A.units + 64 < cLine) (hk : PE X a (tEv g call lamc actf W ik)) (hv : PE X b (tEv g call lamc actf W iv)) : PE X (.Dict [some a] [b] pos) (fun σ H Q => ∃ (hd : Dy) (s : S), Cl g hd σ s H ∧ (∀ rv s1 d, ev call lamc actf ik s = .ok rv s1 → rv.v = .dat d → iKey d = false) ∧ Post g W hd σ s H (RE g hd σ) (ev call lamc actf (.dic ik iv) s) Q) :=
  PE.imp (pe_dispT (by omega) hk hv) fun σ H Q ⟨hd, s, c, nik, post⟩ p hp => by
    rw [ev] at post
    have c0 : Ok g hd (fun b => Bz hd σ s.ρ b ∨ b = p) σ s (upd H p (.dT [])) := c.new hp (fun _ z => .inl z) (fun a z => z.imp id fun e => ⟨e, trivial⟩)
    have c' : Cl g (hdL hd p) σ s (upd H p (.dT [])) := c0.amb (fun a z => z.elim (fun z => .inl (.inl z)) fun z => z.imp .inr id) fun a i d h1 h2 z => by
      rcases z with z | z
      · obtain ⟨q, q1, _, _, q4⟩ := c.owns i d h1
        rw [h2] at q1
        cases q1
        exact q4 z
      · subst z
        exact c.fresh hp (.inl (.inr ⟨i, d, h1, h2⟩))
    have fr0 : Fr (Av hd σ s.ρ) H (upd H p (.dT [])) := Fr.new hp
    refine ⟨hdL hd p, s, c', ?_⟩
    cases e1 : ev call lamc actf ik s with
    | bad => rw [e1] at post; exact post.elim
    | exc n h => rw [e1] at post; exact fun H1 fr hh tb => post H1 (fr0.trans fr fun a z => .inl z) (hand_dic hh) tb
    | ok rv s1 =>
    intro x H1 fr1 le1 r1
    obtain ⟨c1, r1⟩ := r1.drop
    rw [e1] at post
    refine ⟨hdL hd p, s1, c1, ?_⟩
    have fr01 : Fr (Av hd σ s.ρ) H H1 := fr0.trans fr1 fun a z => .inl z
    cases e2 : ev call lamc actf iv s1 with
    | bad => simp only [Out.bind, e2] at post; exact post.elim
    | exc n h => simp only [Out.bind, e2] at post; exact fun H2 fr hh tb => post H2 (fr01.trans fr fun a z => .inl (le1 a z)) (hand_dic hh) tb
    | ok rv2 s2 =>
    intro y H2 fr2 le2 r2
    obtain ⟨c2, r2⟩ := r2.drop
    have r1 := RpV.on fr2 le2 r1
    have fr02 : Fr (Av hd σ s.ρ) H H2 := fr01.trans fr2 fun a z => .inl (le1 a z)
    simp only [Out.bind, e2] at post
    split at post
    · rename_i d e' g1 g2
      rw [g1] at r1
      rw [g2] at r2
      split at post
      · rename_i ik
        obtain ⟨k, rfl⟩ := isKey_of ik
        have r1 : Rp g.K H2 (Bz (hdL hd p) σ s2.ρ) x (.tuple (k.map kD)) := r1
        have r2 : Rp g.K H2 (Bz (hdL hd p) σ s2.ρ) y e' := r2
        obtain ⟨b', rfl, hb⟩ := nw_key r1.nw
        have pav : ∀ {s : S}, AvLe hd σ s.ρ s.ρ := fun {s} => AvLe.refl
        have nAv : ¬ Av hd σ s.ρ p := fun z => c.fresh hp (.inl z)
        have hp2 : H2 p = some (.dT []) := fr2.keep p _ (fr1.keep p _ upd_same (fun z => nAv z) fun _ z => by cases z) (fun z => nAv (le1 p z)) fun _ z => by cases z
        have leB : ∀ b, (Bz hd σ s2.ρ b ∨ b = p) → Bz (hdL hd p) σ s2.ρ b := fun b z => z.elim (fun z => z.imp id .inl) fun z => .inr (.inr z)
        have hpp : (hdL hd p).p ≠ some p := fun z => nAv (.inl z)
        have c3 := c2.updZ (o := .dT (putK [] k y)) (.inr rfl) hp2 trivial trivial hpp
        have frs : Fr (Bz (hdL hd p) σ s2.ρ) H2 (upd H2 p (.dT (putK [] k y))) := Fr.set hp2 (.inr (.inr rfl))
        refine ⟨hp2, k, b', rfl, hb, ?_⟩
        have post : Post g W hd σ s H (RE g hd σ) (.ok (rvD (.dict [(.tuple (k.map kD), e')]) true) s2) Q := post
        refine post.here rfl (fr02.trans (B' := fun b => b = p) (Fr.set hp2 rfl) fun a z => .inr (by rw [z]; exact nn hp)) (AvLe.trans le2 le1) ?_
        refine .inr ⟨rfl, p, _, rfl, rfl, nn hp, fun z => c.fresh hp (z.imp (fun z => le1 p (le2 p z)) id), ?_, ?_⟩
        · refine ⟨c3.len, fun b z => .inl (.inl z), fun b z => c3.mu b (leB b z), fun i v q => ?_, fun i d q => ?_, c3.apart, handAt_hd (hd := hdL hd p) rfl (HandAt.less c3.hand leB), c3.tabs⟩
          · obtain ⟨w, q1, q2⟩ := c3.vals i v q
            exact ⟨w, q1, rpV_hd (hd := hdL hd p) rfl (rpV_less leB q2)⟩
          · obtain ⟨w, q1, q2, q3, q4⟩ := c3.owns i d q
            exact ⟨w, q1, q2.stay (Fr.refl _ _) (fun b z => .inl (leB b z)) (fun _ z => z), q3, fun z => q4 (.inl z)⟩
        · refine ⟨_, upd_same, ?_⟩
          have q := (RpD.cons (k := k) r2 .nil : RpD g.K H2 (Bz (hdL hd p) σ s2.ρ) [(k, y)] [(.tuple (k.map kD), e')])
          exact RpD.stay frs (fun b z => .inl (leB b z)) q
      · split at post
        · rename_i z
          rw [nik _ _ _ e1 g1] at z
          cases z
        · exact post.elim
    · exact post.elim
/-- the key is a whole number, a text -/
theorem s_dicI (hu : X.A.units + 64 < cLine) (hk : PE X a (tEv g call lamc actf W ik)) (hv : PE X b (tEv g call lamc actf W iv)) : PE X (.Dict [some a] [b] pos) (fun σ H Q => ∃ (hd : Dy) (s : S), Cl g hd σ s H ∧ (∃ rv s1 d, ev call lamc actf ik s = .ok rv s1 ∧ rv.v = .dat d ∧ iKey d = true) ∧ Post g W hd σ s H (RE g hd σ) (ev call lamc actf (.dic ik iv) s) Q) :=
  PE.imp (pe_disp (pps_cons hk hv pps_nil) rfl rfl (by simp) (by simp)) fun σ H Q ⟨hd, s, c, ⟨rv, s1, dk, e1, edk, ikk⟩, post⟩ p hp => by
    show tEv g call lamc actf W ik σ (upd H p (.dK [])) fun x H1 => tEv g call lamc actf W iv σ H1 fun y H2 => H2 p = some (.dK []) ∧ ∃ kvs : List (L2.Key × V), [(x, y)] = kvs.map (fun kv => (kV kv.1, kv.2)) ∧ kvs.length ≤ 15 ∧ Q (.ref p) (upd H2 p (.dK (mergeK [] kvs)))
    rw [ev] at post
    have c0 : Ok g hd (fun b => Bz hd σ s.ρ b ∨ b = p) σ s (upd H p (.dK [])) := c.new hp (fun _ z => .inl z) (fun a z => z.imp id fun e => ⟨e, trivial⟩)
    have c' : Cl g (hdL hd p) σ s (upd H p (.dK [])) := c0.amb (fun a z => z.elim (fun z => .inl (.inl z)) fun z => z.imp .inr id) fun a i d h1 h2 z => by
      rcases z with z | z
      · obtain ⟨q, q1, _, _, q4⟩ := c.owns i d h1
        rw [h2] at q1
        cases q1
        exact q4 z
      · subst z
        exact c.fresh hp (.inl (.inr ⟨i, d, h1, h2⟩))
    have fr0 : Fr (Av hd σ s.ρ) H (upd H p (.dK [])) := Fr.new hp
    refine ⟨hdL hd p, s, c', ?_⟩
    rw [e1]
    intro x H1 fr1 le1 r1
    obtain ⟨c1, r1⟩ := r1.drop
    rw [e1] at post
    refine ⟨hdL hd p, s1, c1, ?_⟩
    have fr01 : Fr (Av hd σ s.ρ) H H1 := fr0.trans fr1 fun a z => .inl z
    cases e2 : ev call lamc actf iv s1 with
    | bad => simp only [Out.bind, e2] at post; exact post.elim
    | exc n h => simp only [Out.bind, e2] at post; exact fun H2 fr hh tb => post H2 (fr01.trans fr fun a z => .inl (le1 a z)) (hand_dic hh) tb
    | ok rv2 s2 =>
    intro y H2 fr2 le2 r2
    obtain ⟨c2, r2⟩ := r2.drop
    have r1 := RpV.on fr2 le2 r1
    have fr02 : Fr (Av hd σ s.ρ) H H2 := fr01.trans fr2 fun a z => .inl (le1 a z)
    simp only [Out.bind, e2] at post
    split at post
    · rename_i d e' g1 g2
      rw [g1] at r1
      rw [g2] at r2
      rw [g1] at edk
      cases edk
      obtain ⟨k, ek⟩ := Option.isSome_iff_exists.mp ikk
      have := keyItem_of ek
      subst this
      rw [isKey_kD, if_neg Bool.false_ne_true, if_pos ikk] at post
      have r1 : Rp g.K H2 (Bz (hdL hd p) σ s2.ρ) x (kD k) := r1
      have r2 : Rp g.K H2 (Bz (hdL hd p) σ s2.ρ) y e' := r2
      have ex := rp_key r1
      subst ex
      have nAv : ¬ Av hd σ s.ρ p := fun z => c.fresh hp (.inl z)
      have hp2 : H2 p = some (.dK []) := fr2.keep p _ (fr1.keep p _ upd_same (fun z => nAv z) fun _ z => by cases z) (fun z => nAv (le1 p z)) fun _ z => by cases z
      have leB : ∀ b, (Bz hd σ s2.ρ b ∨ b = p) → Bz (hdL hd p) σ s2.ρ b := fun b z => z.elim (fun z => z.imp id .inl) fun z => .inr (.inr z)
      have hpp : (hdL hd p).p ≠ some p := fun z => nAv (.inl z)
      have c3 := c2.updZ (o := .dK [(k, y)]) (.inr rfl) hp2 trivial trivial hpp
      have frs : Fr (Bz (hdL hd p) σ s2.ρ) H2 (upd H2 p (.dK [(k, y)])) := Fr.set hp2 (.inr (.inr rfl))
      refine ⟨hp2, [(k, y)], rfl, by simp, ?_⟩
      show Q (.ref p) (upd H2 p (.dK [(k, y)]))
      have post : Post g W hd σ s H (RE g hd σ) (.ok (rvD (.dict [(kD k, e')])) s2) Q := post
      refine post.here rfl (fr02.trans (B' := fun b => b = p) (Fr.set hp2 rfl) fun a z => .inr (by rw [z]; exact nn hp)) (AvLe.trans le2 le1) ?_
      have leC : ∀ b, Bz hd σ s2.ρ b → Bz (hdL hd p) σ s2.ρ b := fun b z => leB b (.inl z)
      refine .inl ⟨rfl, ?_, ?_⟩
      · refine ⟨c3.len, fun b z => .inl z, fun b z => c3.mu b (leC b z), fun i v q => ?_, fun i d q => ?_, c3.apart, handAt_hd (hd := hdL hd p) rfl (HandAt.less c3.hand leC), c3.tabs⟩
        · obtain ⟨w, q1, q2⟩ := c3.vals i v q
          exact ⟨w, q1, rpV_hd (hd := hdL hd p) rfl (rpV_less leC q2)⟩
        · obtain ⟨w, q1, q2, q3, q4⟩ := c3.owns i d q
          exact ⟨w, q1, q2.stay (Fr.refl _ _) (fun b z => .inl (leC b z)) (fun _ z => z), q3, fun z => q4 (.inl z)⟩
      · have q := (RpK.cons (k := k) r2 .nil : RpK g.K H2 (Bz (hdL hd p) σ s2.ρ) [(k, y)] [(kD k, e')])
        exact Rp.dik (fun z => c.fresh hp (z.imp (fun z => le1 p (le2 p z)) id)) upd_same (by simp) (RpK.stay frs (fun b z => .inl (leC b z)) q)
    · exact post.elim
theorem s_dic (hu : X.A.units + 64 < cLine) (hk : PE X a (tEv g call lamc actf W ik)) (hv : PE X b (tEv g call lamc actf W iv)) : PE X (.Dict [some a] [b] pos) (tEv g call lamc actf W (.dic ik iv)) := by
  refine ⟨fun pins st σ H Q I ⟨hd, s, c, post⟩ => ?_⟩
  by_cases hx : ∃ rv s1 d, ev call lamc actf ik s = .ok rv s1 ∧ rv.v = .dat d ∧ iKey d = true
  · exact (s_dicI hu hk hv).run pins st σ H Q I ⟨hd, s, c, hx, post⟩
  · refine (s_dicT hu hk hv).run pins st σ H Q I ⟨hd, s, c, fun rv s1 d e1 e2 => ?_, post⟩
    cases hz : iKey d with
    | false => rfl
    | true => exact (hx ⟨rv, s1, d, e1, e2, hz⟩).elim
end
end Pev
set_option maxRecDepth 100000
set_option autoImplicit false
/-! Pev, soundness 20: try, isinstance of an exception. -/
namespace Pev
open PySem PySem.Spec PyProof.Rows L2
open LamX (Tabs TabS CodeO)

/-- the exception c is in hand, at a -/
def gS (g : Gh) (a : Addr) (c : Nat) : Gh := { g with ea := fun c' b => c' = c ∧ b = a }
section
variable {g : Gh} {hd : Dy} {σ : L2.St} {s : S} {H H' : Hp} {a : Addr} {c : Nat}
theorem rpV_gS {B : Addr → Prop} {x : V} {v : Val} (h0 : ∀ c a, ¬ g.ea c a) (r : RpV g hd H B x v) : RpV (gS g a c) hd H B x v := by
  cases v with
  | exn c => obtain ⟨b, q, _⟩ := r; exact (h0 _ _ q).elim
  | _ => exact r
theorem rpV_back {B : Addr → Prop} {x : V} {v : Val} (h : isExn v = false) (r : RpV (gS g a c) hd H B x v) : RpV g hd H B x v := by
  cases v with
  | exn c => cases h
  | _ => exact r
theorem cl_gS (h0 : ∀ c a, ¬ g.ea c a) (cl : Cl g hd σ s H) : Cl (gS g a c) hd σ s H :=
  ⟨cl.len, cl.av, cl.mu, fun i v e => by
    obtain ⟨x, q1, q2⟩ := cl.vals i v e
    exact ⟨x, q1, rpV_gS h0 q2⟩, cl.owns, cl.apart, cl.hand, cl.tabs⟩
theorem cl_back (hn : noExn s.ρ = true) (cl : Cl (gS g a c) hd σ s H) : Cl g hd σ s H :=
  ⟨cl.len, cl.av, cl.mu, fun i v e => by
    obtain ⟨x, q1, q2⟩ := cl.vals i v e
    refine ⟨x, q1, rpV_back ?_ q2⟩
    have z := List.all_eq_true.mp hn _ (List.mem_of_getElem? e)
    simpa using z, cl.owns, cl.apart, cl.hand, cl.tabs⟩
/-- nothing is owned here -/
theorem noOwn_no (hn : noOwn s.ρ = true) (i : Nat) (d : PD) : s.ρ[i]? ≠ some (Slot.own d) := fun e => by
  have z := List.all_eq_true.mp hn _ (List.mem_of_getElem? e)
  cases z
/-- when an exception has come -/
theorem cl_exc {h : Option (List PD)} (cl : Cl g hd σ s H) (hn : noOwn s.ρ = true) (fr : Fr (Av hd σ s.ρ) H H') (hh : HandAt g hd (fun a => hd.p = some a ∨ hd.Z a) h H') (tb : Tabs g.T H') : Cl g hd σ ⟨s.ρ, h⟩ H' := by
  have av : ∀ a, Av hd σ s.ρ a → hd.p = some a := fun a z => z.elim id fun ⟨i, d, e, _⟩ => (noOwn_no hn i d e).elim
  refine cl_after cl (fr.mono fun a z => .inl (av a z)) tb (fun _ z => z) (fun _ z => .inl z) (HandAt.less hh fun a z => z.imp (av a) id)
theorem cl_unset {i : Nat} (cl : Cl g hd σ s H) : Cl g hd (σ.set i none) { s with ρ := s.ρ.set i .emp } H ∧ ∀ a, Av hd (σ.set i none) (s.ρ.set i .emp) a → Av hd σ s.ρ a := by
  have k : ∀ (j : Nat) (x : Slot), (s.ρ.set i .emp)[j]? = some x → x ≠ .emp → s.ρ[j]? = some x ∧ (σ.set i none)[j]? = σ[j]? := fun j x e hx => by
    rw [List.getElem?_set] at e
    split at e
    · split at e
      · cases e; exact absurd rfl hx
      · cases e
    · rename_i ne
      exact ⟨e, List.getElem?_set_ne ne⟩
  exact cl.re (by rw [List.length_set, List.length_set]; exact cl.len) (fun j d e => k j _ e (by intro z; cases z)) fun j v e => .inl (k j _ e (by intro z; cases z))
end

section
variable {X : Cx} {g : Gh} {call : Calls} {lamc : Nat → (Option (List PD) → FO) → Option (List PD) → FO} {actf : Option (List PD) → FO} {wf : Nat} {W : WX}
  {e : Expr} {ie : IE} {b₀ : Stmt} {suite : List Stmt} {ibl : IB}
/-- the suite's reading, whatever exception is in hand -/
def tsS (g : Gh) (call : Calls) (lamc : Nat → (Option (List PD) → FO) → Option (List PD) → FO) (actf : Option (List PD) → FO) (wf : Nat) (ibl : IB) : Addr → Value → Option Addr → TS := fun a cls d D σ H => ∃ c, cls = .ref (g.C c) ∧ d = none ∧ tSs (gS g a c) call lamc actf wf W0 ibl D σ H
theorem suite_ok {a : Addr} {oe : Obj} {cls : Value} {d : Option Addr} {pn : List (Addr × Obj)}
    (h : ∀ c, cls = .ref (g.C c) → d = none → PSs (X.suite a ((a, oe) :: pn)) (b₀ :: suite) (tSs (gS g a c) call lamc actf wf W0 ibl)) : PSs (X.suite a ((a, oe) :: pn)) (b₀ :: suite) (tsS g call lamc actf wf ibl a cls d) :=
  ⟨fun pins st σ H D I ⟨c, e1, e2, q⟩ => (h c e1 e2).run pins st σ H D I q⟩
/-- a tried expression, and what is done with its value -/
def tryT (k : Tk) (te : TE) : TS := fun D σ H => te σ H fun x H1 => match k with
  | .drop => D.nx σ H1
  | .ret => D.rt x H1
  | .set j => D.nx (σ.set j (some x)) H1
theorem try_imp {k : Tk} {i : Nat} {cv : Value} (hK : X.K = g.K) (h0 : ∀ c a, ¬ g.ea c a) (hm : ∀ c, PySem.W.exmOne X.K (.ref (g.C c)) cv = some true) (D : Ends) (σ : L2.St) (H : Hp) (q : tS g call lamc actf wf W (.try1 ie k i ibl) D σ H) :
    tryT k (tEv g call lamc actf (wAs X.K cv i (tsS g call lamc actf wf ibl) W D) ie) D σ H := by
  obtain ⟨hd, s, cl, post⟩ := q
  rw [evS] at post
  split at post
  · rename_i hno
    refine ⟨hd, s, cl, ?_⟩
    cases e1 : ev call lamc actf ie s with
    | bad => rw [e1] at post; exact post.elim
    | ok rv s1 =>
      rw [e1] at post
      intro x H1 fr le r
      cases k with
      | drop =>
        have post : PostS g W hd σ s H D (.nxt s1) := post
        exact post hd σ H1 PLe.refl fr (fun a z => .inl (le a z)) r.drop.1
      | ret =>
        have post : PostS g W hd σ s H D (.ret rv s1) := post
        obtain ⟨tb, rt⟩ := r.rt (own := fun a => Av hd σ s.ρ a ∨ Nn H a) fun a z => .inr z
        exact post hd x H1 PLe.refl fr tb rt
      | set j =>
        have post : PostS g W hd σ s H D (.nxt (store j rv s1)) := post
        obtain ⟨c1, l1⟩ := store_re (i := j) r
        exact post hd _ H1 PLe.refl fr (fun a z => (l1 a z).imp (le a) id) c1
    | exc c' h =>
      rw [e1] at post
      simp only at post
      intro H1 fr hh tb
      refine ⟨true, hm c', fun _ a ha => ⟨c', rfl, rfl, ?_⟩, fun z => by cases z⟩
      have cE := cl_gS (a := a) (c := c') h0 (cl_exc cl hno fr hh tb)
      obtain ⟨c2, le2⟩ := cE.setV (i := i) (x := .ref a) (v := .exn c') ⟨a, ⟨rfl, rfl⟩, rfl⟩
      refine ⟨hd, _, c2, ?_⟩
      cases e2 : evB call lamc actf wf ibl ⟨s.ρ.set i (.val (.exn c')), h⟩ with
      | bad => rw [e2] at post; exact post.elim
      | exc _ _ => rw [e2] at post; exact post.elim
      | ret rv s2 =>
        rw [e2] at post
        simp only at post
        split at post
        · exact post.elim
        · rename_i hx
          have hx : isExn rv.v = false := by simpa using hx
          intro hd' x H2 pl fr2 tb2 rt
          refine post hd' x H2 (PLe.refl.trans pl fr.dom) (fr.trans fr2 fun a z => .inl (le2 a z)) tb2 ?_
          rcases rt with ⟨q1, q2, q3⟩ | ⟨q1, p, d, q2, q3, q4, q5⟩
          · exact .inl ⟨q1, q2, rpV_back hx q3⟩
          · exact .inr ⟨q1, p, d, q2, q3, q4.elim (fun z => .inl (le2 p z)) fun z => .inr (fr.dom p z), q5⟩
      | nxt s2 =>
        rw [e2] at post
        simp only at post
        split at post
        · rename_i hx
          intro hd' σ' H2 pl fr2 le3 c3
          obtain ⟨c4, le4⟩ := cl_unset (i := i) c3
          exact post hd' (σ'.set i none) H2 (PLe.refl.trans pl fr.dom) (fr.trans fr2 fun a z => .inl (le2 a z)) (fun a z => (le3 a (le4 a z)).elim (fun z => .inl (le2 a z)) fun z => .inr (fr.dom a z)) (cl_back hx c4)
        · exact post.elim
  · exact post.elim
section
variable {x n : Str} {i : Nat} {cv : Value} {np pos pos' : Pos} {bst : Stmt} {k : Tk}
theorem q_try (hK : X.K = g.K) (h0 : ∀ c a, ¬ g.ea c a) (hm : ∀ c, PySem.W.exmOne X.K (.ref (g.C c)) cv = some true) (hs : X.stack = X.env :: X.outer) (hf : X.env.frame = some X.env.locals) (hN : X.N.Nodup) (hi : X.N[i]? = some n) (hln : X.env.kindOf n = some .local) (hc : Names X x cv) (tk : Takes X W)
    (hb : ∀ (W' : WX) (pn : List (Addr × Obj)) (xe : Value → Shared → Prop), Takes (X.tr pn xe) W' → PSs (X.tr pn xe) [bst] (tryT k (tEv g call lamc actf W' ie)))
    (hsu : ∀ (a : Addr) (oe : Obj) (pn : List (Addr × Obj)) (c : Nat), Zc (.ref (g.C c)) none oe → (∃ vs, oe.data = .fields vs) → PSs (X.suite a ((a, oe) :: pn)) (b₀ :: suite) (tSs (gS g a c) call lamc actf wf W0 ibl)) :
    PS X (.Try [bst] [.ExceptHandler (some (.Name x np)) (some n) (b₀ :: suite) pos'] [] [] pos) (tS g call lamc actf wf W (.try1 ie k i ibl)) :=
  PS.imp (ps_try_as hs hf hN hi hln hc tk (fun W' pn xe tk' _ => hb W' pn xe tk') fun a oe cls d pn hz hf' => suite_ok fun c e1 e2 => by
    subst e1 e2
    exact hsu a oe pn c hz hf') fun D σ H q => try_imp hK h0 hm D σ H q
/-- the tried piece's three forms -/
theorem try_drop {p : Pos} (he : PE X e (tEv g call lamc actf W ie)) (hs : swapsWith e none p.line X.env = pure false) : PSs X [.Expr e p] (tryT .drop (tEv g call lamc actf W ie)) := pss_one (ps_expr he hs)
theorem try_ret {p : Pos} (he : PE X e (tEv g call lamc actf W ie)) : PSs X [.Return (some e) p] (tryT .ret (tEv g call lamc actf W ie)) := pss_one (ps_ret he)
theorem try_set {j : Nat} {y : Str} {p p2 : Pos} (hN : X.N.Nodup) (hi : X.N[j]? = some y) (hx : Loc X.env.scope y) (he : PE X e (tEv g call lamc actf W ie)) (hs : swapsWith e (some (.Name y p2)) p.line X.env = pure false) (hf : X.fn y = true ∨ X.env.scope.names.lookup y = some .local) :
    PSs X [.Assign [.Name y p2] e p] (tryT (.set j) (tEv g call lamc actf W ie)) := pss_one (ps_set hN hi hx he hs hf)
end
/-! ### isinstance of the exception in hand -/
theorem s_isx {i : Nat} {bs : List Bool} {y t : Str} {p p2 pos : Pos} {cv : V} {u : Value} {a : Addr} {c : Nat} (r : List V → Hp → VK → Prop) (hr : CallR X (.builtin "isinstance") (rIsE X.K (g.C c) a)) (hv : PE X (.Name y p2) (tVar i)) (ht : PE X e (tC cv)) (hcv : ∀ u', RelV cv u' → u' = u) (hk : ∀ c, PySem.W.kitOne X.K (.ref (g.C c)) u = some (bs.getD c (bs.headD false)))
    (nt : noStarE e = true) (hg : Gl X "isinstance") (hm : X.mg "isinstance" = none) : PE X (.Call (.Name "isinstance" p) [.Name y p2, e] [] pos) (tEv (gS g a c) call lamc actf W (.isx i bs)) :=
  PE.imp (pe_callB hr hg hm (by decide +kernel) (pa_cons hv (pa_cons ht pa_nil (star_no nt _ _)) rfl) (by decide) (by decide) rfl (by rw [star_no nt]; rfl)) fun σ H Q ⟨hd, s, cl, post⟩ => by
    rw [ev] at post
    split at post
    · rename_i c' e1
      obtain ⟨x, q1, b, ⟨rfl, rfl⟩, rfl⟩ := cl.vals i _ e1
      exact ⟨_, q1, cv, u, _, rfl, hcv, hk c', post.here rfl (Fr.refl _ _) AvLe.refl (RE.val cl (.bl _))⟩
    · exact post.elim
end
end Pev
set_option maxRecDepth 100000
set_option autoImplicit false
set_option maxHeartbeats 1000000
/-! Pev, soundness 21: a lambda handed to a def, the wish about exceptions by the slots. -/
namespace Pev
open PySem PySem.Spec PyProof.Rows L2
open LamX (Tabs TabS CodeO TabB LamS lamCx lamEnv ExtN)

section
variable {X : Cx} {ps0 : List (Addr × Obj)} {σ0 : L2.St} {h0 : Hp} {s0 : Shared}
/-- the context of the def that got it -/
abbrev gCx (X : Cx) (Ng : List Str) (qg : Str) (sg : Scope) (ga : Addr) (cdg : Value) (s : Shared) (H : Hp) : Cx := cxOf C8.CX0 X.prog X.w X.K X.mg X.base Ng qg sg ga cdg X.A X.stack s H C8.E0
/-- a() in that def -/
theorem act_run {Ng : List Str} {qg : Str} {sg : Scope} {ga fl cl : Addr} {cdg pmv ctw : Value} {pars : Arguments} {bd : Expr} {lsc : Scope} {k : Nat} {nm : Str} {pn : List (Addr × Obj)} {xe : Value → Shared → Prop} {W : WX} {t : XK → TE} {q1 q2 : Pos}
    (J : Inv X ps0 σ0 h0 s0) (LS : LamS X.env.scope lsc) (gf : s0.heap.get? fl = some (PySem.W.kla_obj "<lambda>" (X.env.qual ++ "<lambda>") pars bd lsc (cloFrom X.env.cells lsc.names []) pmv cl ctw)) (nf : h0 fl = none) (nfr : fl ∉ frs X.stack)
    (hbi : bindArgs (PySem.W.kla_fn "<lambda>" (X.env.qual ++ "<lambda>") pars bd lsc (cloFrom X.env.cells lsc.names []) pmv (.ref cl) ctw) ⟨[], []⟩ = pure [])
    (tk : Takes ((gCx X Ng qg sg ga cdg s0 h0).tr pn xe) W) (hr : RoomG (k + 1) (X.A.deeper (envOfC qg sg s0.heap.objs.size ga cdg)))
    (hbd : ∀ (A : Around) (outer : List Env) (s : Shared) (H : Hp) (E : XK), RoomG k (A.deeper (lamEnv X lsc s.heap.objs.size fl cl)) → PE (lamCx X A outer s H E lsc fl cl) bd (t E))
    (hN : Ng[0]? = some nm) (hv : Vis sg nm) (hd1 : (nm == ("__debug__" : Str)) = false) (hd2 : (nm == ("__classdict__" : Str)) = false) :
    PE ((gCx X Ng qg sg ga cdg s0 h0).tr pn xe) (.Call (.Name nm q1) [] [] q2) (fun σZ HZ Q => σZ[0]? = some (some (.ref fl)) ∧ HZ cl = some (CodeO cl (X.env.qual ++ "<lambda>")) ∧ t (WE W σZ) σ0 HZ Q) := by
  refine ⟨fun pz sz σz hz Q Iz ⟨e1, e2, e3⟩ => ?_⟩
  have nameRun := (pe_var (X := (gCx X Ng qg sg ga cdg s0 h0).tr pn xe) (pos := q1) (i := 0) hN hv hd1 hd2).run pz sz σz hz (fun v H1 => v = .ref fl ∧ H1 = hz) Iz ⟨.ref fl, e1, rfl, rfl⟩
  refine wpAny_Call_Name_kw (thn nameRun fun u s1 ⟨v, H1, I1, r1, ev1, eH1⟩ => ?_)
  subst ev1
  rw [eH1] at I1
  cases (show u = Value.ref fl from r1)
  have at1 := I1.base.keep fl _ gf nf nfr (fun z => nomatch (show fl ∈ ([] : List Addr) from z))
  refine PySem.W.callWith_F0 ⟨_, _, _, _, at1⟩ ?_
  have unz : Un (frs X.stack) [] h0 hz s0.heap s1.heap := I1.base
  obtain ⟨⟨oc, vs, tt, g1, g2, g3⟩, _, _⟩ := I1.hok cl _ e2
  have deep : codeAny (model X.prog X.w) (X.A.deeper (envOfC qg sg s0.heap.objs.size ga cdg)) (.call (.ref fl) ⟨[], []⟩) (CR (L2.CX X.prog X.w) (envOfC qg sg s0.heap.objs.size ga cdg :: X.stack) X.prog X.w hz s1 Q (WE W σz)) s1 := by
    refine PySem.W.kla_callFunE hr.r.depth at1 rfl LS.co LS.gen rfl ⟨cl, oc, vs, tt, rfl, g1, g2, g3⟩ ?_
    rw [hbi]
    refine wpAny_pure (wpAny_newFunctionEnv (fun y hy => (LS.own y hy).2) (fun y hy => absurd hy (by simp)) (fun hh hns hsb => ⟨I1.nolimit.fresh _ hsb, ?_⟩) LS.kind)
    show codeAny _ _ (.expr bd (lamEnv X lsc s1.heap.objs.size fl cl)) _ _
    have keeps : ∀ b o, s1.heap.get? b = some o → hh.get? b = some o := fun b o z => hsb.extBut b o (Nat.ne_of_lt (Heap.lt_size z)) (Heap.get?_push_of_some _ z)
    have J2 := LamX.lam_start2 (E := WE W σz) (f := fl) (c' := cl) (tk := s1.toks + ([] : List (Str × Value)).length) (scope := lsc) J LS I1.env0 hr.r.hd unz hns keeps
    refine PySem.W.kla_codeExpr (wpAny_mono ((hbd _ _ s1 hz (WE W σz) (hr.deeper _)).run [] _ _ hz Q J2 e3) (fun v s' hq => ?_) fun e s' hq => hq)
    obtain ⟨w', H', J', rv, q⟩ := hq
    exact ⟨w', H', J'.os, J'.bare, J'.base, J'.hok, rv, q⟩
  refine wpAny_call (codeAny_mono deep fun r s' hq => ?_)
  cases r with
  | error e => exact passAt tk σz pz hz s1 e s' I1 hq
  | ok fw =>
    cases fw with
    | ret u => exact I1.after hq
    | next => exact False.elim hq
    | brk => exact False.elim hq
    | cont => exact False.elim hq
end
/-- the def that got a lambda: what its body makes of the lambda's reading tl -/
def Gives (X : Cx) (Ng : List Str) (qg : Str) (sg : Scope) (ga : Addr) (cdg : Value) (bg : List Stmt) (nm : Str) (q : Str) (TT : (XK → Hp → VK → Prop) → Hp → VK → Prop) : Prop :=
  ∀ (fl cl : Addr) (s : Shared) (H : Hp) (Q : VK) (tl : XK → Hp → VK → Prop), RoomG 0 (X.A.deeper (envOfC qg sg s.heap.objs.size ga cdg)) →
    (∀ (W : WX) (pn : List (Addr × Obj)) (xe : Value → Shared → Prop) (q1 q2 : Pos), Takes ((gCx X Ng qg sg ga cdg s H).tr pn xe) W →
      PE ((gCx X Ng qg sg ga cdg s H).tr pn xe) (.Call (.Name nm q1) [] [] q2) (fun σZ HZ Q => σZ[0]? = some (some (.ref fl)) ∧ HZ cl = some (CodeO cl q) ∧ tl (WE W σZ) HZ Q)) →
    H cl = some (CodeO cl q) → TT tl H Q →
    ∃ t, PSs (gCx X Ng qg sg ga cdg s H).nox bg t ∧ t { nx := fun _ H' => Q .non H', rt := Q } (L2.start Ng [.ref fl]) H
section
variable {X : Cx}
theorem lam_call {T : List (Addr × Str)} {TT : (XK → Hp → VK → Prop) → Hp → VK → Prop} {x nm : Str} {ga c P : Addr} {k : Nat} {pg : Arguments} {bg : List Stmt} {sg : Scope} {dV kV doc pmg cdg ctg oc : Value} {an od : Option Addr} {osl : Array (Option Value)} {Ng : List Str}
    {pars : Arguments} {bd : Expr} {lsc : Scope} {t : XK → TE} {p0 pl pos : Pos} (hg : Gl X x) (hm : X.mg x = some (.ref ga)) (hk : PySem.W.keepIn X.K (.ref ga) = true)
    (lk : X.K.lookup ga = some ⟨oc, od, .func (PySem.W.fnOf x x pg bg sg dV kV doc pmg an cdg ctg), osl⟩) (hcg : PySem.W.codeIn X.K cdg x = true) (hb : L2.Binds X.K (PySem.W.fnOf x x pg bg sg dV kV doc pmg an cdg ctg) [nm] []) (Sg : FnScope Ng [nm] sg) (hNg : Ng[0]? = some nm) (hva : Vis sg nm)
    (hG : Gives X Ng x sg ga cdg bg nm (X.env.qual ++ "<lambda>") TT)
    (TB : TabB X.base X.mg c P) (hcode : X.env.code = .ref c) (hmT : (P, X.env.qual ++ "<lambda>") ∈ T) (hu : ∀ p ∈ T, p.1 = P → p.2 = X.env.qual ++ "<lambda>") (hr : RoomG (k + 2) X.A) (LS : LamS X.env.scope lsc) (hdef : defaultsOf pars X.env = ([], []))
    (hbi : ∀ (q : Str) (cl : List (Str × Addr)) (pm cv ctv : Value), bindArgs (PySem.W.kla_fn "<lambda>" q pars bd lsc cl pm cv ctv) ⟨[], []⟩ = pure [])
    (hbd : ∀ (A : Around) (outer : List Env) (s : Shared) (H : Hp) (E : XK) (fl cl : Addr), RoomG k (A.deeper (lamEnv X lsc s.heap.objs.size fl cl)) → PE (lamCx X A outer s H E lsc fl cl) bd (t E))
    (hd0 : (x == ("__debug__" : Str)) = false) (hd1 : (nm == ("__debug__" : Str)) = false) (hd2 : (nm == ("__classdict__" : Str)) = false) :
    PE X (.Call (.Name x p0) [.Lambda pars bd lsc pl] [] pos) (LamX.tLam T TT t) := by
  refine ⟨fun ps1 s σ H Q J ⟨hT, hh⟩ => ?_⟩
  refine wpAny_Call_Name_kw (ld_glob J hg hm ?_ hd0)
  refine PySem.W.callWith_K (h₀ := X.base) J.ok.mod.kin hk ?_ (by rfl) (by rfl)
  show wpAny _ _ (spliced ((false, eval (.Lambda pars bd lsc pl) X.env) :: backTo pos (starEach [] X.env))) _ _ s
  refine Calls.spliced_cons (LamX.lam_make2 J TB hcode hmT hu hT hdef (LS.has J.ok) fun fl cl pmv ctw H1 s1 J1 eN T1 gf nf nfr hco => Calls.spliced_nil ⟨J1.kIn, ?_⟩)
  have deep : codeAny (model X.prog X.w) X.A (.call (.ref ga) ⟨[.ref fl], []⟩) (CR C8.CX0 X.stack X.prog X.w H1 s1 Q C8.E0) s1 := by
    refine LamX.run_ofS (N := Ng) (ps := [nm]) (us := [.ref fl]) (vs := [.ref fl]) lk hcg Sg hr.r J1.env0 (hb s1 [.ref fl] J1.kIn rfl) (.cons rfl .nil) rfl fun hr0 => ?_
    have hr1 : RoomG (k + 1) (X.A.deeper (envOfC x sg s1.heap.objs.size ga cdg)) := ⟨hr0, hr.g⟩
    obtain ⟨t1, a1, a2⟩ := hG fl cl s1 H1 Q (fun E H' Q' => t E σ H' Q') (hr1.mono (Nat.zero_le _)) (fun W pn xe q1 q2 tk => act_run J1 LS gf nf nfr (hbi _ _ _ _ _) tk hr1 (fun A outer s H E hr2 => hbd A outer s H E fl cl hr2) hNg hva hd1 hd2) hco (hh H1 eN T1)
    exact ⟨t1, a1.nox, a2⟩
  refine wpAny_call (codeAny_mono deep fun r s2 hq => ?_)
  cases r with
  | error e => exact (show False from hq).elim
  | ok fw =>
    cases fw with
    | ret u => exact J1.after hq
    | next => exact False.elim hq
    | brk => exact False.elim hq
    | cont => exact False.elim hq
end
end Pev
set_option maxRecDepth 100000
set_option autoImplicit false
/-! Pev, soundness 22: the lambda's two sides; a def's end. -/
namespace Pev
open PySem PySem.Spec PyProof.Rows L2
open LamX (Tabs TabS CodeO TabB LamS lamCx lamEnv ExtN)

/-- another reading of what was got -/
def gL (g : Gh) (l : Option Addr → V → Hp → (Addr → Prop) → Prop) (ls : ∀ {p : Option Addr} {x : V} {H H' : Hp} {B B' : Addr → Prop}, Fr B H H' → (∀ a, B' a → B a ∨ Nn H a) → l p x H B → l p x H' B') : Gh := { g with la := l, las := ls }
section
variable {g : Gh} {l : Option Addr → V → Hp → (Addr → Prop) → Prop} {ls : ∀ {p : Option Addr} {x : V} {H H' : Hp} {B B' : Addr → Prop}, Fr B H H' → (∀ a, B' a → B a ∨ Nn H a) → l p x H B → l p x H' B'}
  {hd : Dy} {σ : L2.St} {s s0 : S} {H H0 H' : Hp}
theorem rpV_gL {B : Addr → Prop} {x : V} {v : Val} (h : isLmb v = false) (r : RpV (gL g l ls) hd H B x v) : RpV g hd H B x v := by
  cases v with
  | lmb => cases h
  | _ => exact r
theorem rpV_toL {B : Addr → Prop} {x : V} {v : Val} (h : isLmb v = false) (r : RpV g hd H B x v) : RpV (gL g l ls) hd H B x v := by
  cases v with
  | lmb => cases h
  | _ => exact r
theorem RE.rx {rv : RV} {x : V} (r : RE g hd σ H0 rv x s H) : RX g hd s.h H0 rv.v rv.fr x H := by
  rcases r with ⟨e, c, r⟩ | ⟨e, p, d, rfl, ev, hp, n, ok, at'⟩
  · exact .inl ⟨e, HandAt.less c.hand b0_of, rpV_less b0_of r⟩
  · have hB : ∀ b, (B0 hd b ∨ b = p) → (Bz hd σ s.ρ b ∨ b = p) := fun b z => z.imp (b0_of b) id
    exact .inr ⟨e, p, d, rfl, ev, hp, ok.mu p (.inr rfl), HandAt.less ok.hand hB, at'.stay (Fr.refl _ _) (fun b z => .inl (hB b z)) fun _ z => z⟩
theorem RX.toL {h : Option (List PD)} {v : Val} {fr : Bool} {x : V} (hv : isLmb v = false) (r : RX g hd h H v fr x H') : RX (gL g l ls) hd h H v fr x H' := by
  rcases r with ⟨e, q1, q2⟩ | q
  · exact .inl ⟨e, q1, rpV_toL hv q2⟩
  · exact .inr q

/-! ### a def's end -/
theorem drop_hand {hd' : Dy} {h0 h : Option (List PD)} {B B' : Addr → Prop} (h00 : HandAt g hd B' h0 H0) (pl : PLe H0 hd hd') (q : HandAt g hd' B h H) : HandAt g hd B (dropH h0 h) H := by
  cases h0 with
  | none =>
    have hp : hd.p = none := by
      unfold HandAt at h00
      cases z : hd.p with
      | none => rfl
      | some a => rw [z] at h00; exact h00.elim
    unfold HandAt dropH
    rw [hp]
    trivial
  | some ds =>
    have e : hd'.p = hd.p := by
      rcases pl.p with e | ⟨e, _⟩
      · exact e
      · unfold HandAt at h00; rw [e] at h00; exact h00.elim
    exact handAt_hd (hd := hd') e q
theorem b0_le {hd' : Dy} (pl : PLe H0 hd hd') (a : Addr) (z : B0 hd a) : B0 hd' a := by
  rcases z with z | z
  · rcases pl.p with e | ⟨e, _⟩
    · exact .inl (by rw [e]; exact z)
    · rw [e] at z; cases z
  · exact .inr (by rw [pl.Z]; exact z)
theorem end_of {W : WX} {E : XK} {Q : VK} {o : SOut} (hA : ∀ a, Av hd σ s0.ρ a → hd.p = some a) (hh : HandAt g hd (B0 hd) s0.h H0) (hE : ∀ c σ' H, E (.ref (g.C c)) none H → W (.ref (g.C c)) none σ' H) (h : EndF g hd H0 Q E (toCall s0.h o)) :
    PostS (gL g l ls) W hd σ s0 H0 { nx := fun _ H' => Q .non H', rt := Q } o := by
  have frp : ∀ {H}, Fr (Av hd σ s0.ρ) H0 H → Fr (fun a => hd.p = some a) H0 H := fun {H} fr => fr.mono fun a z => .inl (hA a z)
  cases o with
  | bad => exact h
  | exc c x =>
    exact fun hd' σ' H pl fr q tb => hE c σ' H (h H (frp fr) (drop_hand hh pl (HandAt.less q fun a z => b0_le pl a z)) tb)
  | nxt s =>
    exact fun hd' σ' H pl fr le c => h .non H (frp fr) c.tabs (.inl ⟨rfl, drop_hand hh pl (HandAt.less c.hand fun a z => b0_of a (b0_le pl a z)), .non⟩)
  | ret rv s =>
    intro hd' x H pl fr tb rt
    obtain ⟨v, fr0⟩ := rv
    have nl : isLmb v = false := by
      cases v with
      | lmb =>
        have h : EndF g hd H0 Q E .bad := by
          have z : toCall s0.h (.ret ⟨.lmb, fr0⟩ s) = .bad := by unfold toCall; cases s0.h <;> rfl
          rw [z] at h
          exact h
        exact h.elim
      | _ => rfl
    have h2 : EndF g hd H0 Q E (.ret v fr0 (dropH s0.h s.h)) ∧ (s0.h = none → v ≠ .hnd) := by
      cases e0 : s0.h with
      | none =>
        rw [e0] at h
        cases v with
        | hnd => exact h.elim
        | lmb => cases nl
        | _ => exact ⟨h, fun _ z => by cases z⟩
      | some ds =>
        rw [e0] at h
        cases v with
        | lmb => cases nl
        | _ => exact ⟨h, fun z => by cases z⟩
    refine h2.1 x H (frp fr) tb ?_
    rcases rt with ⟨e, q1, q2⟩ | ⟨e, a, d, rfl, ev, ho, nb, q1, q2, q3⟩
    · refine .inl ⟨e, drop_hand hh pl (HandAt.less q1 fun a z => b0_le pl a z), ?_⟩
      have q3 := rpV_less (fun a z => b0_le pl a z) (rpV_gL nl q2)
      cases v with
      | hnd =>
        obtain ⟨a, e1, e2⟩ := q3
        rcases pl.p with e3 | ⟨e3, _⟩
        · exact ⟨a, by rw [← e3]; exact e1, e2⟩
        · refine (h2.2 ?_ rfl).elim
          unfold HandAt at hh
          rw [e3] at hh
          cases z : s0.h with
          | none => rfl
          | some ds => rw [z] at hh; exact hh.elim
      | lmb => cases nl
      | dat _ => exact q3
      | fn _ => exact q3
      | exn _ => exact q3
      | scr _ => exact q3
    · have hn : Nn H0 a := ho.elim (fun z => (nb (b0_le pl a (.inl (hA a z)))).elim) id
      exact .inr ⟨e, a, d, rfl, ev, hn, q1, drop_hand hh pl (HandAt.less q2 fun b z => z.imp (b0_le pl b) id), q3.stay (Fr.refl _ _) (fun b z => .inl (z.imp (b0_le pl b) id)) fun _ z => z⟩
end

/-! ### the lambda -/
section
variable {X : Cx} {g : Gh} {call call' : Calls} {lamc lamc' : Nat → (Option (List PD) → FO) → Option (List PD) → FO} {actf : Option (List PD) → FO} {wf : Nat} {W : WX}
def LaOk (g : Gh) (hd : Dy) (σ : L2.St) (ρ : List Slot) (H : Hp) (B : Addr → Prop) : Prop := ∀ (i : Nat) (v : Val), ρ[i]? = some (Slot.val v) → ∃ x, σ[i]? = some (some x) ∧ RpV g hd H B x v
def TTl (g : Gh) (call : Calls) (lamc : Nat → (Option (List PD) → FO) → Option (List PD) → FO) (actf : Option (List PD) → FO) (f : Nat) (b : IE) : (XK → Hp → VK → Prop) → Hp → VK → Prop := fun tl H Q => ∃ (σ : L2.St) (ρ : List Slot) (hd : Dy) (h : Option (List PD)),
  (∀ E H' Q', tEv g call lamc actf (fun cls d _ H => E cls d H) b σ H' Q' → tl E H' Q') ∧ ρ.length = σ.length ∧ (∀ (i : Nat) (d : PD), ρ[i]? ≠ some (Slot.own d)) ∧ LaOk g hd σ ρ H (B0 hd) ∧ HandAt g hd (B0 hd) h H ∧ Tabs g.T H ∧ (∀ a, B0 hd a → ∃ o, H a = some o ∧ isMu o) ∧
  EndF g hd H Q (fun _ _ _ => False) (lamc f (fun h => toFO (ev call lamc actf b ⟨ρ, h⟩)) h)
theorem drop_own (ρ : List Slot) (i : Nat) (d : PD) : (ρ.map dropOwn)[i]? ≠ some (Slot.own d) := fun e => by
  rw [List.getElem?_map] at e
  cases z : ρ[i]? with
  | none => rw [z] at e; cases e
  | some x => rw [z] at e; cases x <;> cases e
theorem drop_val {ρ : List Slot} {i : Nat} {v : Val} (e : (ρ.map dropOwn)[i]? = some (Slot.val v)) : ρ[i]? = some (Slot.val v) := by
  rw [List.getElem?_map] at e
  cases z : ρ[i]? with
  | none => rw [z] at e; cases e
  | some x =>
    rw [z] at e
    cases x with
    | val w => cases e; rfl
    | _ => cases e
theorem fr_ext {B : Addr → Prop} {H H1 : Hp} (e : ExtN H H1) : Fr B H H1 :=
  ⟨fun a o q _ t => e a o q t, fun a n o q => Classical.byContradiction fun z => by
    have q1 := e a o q fun ps w => z ⟨ps, w⟩
    obtain ⟨ps, w⟩ := n o q1
    exact z ⟨ps, w⟩⟩
theorem lam_imp {f : Nat} {b : IE} (σ : L2.St) (H : Hp) (Q : VK) : tEv g call lamc actf W (.lam f b) σ H Q → LamX.tLam g.T (TTl g call lamc actf f b) (fun E => tEv g call lamc actf (fun cls d _ H => E cls d H) b) σ H Q := fun ⟨hd, s, cl, post⟩ => by
  rw [ev] at post
  refine ⟨cl.tabs, fun H1 eN T1 => ?_⟩
  have frN : ∀ {B : Addr → Prop}, Fr B H H1 := fr_ext eN
  have c1 : Cl g hd σ s H1 := cl_after cl frN T1 (fun _ z => z) (fun _ z => .inl z) (HandAt.stay (frN (B := Bz hd σ s.ρ)) (fun a z => .inl z) (fun a ha o e => eN a o e fun ps q => by
    obtain ⟨u, hu, mu⟩ := cl.mu a (.inl (.inl ha))
    rw [e] at hu
    cases hu
    rw [q] at mu
    exact mu) cl.hand)
  have st := start_of c1 (avs := []) (vs := []) .nil
  refine ⟨σ, s.ρ.map dropOwn, hdOf hd σ s.ρ, s.h, fun E H' Q' q => q, by rw [List.length_map]; exact cl.len, drop_own s.ρ, fun i v e => ?_, st.hand, st.tabs, st.mu, ?_⟩
  · obtain ⟨x, q1, q2⟩ := c1.vals i v (drop_val e)
    exact ⟨x, q1, rpV_hd (hd := hd) rfl (rpV_less (fun a z => (b0_bz a).mp z) q2)⟩
  · cases e : lamc f (fun h => toFO (ev call lamc actf b ⟨s.ρ.map dropOwn, h⟩)) s.h with
    | bad => rw [e] at post; exact post.elim
    | exc c h => rw [e] at post; exact post.elim
    | ret v fr h =>
      rw [e] at post
      have post : Post g W hd σ s H (RE g hd σ) (.ok ⟨v, fr⟩ ⟨s.ρ, h⟩) Q := post
      exact fun x H' f tb r => post x H' ((frN (B := Av hd σ s.ρ)).trans f fun a z => .inl (.inl z)) AvLe.refl (RE.up _ _ _ _ _ _ (frN (B := Av hd σ s.ρ)).dom (r.re c1 f tb))
/-- the lambda as the def that got it holds it -/
def laOf (g : Gh) (hd : Dy) (fl cl : Addr) (q : Str) (σ : L2.St) (ρ : List Slot) : Option Addr → V → Hp → (Addr → Prop) → Prop := fun p x H B => p = hd.p ∧ x = .ref fl ∧ H cl = some (CodeO cl q) ∧ ¬ B cl ∧ LaOk g hd σ ρ H B
theorem laOf_stay (g : Gh) (hd : Dy) (fl cl : Addr) (q : Str) (σ : L2.St) (ρ : List Slot) {p : Option Addr} {x : V} {H H' : Hp} {B B' : Addr → Prop} (fr : Fr B H H') (hB : ∀ a, B' a → B a ∨ Nn H a) (h : laOf g hd fl cl q σ ρ p x H B) : laOf g hd fl cl q σ ρ p x H' B' := by
  obtain ⟨h1, h2, h3, h4, h5⟩ := h
  refine ⟨h1, h2, fr.keep cl _ h3 h4 LamX.codeO_ne, fun z => (hB cl z).elim h4 fun n => n.no h3 LamX.codeO_ne, fun i v e => ?_⟩
  obtain ⟨y, q1, q2⟩ := h5 i v e
  exact ⟨y, q1, q2.stay fr hB⟩
abbrev gLam (g : Gh) (hd : Dy) (fl cl : Addr) (q : Str) (σ : L2.St) (ρ : List Slot) : Gh := gL g (laOf g hd fl cl q σ ρ) (laOf_stay g hd fl cl q σ ρ)
/-- a() -/
theorem s_act {ee : Expr} {fl cl : Addr} {q : Str} {σ : L2.St} {ρ : List Slot} {hd : Dy} {b : IE} {tl : XK → Hp → VK → Prop} (htl : ∀ E H' Q', tEv g call lamc actf (fun cls d _ H => E cls d H) b σ H' Q' → tl E H' Q') (hlen : ρ.length = σ.length) (hno : ∀ (i : Nat) (d : PD), ρ[i]? ≠ some (Slot.own d))
    (h : PE X ee (fun σZ HZ Q => σZ[0]? = some (some (.ref fl)) ∧ HZ cl = some (CodeO cl q) ∧ tl (WE W σZ) HZ Q)) :
    PE X ee (tEv (gLam g hd fl cl q σ ρ) call' lamc' (fun h => toFO (ev call lamc actf b ⟨ρ, h⟩)) W (.act 0)) := PE.imp h fun σz HZ Q ⟨hd', s', c', post⟩ => by
  rw [ev] at post
  split at post
  · rename_i e1
    obtain ⟨x, q1, hp, rfl, q3, q4, q5⟩ := c'.vals 0 _ e1
    refine ⟨q1, q3, htl _ _ _ ⟨hdOf hd' σz s'.ρ, ⟨ρ, s'.h⟩, ?_, ?_⟩⟩
    · have avE : ∀ a, Av (hdOf hd' σz s'.ρ) σ ρ a → hd'.p = some a := fun a z => z.elim id fun ⟨i, d, h1, _⟩ => (hno i d h1).elim
      have bzE : ∀ a, Bz (hdOf hd' σz s'.ρ) σ ρ a → Bz hd' σz s'.ρ a := fun a z => z.elim (fun z => .inl (.inl (avE a z))) id
      refine ⟨hlen, fun a z => .inl z, fun a z => c'.mu a (bzE a z), fun i v e => ?_, fun i d e => (hno i d e).elim, fun i j d e a h1 => (hno i d h1).elim, handAt_hd (hd := hd') rfl (HandAt.less c'.hand bzE), c'.tabs⟩
      obtain ⟨y, r1, r2⟩ := q5 i v e
      exact ⟨y, r1, rpV_hd (hd := hd) hp.symm (rpV_less bzE r2)⟩
    · have frE : ∀ {H''}, Fr (Av (hdOf hd' σz s'.ρ) σ ρ) HZ H'' → Fr (fun a => hd'.p = some a) HZ H'' := fun {H''} fr => fr.mono fun a z => .inl (z.elim id fun ⟨i, d, h1, _⟩ => (hno i d h1).elim)
      cases e2 : ev call lamc actf b ⟨ρ, s'.h⟩ with
      | bad => rw [e2] at post; exact post.elim
      | exc n h' =>
        rw [e2] at post
        exact fun H'' fr hh tb => post H'' ((frE fr).mono fun a z => .inl (.inl z)) (handAt_hd (hd := hdOf hd' σz s'.ρ) rfl (HandAt.less hh fun a z => z.imp id .inr)) tb
      | ok rv s3 =>
        rw [e2] at post
        intro x H'' fr le r
        have tb : Tabs g.T H'' := (r.rt (own := fun _ => True) fun _ _ => trivial).1
        simp only [toFO] at post
        split at post
        · exact post.elim
        · rename_i nl
          have nl : isLmb rv.v = false := by simpa using nl
          have post : Post (gLam g hd fl cl q σ ρ) W hd' σz s' HZ (RE (gLam g hd fl cl q σ ρ) hd' σz) (.ok ⟨rv.v, rv.fr⟩ ⟨s'.ρ, s3.h⟩) Q := post
          exact post x H'' ((frE fr).mono fun a z => .inl (.inl z)) AvLe.refl (RX.re c' (frE fr) tb (RX.toL nl r.rx))
  · exact post.elim
end
end Pev
set_option maxRecDepth 100000
set_option autoImplicit false
/-! Pev, soundness 23: several names stored, defs walked, targets. -/
namespace Pev
open PySem PySem.Spec PyProof.Rows L2
open LamX (Tabs TabS CodeO)

/-! ### the order of the stores -/
section
variable {ts vs : List Expr} {k k2 : Nat} {p p2 : Pos} {env : Env}
def swNames (sc : Scope) (ts : List Expr) : List Str := ts.filterMap fun
    | .Name id pos => if sc.names.lookup id == some .local && pos.line == (ts.head?.map (·.pos.line)).getD 0 then some id else none
    | _ => none
theorem no_star_any (h2 : vs.all noStarE = true) : ¬ (vs.any fun | .Starred .. => true | _ => false) = true := by
  rw [Bool.not_eq_true, List.any_eq_false]
  intro x hx
  have z := List.all_eq_true.mp h2 x hx
  cases x <;> first | (cases z; done) | simp
theorem sw_len (h : (!(ts.length == 2 || ts.length == 3) || vs.length != ts.length || env.blockKind != .function) = true) : swappedStores [.Tuple ts k p] (.Tuple vs k2 p2) env = pure none := by
  unfold swappedStores
  exact if_pos h
theorem sw_names (h1 : (!(ts.length == 2 || ts.length == 3) || vs.length != ts.length || env.blockKind != .function) = false) (h2 : vs.all noStarE = true) (h3 : ((swNames env.scope ts).length != ts.length || (swNames env.scope ts).eraseDups.length != (swNames env.scope ts).length) = true) :
    swappedStores [.Tuple ts k p] (.Tuple vs k2 p2) env = pure none := by
  unfold swappedStores
  refine (if_neg (by rw [h1]; exact Bool.false_ne_true)).trans ?_
  refine (if_neg (no_star_any h2)).trans ?_
  exact if_pos h3
theorem sw_fold (h1 : (!(ts.length == 2 || ts.length == 3) || vs.length != ts.length || env.blockKind != .function) = false) (h2 : vs.all noStarE = true) (h3 : ((swNames env.scope ts).length != ts.length || (swNames env.scope ts).eraseDups.length != (swNames env.scope ts).length) = false) (h4 : vs.all (foldedForSure 8) = true) :
    swappedStores [.Tuple ts k p] (.Tuple vs k2 p2) env = pure none := by
  unfold swappedStores
  refine (if_neg (by rw [h1]; exact Bool.false_ne_true)).trans ?_
  refine (if_neg (no_star_any h2)).trans ?_
  refine (if_neg (show ¬ ((swNames env.scope ts).length != ts.length || (swNames env.scope ts).eraseDups.length != (swNames env.scope ts).length) = true by rw [h3]; exact Bool.false_ne_true)).trans ?_
  exact if_pos h4
theorem sw_some (h1 : (!(ts.length == 2 || ts.length == 3) || vs.length != ts.length || env.blockKind != .function) = false) (h2 : vs.all noStarE = true) (h3 : ((swNames env.scope ts).length != ts.length || (swNames env.scope ts).eraseDups.length != (swNames env.scope ts).length) = false) (h4 : vs.all (foldedForSure 8) = false)
    (h5 : vs.all (constantsAlone 8) = false) : swappedStores [.Tuple ts k p] (.Tuple vs k2 p2) env = pure (some (swNames env.scope ts)) := by
  unfold swappedStores
  refine (if_neg (by rw [h1]; exact Bool.false_ne_true)).trans ?_
  refine (if_neg (no_star_any h2)).trans ?_
  refine (if_neg (show ¬ ((swNames env.scope ts).length != ts.length || (swNames env.scope ts).eraseDups.length != (swNames env.scope ts).length) = true by rw [h3]; exact Bool.false_ne_true)).trans ?_
  refine (if_neg (by rw [h4]; exact Bool.false_ne_true)).trans ?_
  exact if_neg (by rw [h5]; exact Bool.false_ne_true)
end
theorem swap_no {e : Expr} (h : ∀ elt gs sc pos, e ≠ .ListComp elt gs sc pos) (h2 : ∀ elt gs sc pos, e ≠ .SetComp elt gs sc pos) (h3 : ∀ a b gs sc pos, e ≠ .DictComp a b gs sc pos) (t : Option Expr) (l : Nat) (env : Env) : swapsWith e t l env = pure false := by
  cases e <;> first | rfl | exact (h _ _ _ _ rfl).elim | exact (h2 _ _ _ _ rfl).elim | exact (h3 _ _ _ _ _ rfl).elim
end Pev
set_option maxRecDepth 100000
set_option autoImplicit false
/-! Pev, soundness 24: targets, several names stored, defs walked. -/
namespace Pev
open PySem PySem.Spec PyProof.Rows L2
open LamX (Tabs TabS CodeO)

/-! ### targets -/
def nameE : Expr → Option Str
  | .Name x _ => some x
  | _ => none
section
variable {X : Cx} {pos : Pos}
/-- the names of targets, their slots -/
inductive Tgs (X : Cx) : List Expr → List Nat → Prop
  | nil : Tgs X [] []
  | cons {x : Str} {p : Pos} {i : Nat} {es : List Expr} {is : List Nat} : X.N[i]? = some x → Loc X.env.scope x → (X.fn x = true ∨ X.env.scope.names.lookup x = some .local) → Tgs X es is → Tgs X (.Name x p :: es) (i :: is)
theorem assignEach_name {x : Str} {p : Pos} {es : List Expr} {env : Env} : assignEach (.Name x p :: es) env = (false, assign (.Name x p) env) :: assignEach es env := rfl
theorem Tgs.pgs {es : List Expr} {is : List Nat} (hN : X.N.Nodup) (h : Tgs X es is) : PGs X es (gIs is) ∧ (assignEach es X.env).length = is.length ∧ (assignEach es X.env).findIdx? (·.1) = none := by
  induction h with
  | nil => exact ⟨pgs_nil, rfl, rfl⟩
  | cons h1 h2 h3 _ ih =>
    refine ⟨pgs_cons (pg_name hN h1 h2 h3) ih.1 rfl, ?_, ?_⟩
    · rw [assignEach_name, List.length_cons, List.length_cons, ih.2.1]
    · rw [assignEach_name, List.findIdx?_cons, ih.2.2]; rfl
theorem tg_tup {es : List Expr} {is : List Nat} {k : Nat} (hN : X.N.Nodup) (hc : X.calm = true) (h : Tgs X es is) : PG X (.Tuple es k pos) (gTgt X.K (.tp is)) := by
  obtain ⟨a, b, c⟩ := h.pgs hN
  exact pg_tup hc a b c
theorem tg_name {x : Str} {i : Nat} (hN : X.N.Nodup) (h1 : X.N[i]? = some x) (h2 : Loc X.env.scope x) (h3 : X.fn x = true ∨ X.env.scope.names.lookup x = some .local) : PG X (.Name x pos) (gTgt X.K (.nm i)) := pg_name hN h1 h2 h3
end

section
variable {g : Gh} {hd : Dy} {σ : L2.St} {s s1 : S} {H H' : Hp}
theorem storeAllR_len : ∀ {is : List Nat} {vs : List RV} {s s1 : S}, storeAllR is vs s = some s1 → is.length = vs.length
  | [], [], _, _, _ => rfl
  | _ :: is, _ :: vs, _, _, h => by rw [List.length_cons, List.length_cons, storeAllR_len (is := is) (vs := vs) h]
  | [], _ :: _, _, _, h => by cases h
  | _ :: _, [], _, _, h => by cases h
theorem store_val (i : Nat) (v : Val) (s : S) : store i ⟨v, false⟩ s = { s with ρ := s.ρ.set i (.val v) } := by cases v <;> rfl
theorem storeAllR_run {Q : L2.St → Hp → Prop} : ∀ {is : List Nat} {xs : List V} {rvs : List RV} {ps : List Addr} {σ : L2.St} {s s1 : S}, ps.Nodup → (∀ p ∈ ps, ¬ Bz hd σ s.ρ p) → Cl g (hd.more ps) σ s H → FrL g hd H (Bz (hd.more ps) σ s.ρ) ps rvs xs → storeAllR is rvs s = some s1 →
    (∀ σ1, Cl g hd σ1 s1 H → (∀ a, Av hd σ1 s1.ρ a → Av hd σ s.ρ a ∨ a ∈ ps) → σ1 = (is.zip xs).foldl (fun σ p => σ.set p.1 (some p.2)) σ → Q σ1 H) → gIs is xs σ H Q
  | [], xs, rvs, ps, σ, s, s1, nd, np, c, fl, e, hq => by
    cases fl with
    | nil =>
      cases e
      refine ⟨rfl, hq σ ((Ok.hdTo c (hd2 := hd) rfl fun i d a e1 e2 z => ?_).less (fun a z => .inl z) fun a z => (bz_more (s := s) a).mpr (.inl z)) (fun a z => .inl z) rfl⟩
      obtain ⟨b, q1, _, _, q4⟩ := Ok.owns c i d e1
      rw [e2] at q1; cases q1
      exact q4 (.inl z)
    | val _ _ => cases e
    | own _ _ => cases e
  | i :: is, xs, rvs, ps, σ, s, s1, nd, np, c, fl, e, hq => by
    cases fl with
    | nil => cases e
    | @val _ rvs' xs' v x r fl' =>
      obtain ⟨c1, le1⟩ := Cl.setV (i := i) (hd := hd.more ps) c (rpv_hd (hd := hd) rfl r)
      have le1 : ∀ a, Av hd (σ.set i (some x)) (s.ρ.set i (.val v)) a → Av hd σ s.ρ a := fun a z => (av_hd (hd2 := hd.more ps) (hd := hd) rfl a).mp (le1 a ((av_hd (hd2 := hd.more ps) (hd := hd) rfl a).mpr z))
      have bz1 : ∀ a, Bz (hd.more ps) (σ.set i (some x)) ({ s with ρ := s.ρ.set i (.val v) } : S).ρ a → Bz (hd.more ps) σ s.ρ a := fun a z => (bz_more (s := s) a).mpr (((bz_more (s := { s with ρ := s.ρ.set i (.val v) }) a).mp z).imp (fun z => z.imp (le1 a) id) id)
      have e : storeAllR is rvs' { s with ρ := s.ρ.set i (.val v) } = some s1 := by rw [← store_val]; exact e
      exact ⟨x, xs', rfl, storeAllR_run (is := is) (ps := ps) (s := { s with ρ := s.ρ.set i (.val v) }) nd (fun p hp (z : Av hd _ (s.ρ.set i (.val v)) p ∨ hd.Z p) => np p hp (z.imp (le1 p) id)) c1 (FrL.less rfl bz1 fl') e fun σ1 c2 le2 e2 => hq σ1 c2 (fun a z => (le2 a z).imp (le1 a) id) e2⟩
    | @own ps' rvs' xs' p d at' fl' =>
      obtain ⟨nd1, nd2⟩ := List.nodup_cons.mp nd
      have np1 := np p (.head _)
      have B1 : ∀ a, Bz (hd.more (p :: ps')) σ s.ρ a ↔ Bz (hd.more ps') σ s.ρ a ∨ a = p := fun a => by
        rw [bz_more, bz_more, List.mem_cons, or_assoc, or_comm (a := a = p)]
      have ok : Ok g (hd.more ps') (Bz (hd.more (p :: ps')) σ s.ρ) σ s H := Ok.hdTo c rfl fun i d a e1 e2 z => by
        obtain ⟨b, q1, _, _, q4⟩ := Ok.owns c i d e1
        rw [e2] at q1; cases q1
        exact q4 (z.imp id fun z => .tail _ z)
      have n2 : ¬ Bz (hd.more ps') σ s.ρ p := fun z => ((bz_more (s := s) p).mp z).elim np1 nd1
      obtain ⟨c1, le1⟩ := Cl.setO (i := i) ok (fun a z => (B1 a).mp z) (fun a z => (B1 a).mpr z) n2 at'
      have le1 : ∀ a, Av hd (σ.set i (some (V.ref p))) (s.ρ.set i (.own d)) a → Av hd σ s.ρ a ∨ a = p := fun a z => (le1 a ((av_hd (hd2 := hd.more ps') (hd := hd) rfl a).mpr z)).imp (av_hd (hd2 := hd.more ps') (hd := hd) rfl a).mp id
      have bz1 : ∀ a, Bz (hd.more ps') (σ.set i (some (V.ref p))) ({ s with ρ := s.ρ.set i (.own d) } : S).ρ a → Bz (hd.more (p :: ps')) σ s.ρ a := fun a z => by
        rcases (bz_more (s := { s with ρ := s.ρ.set i (.own d) }) a).mp z with (z | z) | z
        · rcases le1 a z with z | z
          · exact (bz_more (s := s) a).mpr (.inl (.inl z))
          · exact (bz_more (s := s) a).mpr (.inr (List.mem_cons.mpr (.inl z)))
        · exact (bz_more (s := s) a).mpr (.inl (.inr z))
        · exact (bz_more (s := s) a).mpr (.inr (.tail _ z))
      refine ⟨.ref p, xs', rfl, storeAllR_run (is := is) (ps := ps') (s := { s with ρ := s.ρ.set i (.own d) }) nd2 (fun q hq (z : Av hd _ (s.ρ.set i (.own d)) q ∨ hd.Z q) => ?_) c1 (FrL.less rfl bz1 fl') e fun σ1 c2 le2 e2 => hq σ1 c2 (fun a z => ?_) e2⟩
      · rcases z with z | z
        · rcases le1 q z with z | z
          · exact np q (.tail _ hq) (.inl z)
          · exact nd1 (z ▸ hq)
        · exact np q (.tail _ hq) (.inr z)
      · rcases le2 a z with z | z
        · exact (le1 a z).imp id fun e => List.mem_cons.mpr (.inl e)
        · exact .inr (.tail _ z)
end
section
variable {X : Cx} {g : Gh} {call : Calls} {lamc : Nat → (Option (List PD) → FO) → Option (List PD) → FO} {actf : Option (List PD) → FO} {wf : Nat} {W : WX}
  {e a b c : Expr} {ia ib ic ie : IE} {pos p2 p pt : Pos} {es ts : List Expr} {ies : IEs} {is : List Nat} {kt k2 : Nat}
/-- a pair is made and taken apart -/
theorem q_parT (hK : X.K = g.K) (hc : X.calm = true) (hN : X.N.Nodup) (ha : SndA X g call lamc actf W es ies) (ht : Tgs X ts is) (hl : is.length ≤ 1000) (hw : swappedStores [.Tuple ts kt pt] (.Tuple es k2 p2) X.env = pure none) :
    PS X (.Assign [.Tuple ts kt pt] (.Tuple es k2 p2) pos) (tS g call lamc actf wf W (.par is ies)) :=
  PS.imp (ps_asg (pe_tup (a_rvals ha)) (tg_tup hN hc ht) rfl hw rfl) fun D σ H ⟨hd, s, cl, post⟩ => by
    rw [evS] at post
    refine ⟨hd, s, cl, post.bind0 fun avs s1 xs H1 fr le ⟨ps, nd, np, c1, r1⟩ post1 => ?_⟩
    split at post1
    · rename_i s2 e2
      have hlen : xs.length = is.length := by rw [storeAllR_len e2]; exact r1.length.symm
      refine ⟨by rw [hlen, sizeLine_eq]; omega, fun q hq => ⟨q, xs, rfl, SqT.of upd_same, hlen, ?_⟩⟩
      have c2 : Cl g (hd.more ps) σ s1 (upd H1 q (.tup xs)) := Ok.new c1 hq (fun _ z => z) fun a z => .inl z
      have r2 : FrL g hd (upd H1 q (.tup xs)) (Bz (hd.more ps) σ s1.ρ) ps avs xs := r1.stay (Fr.new hq) (fun a u e => by rw [upd_ne (ne_of_none e hq)]; exact e)
      refine storeAllR_run nd (fun p hp => (np p hp).2) c2 r2 e2 fun σ1 c3 le3 _ => post1 hd σ1 _ PLe.refl (fr.trans (Fr.new hq) fun a z => .inl (le a z)) (fun a z => ?_) c3
      rcases le3 a z with z | z
      · exact .inl (le a z)
      · exact .inr (np a z).1
    · exact post1.elim
/-- the values are stored from the right, no pair is made -/
theorem q_par2 {i j : Nat} {x y : Str} {px py : Pos} (hc : X.calm = true) (hN : X.N.Nodup) (hi : X.N[i]? = some x) (hj : X.N[j]? = some y) (hij : i ≠ j) (hx : X.env.scope.names.lookup x = some .local) (hy : X.env.scope.names.lookup y = some .local) (ha : SndA X g call lamc actf W [a, b] ies)
    (hw : swappedStores [.Tuple [.Name x px, .Name y py] kt pt] (.Tuple [a, b] k2 p2) X.env = pure (some [x, y])) : PS X (.Assign [.Tuple [.Name x px, .Name y py] kt pt] (.Tuple [a, b] k2 p2) pos) (tS g call lamc actf wf W (.par [i, j] ies)) :=
  PS.imp (ps_par hc hN hi hj hij hx hy (a_rvals ha) hw rfl) fun D σ H ⟨hd, s, cl, post⟩ => by
    rw [evS] at post
    refine ⟨hd, s, cl, post.bind0 fun avs s1 xs H1 fr le ⟨ps, nd, np, c1, r1⟩ post1 => ?_⟩
    split at post1
    · rename_i s2 e2
      have hlen : xs.length = 2 := by rw [← r1.length, ← storeAllR_len e2]; rfl
      obtain ⟨v, w, rfl⟩ : ∃ v w, xs = [v, w] := by
        match xs, hlen with
        | [v, w], _ => exact ⟨v, w, rfl⟩
      have q := storeAllR_run (Q := fun σ1 _ => σ1 = (σ.set i (some v)).set j (some w) → D.nx σ1 H1) nd (fun p hp => (np p hp).2) c1 r1 e2 fun σ1 c3 le3 e3 e4 => post1 hd σ1 H1 PLe.refl fr (fun a z => (le3 a z).elim (fun z => .inl (le a z)) fun z => .inr (np a z).1) c3
      obtain ⟨v', r, h1, v2, r2, h2, h3, h4⟩ := q
      cases h1
      cases h2
      exact ⟨v, w, rfl, h4 rfl⟩
    · exact post1.elim
theorem q_par3 {i j l : Nat} {x y z : Str} {px py pz : Pos} (hc : X.calm = true) (hN : X.N.Nodup) (hi : X.N[i]? = some x) (hj : X.N[j]? = some y) (hl : X.N[l]? = some z) (hij : i ≠ j) (hil : i ≠ l) (hjl : j ≠ l) (hx : X.env.scope.names.lookup x = some .local) (hy : X.env.scope.names.lookup y = some .local) (hz : X.env.scope.names.lookup z = some .local) (ha : SndA X g call lamc actf W [a, b, c] ies)
    (hw : swappedStores [.Tuple [.Name x px, .Name y py, .Name z pz] kt pt] (.Tuple [a, b, c] k2 p2) X.env = pure (some [x, y, z])) : PS X (.Assign [.Tuple [.Name x px, .Name y py, .Name z pz] kt pt] (.Tuple [a, b, c] k2 p2) pos) (tS g call lamc actf wf W (.par [i, j, l] ies)) :=
  PS.imp (ps_par3 hc hN hi hj hl hij hil hjl hx hy hz (a_rvals ha) hw rfl) fun D σ H ⟨hd, s, cl, post⟩ => by
    rw [evS] at post
    refine ⟨hd, s, cl, post.bind0 fun avs s1 xs H1 fr le ⟨ps, nd, np, c1, r1⟩ post1 => ?_⟩
    split at post1
    · rename_i s2 e2
      have hlen : xs.length = 3 := by rw [← r1.length, ← storeAllR_len e2]; rfl
      obtain ⟨u, v, w, rfl⟩ : ∃ u v w, xs = [u, v, w] := by
        match xs, hlen with
        | [u, v, w], _ => exact ⟨u, v, w, rfl⟩
      have q := storeAllR_run (Q := fun σ1 _ => σ1 = ((σ.set i (some u)).set j (some v)).set l (some w) → D.nx σ1 H1) nd (fun p hp => (np p hp).2) c1 r1 e2 fun σ1 c3 le3 e3 e4 => post1 hd σ1 H1 PLe.refl fr (fun a z => (le3 a z).elim (fun z => .inl (le a z)) fun z => .inr (np a z).1) c3
      obtain ⟨v', r, h1, v2, r2, h2, v3, r3, h3, h4, h5⟩ := q
      cases h1
      cases h2
      cases h3
      exact ⟨u, v, w, rfl, h5 rfl⟩
    · exact post1.elim

/-! ### for f in (f1, f2): -/
inductive FnE (X : Cx) (g : Gh) : List Expr → List Nat → Prop
  | nil : FnE X g [] []
  | cons {x : Str} {p : Pos} {f : Nat} {es : List Expr} {fs : List Nat} : Gl X x → X.mg x = some (.ref (g.F f)) → (x == ("__debug__" : Str)) = false → FnE X g es fs → FnE X g (.Name x p :: es) (f :: fs)
theorem FnE.pa {fs : List Nat} (h : FnE X g es fs) : PA X es (fun _ H Q => Q (fs.map fun f => V.ref (g.F f)) H) := by
  induction h with
  | nil => exact PA.imp pa_nil fun σ H Q q => q
  | cons h1 h2 h3 _ ih => exact PA.imp (pa_cons (pe_glob h1 h2 (v := .ref (g.F _)) rfl h3) ih rfl) fun σ H Q q => q
theorem q_forf {fs : List Nat} {x : Str} {px : Pos} {i : Nat} {sb : List Stmt} {ibl : IB} (hK : X.K = g.K) (hp : PassesOwn (model X.prog X.w) X.A X.env X.xe) (hc : X.calm = true) (hN : X.N.Nodup) (h1 : X.N[i]? = some x) (h2 : Loc X.env.scope x) (h3 : X.fn x = true ∨ X.env.scope.names.lookup x = some .local) (hf : FnE X g es fs) (hl : fs.length ≤ 1000)
    (hb : PSs X sb (tSs g call lamc actf wf W ibl)) : PS X (.For (.Name x px) (.Tuple es kt pt) sb [] pos) (tS g call lamc actf wf W (.forf i fs ibl)) :=
  PS.imp (ps_for hp hc (pi_tup (pe_tup hf.pa)) (pg_name hN h1 h2 h3) hb (by intro _; rfl)) fun D σ H ⟨hd, s, cl, post⟩ => by
    rw [evS] at post
    refine ⟨by rw [List.length_map, sizeLine_eq]; omega, fun q hq => ⟨q, rfl, ⟨_, SqT.of upd_same⟩, ?_⟩⟩
    have c1 : Cl g hd σ s (upd H q (.tup (fs.map fun f => V.ref (g.F f)))) := cl.new hq (fun _ z => z) fun a z => .inl z
    have fr1 : Fr (Av hd σ s.ρ) H (upd H q (.tup (fs.map fun f => V.ref (g.F f)))) := Fr.new hq
    have nq : ¬ Av hd σ s.ρ q := fun z => cl.fresh hq (.inl z)
    have post1 := PostS.shift (s1 := s) post fr1 (hd1 := hd) (σ1 := σ) (fun a z => .inl z) PLe.refl
    generalize hH1 : upd H q (.tup (fs.map fun f => V.ref (g.F f))) = H1 at c1 post1
    have hq1 : H1 q = some (.tup (fs.map fun f => V.ref (g.F f))) := by rw [← hH1]; exact upd_same
    have stay : ∀ {H2}, Fr (Av hd σ s.ρ) H1 H2 → H2 q = some (.tup (fs.map fun f => V.ref (g.F f))) := fun {H2} fr => fr.keep q _ hq1 nq fun _ z => by cases z
    refine for_it (walk_tup (xs := fs.map fun f => V.ref (g.F f))) (fun i' σ' H' => ∃ hd' s', LoopInv g W D hd σ s.ρ H1 hd' σ' s' H' ∧ PostS g W hd σ s H1 D (forfLoop (evB call lamc actf wf ibl) i (fs.drop i') s')) ⟨hd, s, ⟨c1, Fr.refl _ _, fun a z => .inl z, PLe.refl⟩, post1⟩ ?_ ?_ ?_
    · rintro i' σ' H' hi ⟨hd', s', inv, po⟩
      exact SqT.of (stay inv.fr)
    · rintro i' x σ' H' H2 hi ⟨hd', s', inv, po⟩ ⟨rfl, hx⟩
      rw [List.length_map] at hi
      have edrop : fs.drop i' = fs[i'] :: fs.drop (i' + 1) := List.drop_eq_getElem_cons hi
      rw [List.getElem?_map, List.getElem?_eq_getElem hi] at hx
      cases hx
      rw [edrop, forfLoop] at po
      obtain ⟨c3, le3⟩ := inv.cl.setV (i := i) (x := V.ref (g.F fs[i'])) (v := .fn fs[i']) rfl
      have inv3 := inv.next (W := W) (D := D) (hd2 := hd') PLe.refl (Fr.refl _ _) (fun a z => .inl (le3 a z)) c3
      refine ⟨hd', _, c3, ?_⟩
      cases eb : evB call lamc actf wf ibl { s' with ρ := s'.ρ.set i (.val (.fn fs[i'])) } with
      | bad => rw [eb] at po; exact po
      | exc n h => rw [eb] at po; exact PostS.shift po inv3.fr inv3.le inv3.pl
      | ret rv s4 => rw [eb] at po; exact PostS.shift po inv3.fr inv3.le inv3.pl
      | nxt s4 =>
        rw [eb] at po
        exact fun hd4 σ4 H4 pl4 fr4 le4 c4 => ⟨hd4, s4, inv3.next pl4 fr4 le4 c4, po⟩
    · rintro σ' H' ⟨hd', s', inv, po⟩
      rw [List.length_map, List.drop_eq_nil_of_le (Nat.le_refl _), forfLoop] at po
      exact po hd' σ' H' inv.pl inv.fr inv.le inv.cl
end
end Pev
set_option maxRecDepth 100000
set_option autoImplicit false
/-! Pev: two places of owned lists set at once. -/
namespace Pev
open PySem PySem.Spec PyProof.Rows L2
open LamX (Tabs TabS CodeO)
section
variable {X : Cx} {g : Gh} {call : Calls} {lamc : Nat → (Option (List PD) → FO) → Option (List PD) → FO} {actf : Option (List PD) → FO} {wf : Nat} {W : WX}
  {e a b o o2 k k2 : Expr} {i j : Nat} {ik jk ia ib : IE} {pos p2 p3 apos pt : Pos} {kt kk2 : Nat}
/-- what a put leaves -/
def PutP (g : Gh) (hd : Dy) (σ : L2.St) (s0 : S) (H0 : Hp) (Q : L2.St → Hp → Prop) : SOut → Prop
  | .nxt s => ∀ H, Fr (Av hd σ s0.ρ) H0 H → (∀ a, Av hd σ s.ρ a → Av hd σ s0.ρ a) → Cl g hd σ s H → Q σ H
  | _ => False
theorem put_pg {v : V} {d : PD} {hd : Dy} {σ : L2.St} {s1 : S} {H1 : Hp} {Q : L2.St → Hp → Prop} (c1 : Cl g hd σ s1 H1) (r1 : Rp g.K H1 (Bz hd σ s1.ρ) v d) (post1 : PutP g hd σ s1 H1 Q (putE call lamc actf i ik d s1)) : gSub (tVar i) (tEv g call lamc actf W ik) rSetA v σ H1 Q := by
  unfold putE at post1
  split at post1
  case isFalse => exact post1.elim
  rename_i hown
  obtain ⟨p, xs0, hσ, _⟩ := own_list c1 hown
  refine ⟨_, hσ, hd, s1, c1, ?_⟩
  cases e1 : ev call lamc actf ik s1 with
  | bad => rw [e1] at post1; exact post1.elim
  | exc c h => rw [e1] at post1; exact post1.elim
  | ok y s2 =>
    rw [e1] at post1
    intro z H2 fr2 le2 r2
    obtain ⟨c2, r2⟩ := r2.drop
    have r1 := Rp.stay (B' := Bz hd σ s2.ρ) (fr2.mono fun a z => .inl (.inl z)) (fun a z => .inl (z.imp (le2 a) id)) r1
    simp only at post1
    split at post1
    · rename_i jj xs e2 e3
      rw [e2] at r2
      split at post1
      · rename_i n e5
        cases r2
        obtain ⟨p', q1, at', q3, q4⟩ := c2.owns i _ e3
        rw [hσ] at q1
        cases q1
        obtain ⟨u, hu', mu⟩ := c2.mu p (.inl (.inr ⟨i, _, e3, hσ⟩))
        obtain ⟨ys, h1, h2⟩ := at'
        obtain ⟨f1, f2⟩ := put_list h2 e5 r1
        have frB : Fr (Bz hd σ s2.ρ) H2 (upd H2 p (.lst (ys.set n v))) := Fr.set hu' (.inl (.inr ⟨i, _, e3, hσ⟩)) (fun ps z => by cases z)
        obtain ⟨c3, fr3⟩ := c2.updO (c' := .list (xs.set n d)) (o := .lst (ys.set n v)) e3 hσ trivial ⟨_, upd_same, f2.stay frB fun a z => .inl z⟩
        exact .inl ⟨p, ys, jj, n, rfl, rfl, h1, f1, post1 _ (fr2.trans fr3 fun a z => .inl (le2 a z)) (fun a z => le2 a ((av_own e3 a).mp z)) c3⟩
      · exact post1.elim
    · exact post1.elim
theorem assignEach_sub {es : List Expr} {env : Env} : assignEach (.Subscript o k apos :: es) env = (false, assign (.Subscript o k apos) env) :: assignEach es env := rfl
theorem q_psub (hK : X.K = g.K) (hc : X.calm = true) (hu : X.A.units + 64 < cLine) (ha : SndA X g call lamc actf W [a, b] (.cons ia (.cons ib .nil))) (h1 : PE X o (tVar i)) (h2 : PE X k (tEv g call lamc actf W ik)) (n1 : noSlE k = true) (h3 : PE X o2 (tVar j)) (h4 : PE X k2 (tEv g call lamc actf W jk)) (n2 : noSlE k2 = true)
    (hw : swappedStores [.Tuple [.Subscript o k apos, .Subscript o2 k2 p3] kt pt] (.Tuple [a, b] kk2 p2) X.env = pure none) :
    PS X (.Assign [.Tuple [.Subscript o k apos, .Subscript o2 k2 p3] kt pt] (.Tuple [a, b] kk2 p2) pos) (tS g call lamc actf wf W (.psub i ik j jk ia ib)) := by
  have g1 := pg_sub (pos := apos) h1 h2 (set_any hu) (by intro v; cases k <;> first | rfl | cases n1)
  have g2 := pg_sub (pos := p3) h3 h4 (set_any hu) (by intro v; cases k2 <;> first | rfl | cases n2)
  have G : PGs X [.Subscript o k apos, .Subscript o2 k2 p3] _ := pgs_cons g1 (pgs_cons g2 pgs_nil rfl) rfl
  refine PS.imp (ps_asg (pe_tup (a_vals ha)) (pg_tup (n := 2) hc G rfl rfl) rfl hw rfl) fun D σ H ⟨hd, s, cl, post⟩ => ?_
  rw [evS] at post
  refine ⟨hd, s, cl, post.bind fun avs s1 xs H1 fr le ⟨c1, r1⟩ post1 => ?_⟩
  split at post1
  case h_2 => exact post1.elim
  rename_i d e _
  cases r1 with
  | @cons _ x _ _ rx r1 => cases r1 with
    | @cons _ y _ _ ry r1 => cases r1 with
      | nil =>
        refine ⟨by show 2 ≤ sizeLine; rw [sizeLine_eq]; omega, fun q hq => ⟨q, [x, y], rfl, SqT.of upd_same, rfl, ?_⟩⟩
        have c2 : Cl g hd σ s1 (upd H1 q (.tup [x, y])) := c1.new hq (fun _ z => z) fun a z => .inl z
        have fq : Fr (Bz hd σ s1.ρ) H1 (upd H1 q (.tup [x, y])) := Fr.new hq
        have rx : Rp g.K (upd H1 q (.tup [x, y])) (Bz hd σ s1.ρ) x d := Rp.stay fq (fun a z => .inl z) rx
        have ry : Rp g.K (upd H1 q (.tup [x, y])) (Bz hd σ s1.ρ) y e := Rp.stay fq (fun a z => .inl z) ry
        have post1 : PostS g W hd σ s1 (upd H1 q (.tup [x, y])) D ((putE call lamc actf i ik d s1).bind fun s => putE call lamc actf j jk e s) := PostS.shift post1 (Fr.new hq) (fun a z => .inl z) PLe.refl
        have only : ∀ (i : Nat) (k : IE) (d : PD) (s : S), (∃ s', putE call lamc actf i k d s = .nxt s') ∨ putE call lamc actf i k d s = .bad := fun i k d s => by
          unfold putE
          split
          · split
            · split
              · split
                · exact .inl ⟨_, rfl⟩
                · exact .inr rfl
              · exact .inr rfl
            · exact .inr rfl
          · exact .inr rfl
        refine ⟨x, [y], rfl, put_pg c2 rx ?_⟩
        rcases only i ik d s1 with ⟨s2, e2⟩ | e2
        · rw [e2] at post1 ⊢
          intro H3 fr3 le3 c3
          refine ⟨y, [], rfl, put_pg c3 (Rp.stay (fr3.mono fun a z => .inl (.inl z)) (fun a z => .inl (z.imp (le3 a) id)) ry) ?_⟩
          have post1 : PostS g W hd σ s1 (upd H1 q (.tup [x, y])) D (putE call lamc actf j jk e s2) := post1
          rcases only j jk e s2 with ⟨s3, e3⟩ | e3
          · rw [e3] at post1 ⊢
            intro H4 fr4 le4 c4
            exact ⟨rfl, post1 hd σ H4 PLe.refl (fr3.trans fr4 fun a z => .inl (le3 a z)) (fun a z => .inl (le3 a (le4 a z))) c4⟩
          · rw [e3] at post1; exact post1.elim
        · rw [e2] at post1; exact post1.elim
end
end Pev
set_option maxRecDepth 100000
set_option autoImplicit false
/-! Pev: xs[::-1], of lists and tuples. -/
namespace Pev
open PySem PySem.Spec PyProof.Rows L2
open HT
section
variable {prog : Program} {w : World} {A : Around} {E : Value → Shared → Prop} {s : Shared}
theorem places_rev (n : Nat) : Builtin.Slice.slicePlaces ((n : Int) - 1) (-1) (-1) = n := by
  unfold Builtin.Slice.slicePlaces
  rw [if_neg (by decide)]
  by_cases h : (n : Int) - 1 > -1
  · rw [if_pos h]
    have : ((n : Int) - 1 - -1 - 1) / (- -1) = (n : Int) - 1 := by
      rw [show (- -1 : Int) = 1 by decide, Int.ediv_one]
      omega
    rw [this]
    omega
  · rw [if_neg h]
    omega
theorem sliceApplied_rev {sl : Addr} {vs : Value} {n : Nat} {Q : Int × Int × Nat → Shared → Prop} (hs : s.heap.IsSliceOf sl .none .none vs) (ps : IsPart vs (some (-1)))
    (h : Q ((n : Int) - 1, -1, n) s) : wpAny (model prog w) A (Builtin.Slice.sliceApplied (.ref sl) (pure (n : Int))) Q E s := by
  obtain ⟨os, hos, hcs, hds⟩ := id hs
  unfold Builtin.Slice.sliceApplied Builtin.Slice.sliceFields
  refine wpAny_bind (wpAny_bind (wpAny_field hos hds (x := .none) rfl (wpAny_bind (wpAny_field hos hds (x := .none) rfl (wpAny_bind (wpAny_field hos hds (x := vs) rfl (wpAny_pure ?_)))))))
  refine wpAny_bind (slicePart_ ps ?_)
  show wpAny _ _ (if ((-1 : Int) == 0) = true then _ else _) _ _ s
  rw [if_neg (by decide)]
  refine wpAny_bind (slicePart_none (wpAny_bind (slicePart_none (wpAny_bind (wpAny_pure ?_)))))
  show wpAny _ _ (match Builtin.Slice.sliceAdjust none none (-1) (n : Int) with | (lo, hi) => pure (lo, (-1 : Int), Builtin.Slice.slicePlaces lo hi (-1))) _ _ s
  show wpAny _ _ (pure ((n : Int) - 1, (-1 : Int), Builtin.Slice.slicePlaces ((n : Int) - 1) (-1) (-1))) _ _ s
  rw [places_rev]
  exact wpAny_pure h
theorem fm_congr {α β : Type} {f g : α → Option β} : ∀ (l : List α), (∀ x ∈ l, f x = g x) → l.filterMap f = l.filterMap g
  | [], _ => rfl
  | x :: l, h => by
    rw [List.filterMap_cons, List.filterMap_cons, h x (by simp), fm_congr l fun y hy => h y (by simp [hy])]
theorem pick_rev (xs : Array Value) : ((List.range xs.size).filterMap fun (m : Nat) => xs[(((xs.size : Int) - 1) + (m : Int) * -1).toNat]?).toArray = xs.toList.reverse.toArray := by
  have e : ((List.range xs.size).filterMap fun (m : Nat) => xs[(((xs.size : Int) - 1) + (m : Int) * -1).toNat]?) = ((List.range xs.size).map fun k => xs.size - 1 - k).filterMap (xs[·]?) := by
    rw [List.filterMap_map]
    refine fm_congr _ fun m hm => ?_
    have := List.mem_range.mp hm
    have q : (((xs.size : Int) - 1) + (m : Int) * -1).toNat = xs.size - 1 - m := by omega
    show xs[_]? = xs[xs.size - 1 - m]?
    rw [q]
  rw [e, PySem.W.krv_range, List.filterMap_reverse, PySem.W.krv_all]
theorem getItem_tuple_rev {t sl : Addr} {items : Array Value} {vs : Value} {Q : Value → Shared → Prop} (ht : IsTup s.heap t items) (hs : s.heap.IsSliceOf sl .none .none vs) (ps : IsPart vs (some (-1)))
    (h : Q (.ref s.heap.objs.size) { s with heap := s.heap.push { cls := .type "tuple", data := .seq items.toList.reverse.toArray } })
    (hsz : items.size ≤ sizeLine) : wpAny (model prog w) A (getItem (.ref t) (.ref sl)) Q E s := by
  have htake : sizeOk (.seq items.toList.reverse.toArray) := by
    show items.toList.reverse.toArray.size ≤ sizeLine
    rw [List.size_toArray, List.length_reverse, Array.length_toList]
    exact hsz
  obtain ⟨os, hos, hcs, hds⟩ := id hs
  have hTs : s.TypeIs (.ref sl) "slice" := ⟨os, hos, hcs⟩
  unfold getItem
  try with_reducible refine wpAny_holding ?_
  first | refine wpAny_bind (wpAny_pure ?_) | skip
  refine wpAny_bind (wpAny_sequenceKey ht.typeIs (by decide) ?_)
  refine wpAny_bind (wpAny_callSpecial?_slot (name := Str.ofString "__getitem__") ht.typeIs PyProof.Rows.slot_tuple_getitem
    (wpAny_call_entry PyProof.Rows.slot_tuple_getitem ht.typeIs entry_tuple_getitem ?_ (args_tuple_getitem _ _)))
  show wpAny _ _ (Builtin.Tuple.tupleItemsOf (.ref t) >>= _) _ _ s
  refine wpAny_bind (tupleItemsOf_ ht ?_)
  refine wpAny_bind (wpAny_typeOf hTs ?_)
  rw [if_pos (by decide)]
  refine wpAny_bind (sliceApplied_rev hs ps ?_)
  have hno : ¬ ((((items.size : Int) - 1) == 0 && (-1 : Int) == 1 && items.size == items.size) = true) := by
    intro q
    rw [Bool.and_eq_true, Bool.and_eq_true] at q
    exact absurd (eq_of_beq q.1.2) (by decide)
  show wpAny _ _ (if (((items.size : Int) - 1) == 0 && (-1 : Int) == 1 && items.size == items.size) = true then _ else _) _ _ s
  rw [if_neg hno, pick_rev]
  first
    | exact wpAny_bind (m := Builtin.Tuple.tupleExact _) (wpAny_newObj_type (wpAny_pure ⟨_, rfl, wpAny_pure h⟩) htake)
    | exact wpAny_bind (m := Builtin.Tuple.tupleExact _) (wpAny_newObj_type (wpAny_bind (wpAny_pure (wpAny_pure ⟨_, rfl, wpAny_pure h⟩))) htake)
    | exact wpAny_bind (wpAny_bind (m := Builtin.Tuple.tupleExact _) (wpAny_newObj_type (wpAny_pure (wpAny_pure ⟨_, rfl, wpAny_pure h⟩)) htake))
    | exact wpAny_bind (wpAny_bind (m := Builtin.Tuple.tupleExact _) (wpAny_newObj_type (wpAny_pure ⟨_, rfl, wpAny_pure h⟩) htake))
end
section
variable {X : Cx}
def tRevA (K : PySem.W.Frag) (te : TE) : TE := fun σ H Q => te σ H fun x H1 => ∃ a xs, x = .ref a ∧
  ((SqL K H1 a xs ∧ ∀ p, H1 p = none → Q (.ref p) (upd H1 p (.lst xs.reverse))) ∨ (SqT K H1 a xs ∧ ∀ p, H1 p = none → Q (.ref p) (upd H1 p (.tup xs.reverse))))
theorem pe_revA {e : Expr} {te : TE} {k : Nat} {p1 p2 p3 pos : Pos} (he : PE X e te) : PE X (.Subscript e (.Slice none none (some (.UnaryOp .USub (.Constant (.int 1) k p1) p2)) p3) pos) (tRevA X.K te) := by
  refine ⟨fun pins s σ H Q I h => ?_⟩
  refine Subscript_ (thn (he.run pins s σ H _ I h) fun v s1 ⟨x, H1, I1, r1, q1⟩ => ?_)
  obtain ⟨a, xs, ex, q1⟩ := q1
  subst ex
  cases r1
  have hst : PO X (some (.UnaryOp .USub (.Constant (.int 1) k p1) p2)) (tPart (tUn (rU fun i => .int (-i)) (tC (.int 1)))) := po_some (pe_un un_neg pe_int)
  refine wpAny_Slice ?_
  rw [evalPart_none]
  refine wpAny_pure (wpAny_pure ?_)
  refine thn (hst.run pins s1 σ H1 (fun o H4 => o = some (-1) ∧ H4 = H1) I1 ⟨1, rfl, -1, rfl, rfl, rfl⟩) fun vs s4 ⟨o, H4, I4, ps, eo, e4⟩ => ?_
  subst eo e4
  have I5 : Inv X pins σ H4 { s4 with heap := s4.heap.push { cls := .type "slice", data := .fields #[.none, .none, vs] } } := I4.kept (t' := s4.toks) fun b ob q => Heap.get?_push_of_some _ q
  show wpAny (model X.prog X.w) X.A (subscriptTail e (.Slice none none (some (.UnaryOp .USub (.Constant (.int 1) k p1) p2)) p3) (.ref a) (.ref s4.heap.objs.size)) (EP X pins σ Q) X.xe { s4 with heap := s4.heap.push { cls := .type "slice", data := .fields #[.none, .none, vs] } }
  rcases q1 with ⟨hx, q⟩ | ⟨hx, q⟩
  · obtain ⟨its, r, ht, hz⟩ := I5.list hx
    have hlen := r.length
    refine tail_any (ops := [.ref a, .ref s4.heap.objs.size]) ht.isList.typeIs (PySem.slot_list_getitem.lookup) ?_ (by with_unfolding_all rfl)
    refine wpAny_getItem_list_slice ht.isList (Heap.IsSliceOf.new _ .none .none vs) .none .none ps (by decide) ?_ (by rw [List.size_toArray]; omega)
    rw [PySem.W.krv_pick]
    refine ⟨.ref _, _, I5.laid (t' := s4.toks) (o := .lst xs.reverse) (fun b ob q => Heap.get?_push_of_some _ q) (Nat.le_refl _) ?_, rfl, q _ (I5.hok.fresh (Nat.le_refl _))⟩
    exact ⟨by rw [List.length_reverse]; exact hz, _, 0, r.reverse, Heap.get?_push_size _ rfl⟩
  · obtain ⟨its, r, ht, hz⟩ := I5.tuple hx
    have hlen := r.length
    refine tail_any (ops := [.ref a, .ref s4.heap.objs.size]) ht.typeIs (PyProof.Rows.slot_tuple_getitem.lookup) ?_ (by with_unfolding_all rfl)
    refine getItem_tuple_rev ht (Heap.IsSliceOf.new _ .none .none vs) ps ?_ (by rw [List.size_toArray]; omega)
    refine ⟨.ref _, _, I5.laid (t' := s4.toks) (o := .tup xs.reverse) (fun b ob q => Heap.get?_push_of_some _ q) (Nat.le_refl _) ?_, rfl, q _ (I5.hok.fresh (Nat.le_refl _))⟩
    exact ⟨by rw [List.length_reverse]; exact hz, _, r.reverse, IsTup.new _ _⟩
end
section
variable {X : Cx} {g : Gh} {call : Calls} {lamc : Nat → (Option (List PD) → FO) → Option (List PD) → FO} {actf : Option (List PD) → FO} {W : WX}
  {e a b c o : Expr} {ia ib ic ie io : IE} {pos p2 p apos p1 p3 : Pos} {k : Nat}
theorem s_rev (hK : X.K = g.K) (ha : Snd X g call lamc actf W a ia) : PE X (.Subscript a (.Slice none none (some (.UnaryOp .USub (.Constant (.int 1) k p1) p2)) p3) pos) (tEv g call lamc actf W (.rev ia)) :=
  PE.imp (pe_revA ha.op) fun σ H Q ⟨hd, s, c, post⟩ => by
    rw [ev] at post
    refine ⟨hd, s, c, post.bind RE.up fun xo s1 x H1 fr1 le1 r1 post1 => ?_⟩
    split at post1
    · rename_i d e1
      have n := res_now r1 (Fr.refl _ _) AvLe.refl r1.1 e1
      have c1 := r1.1
      cases d with
      | list xs =>
        have post1 : Post g W hd σ s1 H1 (RE g hd σ) (outD (some (.list xs.reverse, true)) s1) Q := post1
        cases n with
        | lst r qq =>
          rw [hK]
          exact ⟨_, _, rfl, .inl ⟨SqL.of r, fun p hp => post1.here rfl (Fr.new hp) AvLe.refl (RE.newL c1 qq.reverse hp hp)⟩⟩
      | tuple xs =>
        have post1 : Post g W hd σ s1 H1 (RE g hd σ) (outD (some (.tuple xs.reverse, false)) s1) Q := post1
        cases n with
        | tup r qq =>
          rw [hK]
          exact ⟨_, _, rfl, .inr ⟨SqT.of r, fun p hp => post1.here rfl (Fr.new hp) AvLe.refl (RE.newT c1 qq.reverse hp)⟩⟩
      | _ => exact post1.elim
    · exact post1.elim
end
end Pev
set_option maxRecDepth 100000
set_option autoImplicit false
/-! Pev: the checker: does a tree of the text have this code? (expressions) -/
namespace Pev
open PySem PySem.Spec PyProof.Rows L2

/-- what is known of the place -/
structure Ck where
  N : List Str
  sc : Scope
  fns : List Str
  cst : List (Str × Int)
  isa : List (Str × List Bool)
  calm : Bool
  calls : Bool
  act : Option Str
  exn : Bool
  lam : List Nat
def visB (sc : Scope) (x : Str) : Bool := decide (sc.names.lookup x = some .local) || decide (sc.names.lookup x = some .cell) || decide (sc.names.lookup x = some .free)
theorem vis_of {sc : Scope} {x : Str} (h : visB sc x = true) : Vis sc x := by
  unfold visB at h
  simp only [Bool.or_eq_true, decide_eq_true_eq] at h
  unfold Vis
  rcases h with (h | h) | h
  · exact .inl h
  · exact .inr (.inl h)
  · exact .inr (.inr h)
def okVar (c : Ck) (x : Str) (i : Nat) : Bool := decide (c.N[i]? = some x) && visB c.sc x && !(x == ("__debug__" : Str)) && !(x == ("__classdict__" : Str))
def okGl (c : Ck) (x : Str) : Bool := decide (c.sc.names.lookup x = some .globalImplicit) && !(x == ("__debug__" : Str)) && decide (x ≠ ("__name__" : Str))
def okFn (c : Ck) (x : Str) (f : Nat) : Bool := okGl c x && decide (c.fns[f]? = some x)
def bltNm : List Str := ["len", "tuple", "list", "sum", "min", "max", "sorted", "all", "any", "abs", "int", "isinstance", "range", "enumerate", "zip", "repr"]
def tyNm : List Str := ["int", "bool", "tuple", "str", "list", "dict"]
abbrev ChkE := Expr → IE → Bool
abbrev ChkT := Expr → IT → Bool
def cVar (c : Ck) (i : Nat) : Expr → Bool
  | .Name x _ => okVar c x i
  | _ => false
def cFn (c : Ck) (f : Nat) : Expr → Bool
  | .Name x _ => okFn c x f
  | _ => false
def cCst (c : Ck) (d : PD) : Expr → Bool
  | .Name x _ => match d with
    | .int k => okGl c x && decide (c.cst.lookup x = some k)
    | _ => false
  | .Constant k _ _ => match k, d with
    | .int i, .int j => decide (i = j)
    | .bool a, .bool b => a == b
    | .none, .none => true
    | .str x, .str y => decide (x = y)
    | _, _ => false
  | _ => false
def cBin (r : ChkE) (o : Bo) (ia ib : IE) : Expr → Bool
  | .BinOp a op b _ => decide (op = opOf o) && r a ia && r b ib
  | _ => false
def cNeg (r : ChkE) (ia : IE) : Expr → Bool
  | .UnaryOp .USub a _ => r a ia
  | _ => false
def cNot (r : ChkE) (ia : IE) : Expr → Bool
  | .UnaryOp .Not a _ => r a ia
  | _ => false
def cCmp (r : ChkE) (o : Co) (ia ib : IE) : Expr → Bool
  | .Compare a [op] [b] _ => decide (op = coOf o) && !behindInMarks (coOf o) b && r a ia && r b ib
  | _ => false
def cChn (r : ChkE) (o1 o2 : Co) (ia ib ic : IE) : Expr → Bool
  | .Compare a [p, q] [b, c] _ => decide (p = coOf o1) && decide (q = coOf o2) && !lastMarks [coOf o1, coOf o2] [b, c] && r a ia && r b ib && r c ic
  | _ => false
def cAnd (r : ChkE) (ia ib : IE) : Expr → Bool
  | .BoolOp .And (a :: b :: rest) pos => r a ia && r (.BoolOp .And (b :: rest) pos) ib
  | _ => false
def cOr (r : ChkE) (ia ib : IE) : Expr → Bool
  | .BoolOp .Or (a :: b :: rest) pos => r a ia && r (.BoolOp .Or (b :: rest) pos) ib
  | _ => false
def cIte (r : ChkE) (t : ChkT) (it : IT) (ia ib : IE) : Expr → Bool
  | .IfExp c a b _ => t c it && r a ia && r b ib
  | _ => false
def cList (r : ChkE) : List Expr → IEs → Bool
  | [], .nil => true
  | e :: es, .cons ie ies => noStarE e && r e ie && cList r es ies
  | _, _ => false
def cTup (r : ChkE) (ies : IEs) : Expr → Bool
  | .Tuple es _ _ => cList r es ies && decide (es.length ≤ 1000)
  | _ => false
def cLst (r : ChkE) (ies : IEs) : Expr → Bool
  | .List es _ => cList r es ies && decide (es.length ≤ 1000)
  | _ => false
def cDnil : Expr → Bool
  | .Dict [] [] _ => true
  | _ => false
def cDic (r : ChkE) (ik iv : IE) : Expr → Bool
  | .Dict [some a] [b] _ => r a ik && r b iv
  | _ => false
def plainIxB : Expr → Bool
  | .Name _ _ => true
  | .Constant (.int _) _ _ => true
  | .BinOp _ _ _ _ => true
  | .UnaryOp _ _ _ => true
  | .Call _ _ _ _ => true
  | .Subscript _ _ _ => true
  | .Tuple _ _ _ => true
  | _ => false
def cSub (r : ChkE) (ia ib : IE) : Expr → Bool
  | .Subscript a b _ => plainIxB b && r a ia && r b ib
  | _ => false
def cOpt (r : ChkE) : Option Expr → IO → Bool
  | none, .no => true
  | some e, .yes ie => r e ie
  | _, _ => false
def cSlc (r : ChkE) (ia : IE) (lo hi : IO) : Expr → Bool
  | .Subscript a (.Slice l u none _) _ => r a ia && cOpt r l lo && cOpt r u hi
  | _ => false
def cRev (r : ChkE) (ia : IE) : Expr → Bool
  | .Subscript a (.Slice none none (some (.UnaryOp .USub (.Constant (.int 1) _ _) _)) _) _ => r a ia
  | _ => false
def cCall (r : ChkE) (c : Ck) (f : Nat) (ies : IEs) : Expr → Bool
  | .Call (.Name x _) es [] _ => c.calls && okFn c x f && cList r es ies
  | _ => false
def cCalv (r : ChkE) (c : Ck) (i : Nat) (ies : IEs) : Expr → Bool
  | .Call (.Name x _) (e :: es) [] _ => c.calls && okVar c x i && cList r (e :: es) ies
  | _ => false
def cAct (c : Ck) (i : Nat) : Expr → Bool
  | .Call (.Name x _) [] [] _ => decide (c.act = some x) && i == 0
  | _ => false
/-- the built-in's name, whether it may not stand in an except suite -/
def bfNm : Bf → Option (Str × Bool)
  | .len => some ("len", false)
  | .tuple => some ("tuple", false)
  | .list => some ("list", true)
  | .sum => some ("sum", true)
  | .min1 => some ("min", true)
  | .max1 => some ("max", true)
  | .min2 => some ("min", true)
  | .max2 => some ("max", true)
  | .sorted => some ("sorted", true)
  | .all => some ("all", true)
  | .any => some ("any", true)
  | .abs => some ("abs", false)
  | .int => some ("int", false)
  | .repr => some ("repr", false)
  | _ => none
def isaTy : Bf → Option Str
  | .isInt => some "int"
  | .isBool => some "bool"
  | .isTuple => some "tuple"
  | .isStr => some "str"
  | .isList => some "list"
  | .isDict => some "dict"
  | _ => none
def cBlt (r : ChkE) (c : Ck) (f : Bf) (ies : IEs) : Expr → Bool
  | .Call (.Name x _) (e :: es) [] _ => okGl c x && match f, ies with
    | .lrng, .cons ia .nil => match e, es with
      | .Call (.Name y _) [a] [] _, [] => decide (x = ("list" : Str)) && decide (y = ("range" : Str)) && c.calm && okGl c y && noStarE a && r a ia
      | _, _ => false
    | f, ies => match isaTy f with
      | some t => match es, ies with
        | [.Name y _], .cons ia .nil => decide (x = ("isinstance" : Str)) && decide (y = t) && okGl c y && noStarE e && r e ia
        | _, _ => false
      | none => match bfNm f with
        | some (nm, b) => decide (x = nm) && (!b || c.calm) && cList r (e :: es) ies
        | none => false
  | _ => false
def cMth (r : ChkE) (m : Mt) (ia : IE) (ies : IEs) : Expr → Bool
  | .Call (.Attribute o nm apos) es [] cpos => baseOk o && (apos.endLine == cpos.line) && r o ia && match m, es, ies with
    | .count, [e], .cons ie .nil => decide (nm = ("count" : Str)) && noStarE e && r e ie
    | .index, [e], .cons ie .nil => decide (nm = ("index" : Str)) && noStarE e && r e ie
    | .get2, [e, f], .cons ie (.cons jf .nil) => decide (nm = ("get" : Str)) && noStarE e && noStarE f && r e ie && r f jf
    | _, _, _ => false
  | _ => false
def cPop0 (c : Ck) (i : Nat) : Expr → Bool
  | .Call (.Attribute (.Name x _) nm apos) [] [] cpos => decide (nm = ("pop" : Str)) && okVar c x i && (apos.endLine == cpos.line)
  | _ => false
def cPop (r : ChkE) (c : Ck) (i : Nat) (ik : IE) : Expr → Bool
  | .Call (.Attribute (.Name x _) nm apos) [e] [] cpos => decide (nm = ("pop" : Str)) && okVar c x i && (apos.endLine == cpos.line) && noStarE e && r e ik
  | _ => false
def cIsx (c : Ck) (i : Nat) (bs : List Bool) : Expr → Bool
  | .Call (.Name x _) [.Name y _, .Name t _] [] _ => decide (x = ("isinstance" : Str)) && c.exn && okGl c x && okVar c y i && okGl c t && decide (c.isa.lookup t = some bs)
  | _ => false
def okTg (N : List Str) (sc : Scope) (x : Str) (i : Nat) : Bool := decide (N[i]? = some x) && (decide (sc.names.lookup x = some .local) || decide (sc.names.lookup x = some .cell))
def okTgs (N : List Str) (sc : Scope) : List Expr → List Nat → Bool
  | [], [] => true
  | .Name x _ :: es, i :: is => okTg N sc x i && okTgs N sc es is
  | _, _ => false
def cTgt (N : List Str) (sc : Scope) : Tgt → Expr → Bool
  | .nm i, .Name x _ => okTg N sc x i
  | .tp is, .Tuple es _ _ => okTgs N sc es is
  | _, _ => false
def tgTup : Expr → Bool
  | .Tuple _ _ _ => true
  | _ => false
def cSrc (r : ChkE) (c : Ck) (tgE : Expr) : IR → Expr → Bool
  | .seq ia, e => r e ia && noStarE e && (match e with | .Set _ _ _ => false | _ => true)
  | .rng1 ia, .Call (.Name x _) [a] [] _ => decide (x = ("range" : Str)) && okGl c x && noStarE a && r a ia
  | .rng2 ia ib, .Call (.Name x _) [a, b] [] _ => decide (x = ("range" : Str)) && okGl c x && noStarE a && noStarE b && r a ia && r b ib
  | .enm ia, .Call (.Name x _) [a] [] _ => decide (x = ("enumerate" : Str)) && okGl c x && noStarE a && tgTup tgE && r a ia
  | .zip ia ib, .Call (.Name x _) [a, b] [] _ => decide (x = ("zip" : Str)) && okGl c x && noStarE a && noStarE b && tgTup tgE && r a ia && r b ib
  | _, _ => false
/-- the place within a comprehension -/
def Ck.blk (c : Ck) (scope : Scope) : Ck := { c with sc := relS scope c.sc, act := none, exn := false, lam := [] }
def cIfs (t : ChkT) : List Expr → IT → Bool
  | [], .yes => true
  | [e], it => (match it with | .yes => false | _ => true) && t e it
  | _, _ => false
def cLc (r : ChkE) (rb : Ck → ChkE) (tb : Ck → ChkT) (c : Ck) (elt : IE) (tg : Tgt) (src : IR) (ifs : IT) (own : List Nat) : Expr → Bool
  | .ListComp e [⟨tgE, iter, cs, 0⟩] scope _ => c.calm && blkC c.N c.sc scope (own.filterMap fun i => (c.N[i]?).map fun x => (x, i)) && decide ((own.filterMap fun i => (c.N[i]?).map fun x => (x, i)).map (·.2) = own) && decide (tgIx tg ⊆ own) &&
      cSrc r c tgE src iter && cTgt c.N scope tg tgE && rb (c.blk scope) e elt && cIfs (tb (c.blk scope)) cs ifs
  | _ => false
def noArgs : Arguments → Bool
  | ⟨[], [], none, [], [], none, []⟩ => true
  | _ => false
def cLam (rb : Ck → ChkE) (c : Ck) (f : Nat) (b : IE) : Expr → Bool
  | .Call (.Name x _) [.Lambda pars bd lsc _] [] _ => decide (f ∈ c.lam) && okFn c x f && LamX.lamSB c.sc lsc && noArgs pars &&
      rb { c with sc := lsc, act := none, exn := false, lam := [], calm := true } bd b
  | _ => false
def cScut (c : Ck) (i n : Nat) : Expr → Bool
  | .Subscript (.Name x _) (.Slice none (some (.Constant (.int k) _ _)) none _) _ => okVar c x i && decide (k = (n : Int))
  | _ => false
def one (e : Expr) : Option Expr := match e with
  | .BoolOp _ [a] _ => some a
  | _ => none
mutual
def chkE : Nat → Ck → Expr → IE → Bool
  | 0, _, _, _ => false
  | n + 1, c, e, ie => match one e with
    | some a => chkE n c a ie
    | none => match ie with
      | .var i => cVar c i e
      | .cst d => cCst c d e
      | .fn f => cFn c f e
      | .bin o a b => cBin (chkE n c) o a b e
      | .neg a => cNeg (chkE n c) a e
      | .cmp o a b => cCmp (chkE n c) o a b e
      | .chn o1 o2 x y z => cChn (chkE n c) o1 o2 x y z e
      | .and a b => cAnd (chkE n c) a b e
      | .or a b => cOr (chkE n c) a b e
      | .not a => cNot (chkE n c) a e
      | .ite t a b => cIte (chkE n c) (chkT n c) t a b e
      | .tup es => cTup (chkE n c) es e
      | .lst es => cLst (chkE n c) es e
      | .dnil => cDnil e
      | .dic k v => cDic (chkE n c) k v e
      | .sub a i => cSub (chkE n c) a i e
      | .slc a lo hi => cSlc (chkE n c) a lo hi e
      | .rev a => cRev (chkE n c) a e
      | .call f es => cCall (chkE n c) c f es e
      | .calv i es => cCalv (chkE n c) c i es e
      | .lam f b => cLam (fun c => chkE n c) c f b e
      | .act i => cAct c i e
      | .blt f es => cBlt (chkE n c) c f es e
      | .mth m a es => cMth (chkE n c) m a es e
      | .pop0 i => cPop0 c i e
      | .pop i k => cPop (chkE n c) c i k e
      | .isx i bs => cIsx c i bs e
      | .scut i m => cScut c i m e
      | .lc elt tg src ifs own => cLc (chkE n c) (fun c => chkE n c) (fun c => chkT n c) c elt tg src ifs own e
def chkT : Nat → Ck → Expr → IT → Bool
  | 0, _, _, _ => false
  | n + 1, c, e, it => match it with
    | .yes => false
    | .and a b => match e with
      | .BoolOp .And [x] _ => chkT n c x (.and a b)
      | .BoolOp .Or [x] _ => chkT n c x (.and a b)
      | .BoolOp .And (x :: y :: rest) pos => chkT n c x a && chkT n c (.BoolOp .And (y :: rest) pos) b
      | _ => false
    | .or a b => match e with
      | .BoolOp .Or [x] _ => chkT n c x (.or a b)
      | .BoolOp .And [x] _ => chkT n c x (.or a b)
      | .BoolOp .Or (x :: y :: rest) pos => chkT n c x a && chkT n c (.BoolOp .Or (y :: rest) pos) b
      | _ => false
    | .not a => match e with
      | .BoolOp .And [x] _ => chkT n c x (.not a)
      | .BoolOp .Or [x] _ => chkT n c x (.not a)
      | .UnaryOp .Not x _ => chkT n c x a
      | _ => false
    | .val ie => match e with
      | .BoolOp .And [x] _ => chkT n c x (.val ie)
      | .BoolOp .Or [x] _ => chkT n c x (.val ie)
      | .Compare _ _ _ _ => chkV n c e ie
      | .Name _ _ => chkE n c e ie
      | .Call _ _ _ _ => chkE n c e ie
      | .Subscript _ _ _ => chkE n c e ie
      | .BinOp _ _ _ _ => chkE n c e ie
      | .List _ _ => chkE n c e ie
      | .Constant _ _ _ => chkE n c e ie
      | _ => false
def chkV : Nat → Ck → Expr → IE → Bool
  | 0, _, _, _ => false
  | n + 1, c, e, ie => match ie with
    | .cmp o a b => cCmp (chkE n c) o a b e
    | .chn o1 o2 x y z => cChn (chkE n c) o1 o2 x y z e
    | _ => false
end
end Pev
set_option maxRecDepth 100000
set_option autoImplicit false
/-! Pev: the checker's soundness: expressions. -/
namespace Pev
open PySem PySem.Spec PyProof.Rows L2

/-- the context is as the place says -/
structure Gd (c : Ck) (X : Cx) (g : Gh) (call : Calls) (lamc : Nat → (Option (List PD) → FO) → Option (List PD) → FO) (actf : Option (List PD) → FO) (W : WX) : Prop where
  hK : X.K = g.K
  hN : X.N = c.N
  nd : X.N.Nodup
  hs : X.env.scope = c.sc
  hc : c.calm = true → X.calm = true
  un : X.A.units + 64 < cLine
  gu : X.A.guards = some [] ∧ X.A.units + 65 < cLine
  tk : Takes X W
  glob : ∀ f x, c.fns[f]? = some x → X.mg x = some (.ref (g.F f))
  blt : ∀ x, x ∈ bltNm ++ tyNm → X.mg x = none
  cst : ∀ x k, c.cst.lookup x = some k → ∃ t, X.mg x = some (.int k t)
  calls : c.calls = true → ∃ k, RoomG k X.A ∧ ∀ f, ∃ fd ps, FnG X.prog X.w X.K X.mg X.base (L2.CX X.prog X.w) k (g.F f) fd ps (spF g call f) ∧ PySem.W.keepIn X.K (.ref (g.F f)) = true ∧ Binds X.K fd ps []
  act : ∀ x, c.act = some x → ∀ p pos, PE X (.Call (.Name x p) [] [] pos) (tEv g call lamc actf W (.act 0))
  isx : c.exn = true → ∀ (y t : Str) (p p2 p3 pos : Pos) (i : Nat) (bs : List Bool), okGl c "isinstance" = true → okVar c y i = true → okGl c t = true → c.isa.lookup t = some bs →
    PE X (.Call (.Name "isinstance" p) [.Name y p2, .Name t p3] [] pos) (tEv g call lamc actf W (.isx i bs))
def LamH (c : Ck) (X : Cx) (g : Gh) (call : Calls) (lamc : Nat → (Option (List PD) → FO) → Option (List PD) → FO) (actf : Option (List PD) → FO) (W : WX) : Prop :=
  ∀ (f : Nat) (x : Str) (pars : Arguments) (bd : Expr) (lsc : Scope) (p pl pos : Pos) (b : IE), f ∈ c.lam → okFn c x f = true → LamX.lamSB c.sc lsc = true → noArgs pars = true →
    (∀ X' W', Gd { c with sc := lsc, act := none, exn := false, lam := [], calm := true } X' g call lamc actf W' → PE X' bd (tEv g call lamc actf W' b)) → PE X (.Call (.Name x p) [.Lambda pars bd lsc pl] [] pos) (tEv g call lamc actf W (.lam f b))
theorem lamH_nil {c : Ck} {X : Cx} {g : Gh} {call : Calls} {lamc : Nat → (Option (List PD) → FO) → Option (List PD) → FO} {actf : Option (List PD) → FO} {W : WX} (h : c.lam = []) : LamH c X g call lamc actf W := fun f _ _ _ _ _ _ _ _ hm => by rw [h] at hm; cases hm
section
variable {c : Ck} {X : Cx} {g : Gh} {call : Calls} {lamc : Nat → (Option (List PD) → FO) → Option (List PD) → FO} {actf : Option (List PD) → FO} {W : WX} {r : ChkE} {t : ChkT} {e : Expr}
theorem gl_of {x : Str} (G : Gd c X g call lamc actf W) (h : okGl c x = true) : Gl X x ∧ (x == ("__debug__" : Str)) = false ∧ x ≠ "__name__" := by
  unfold okGl at h
  simp only [Bool.and_eq_true, decide_eq_true_eq, Bool.not_eq_true'] at h
  refine ⟨?_, h.1.2, h.2⟩
  unfold Gl Env.kindOf
  rw [G.hs]
  exact h.1.1
theorem var_of {x : Str} {i : Nat} {p : Pos} (G : Gd c X g call lamc actf W) (h : okVar c x i = true) : PE X (.Name x p) (tVar i) ∧ X.N[i]? = some x ∧ Vis X.env.scope x := by
  unfold okVar at h
  simp only [Bool.and_eq_true, decide_eq_true_eq, Bool.not_eq_true'] at h
  obtain ⟨⟨⟨h1, h2⟩, h3⟩, h4⟩ := h
  have a1 : X.N[i]? = some x := by rw [G.hN]; exact h1
  have a2 : Vis X.env.scope x := by rw [G.hs]; exact vis_of h2
  exact ⟨pe_var a1 a2 h3 h4, a1, a2⟩
theorem fn_of {x : Str} {f : Nat} (G : Gd c X g call lamc actf W) (h : okFn c x f = true) : Gl X x ∧ (x == ("__debug__" : Str)) = false ∧ X.mg x = some (.ref (g.F f)) := by
  unfold okFn at h
  simp only [Bool.and_eq_true, decide_eq_true_eq] at h
  obtain ⟨a, b, _⟩ := gl_of G h.1
  exact ⟨a, b, G.glob f x h.2⟩
variable (G : Gd c X g call lamc actf W) (hr : ∀ e ie, r e ie = true → Snd X g call lamc actf W e ie)
include G
theorem k_var {i : Nat} (h : cVar c i e = true) : Snd X g call lamc actf W e (.var i) := by
  unfold cVar at h
  split at h
  · exact s_var (var_of G h).1
  · cases h
theorem k_fn {f : Nat} (h : cFn c f e = true) : Snd X g call lamc actf W e (.fn f) := by
  unfold cFn at h
  split at h
  · obtain ⟨a, b, d⟩ := fn_of G h
    exact .of rfl (p_fn (pe_glob a d (v := .ref (g.F f)) rfl b))
  · cases h
theorem k_cst {d : PD} (h : cCst c d e = true) : Snd X g call lamc actf W e (.cst d) := by
  unfold cCst at h
  split at h
  · split at h
    · rename_i x _ _ k
      rw [Bool.and_eq_true, decide_eq_true_eq] at h
      obtain ⟨a, b, _⟩ := gl_of G h.1
      obtain ⟨t, m⟩ := G.cst x k h.2
      exact .of rfl (p_cst (v := .int k) (pe_glob a m ⟨t, rfl⟩ b) fun _ _ _ => .int k)
    · cases h
  · split at h
    · rw [decide_eq_true_eq] at h; subst h; exact .of rfl (p_cst pe_int fun _ _ _ => .int _)
    · rw [beq_iff_eq] at h; subst h; exact .of rfl (p_cst pe_bl fun _ _ _ => .bl _)
    · exact .of rfl (p_cst pe_non fun _ _ _ => .non)
    · rw [decide_eq_true_eq] at h; subst h; exact .of rfl (p_cst pe_str fun _ _ _ => .str _)
    · cases h
  · cases h
include hr
theorem k_list : ∀ {es : List Expr} {ies : IEs}, cList r es ies = true → SndA X g call lamc actf W es ies
  | [], .nil, _ => .nil
  | e :: es, .cons ie ies, h => by
    unfold cList at h
    simp only [Bool.and_eq_true] at h
    exact .cons h.1.1 (hr _ _ h.1.2) (k_list h.2)
  | [], .cons _ _, h => by unfold cList at h; cases h
  | _ :: _, .nil, h => by unfold cList at h; cases h
theorem k_bin {o : Bo} {ia ib : IE} (h : cBin r o ia ib e = true) : Snd X g call lamc actf W e (.bin o ia ib) := by
  unfold cBin at h
  split at h
  · simp only [Bool.and_eq_true, decide_eq_true_eq] at h
    obtain ⟨⟨h1, h2⟩, h3⟩ := h
    subst h1
    exact s_bin G.hK o (hr _ _ h2) (hr _ _ h3)
  · cases h
theorem k_neg {ia : IE} (h : cNeg r ia e = true) : Snd X g call lamc actf W e (.neg ia) := by
  unfold cNeg at h
  split at h
  · exact s_neg (hr _ _ h)
  · cases h
theorem k_not {ia : IE} (h : cNot r ia e = true) : Snd X g call lamc actf W e (.not ia) := by
  unfold cNot at h
  split at h
  · exact .of rfl (s_not (hr _ _ h).ev)
  · cases h
theorem k_cmp {o : Co} {ia ib : IE} (h : cCmp r o ia ib e = true) : Snd X g call lamc actf W e (.cmp o ia ib) ∧ PT X e (tTst g call lamc actf W (.val (.cmp o ia ib))) := by
  unfold cCmp at h
  split at h
  · simp only [Bool.and_eq_true, decide_eq_true_eq, Bool.not_eq_true'] at h
    obtain ⟨⟨⟨h1, h2⟩, h3⟩, h4⟩ := h
    subst h1
    exact ⟨s_cmp G.hK G.un o (hr _ _ h3) (hr _ _ h4) h2, t_cmp G.hK G.un o (hr _ _ h3) (hr _ _ h4) h2⟩
  · cases h
theorem k_chn {o1 o2 : Co} {ia ib ic : IE} (h : cChn r o1 o2 ia ib ic e = true) : Snd X g call lamc actf W e (.chn o1 o2 ia ib ic) ∧ PT X e (tTst g call lamc actf W (.val (.chn o1 o2 ia ib ic))) := by
  unfold cChn at h
  split at h
  · simp only [Bool.and_eq_true, decide_eq_true_eq, Bool.not_eq_true'] at h
    obtain ⟨⟨⟨⟨⟨h1, h2⟩, h3⟩, h4⟩, h5⟩, h6⟩ := h
    subst h1 h2
    exact ⟨.of rfl (s_chn G.hK G.un o1 o2 (hr _ _ h4) (hr _ _ h5) (hr _ _ h6) h3), t_chn G.hK G.un o1 o2 (hr _ _ h4) (hr _ _ h5) (hr _ _ h6) h3⟩
  · cases h
theorem k_and {ia ib : IE} (h : cAnd r ia ib e = true) : Snd X g call lamc actf W e (.and ia ib) := by
  unfold cAnd at h
  split at h
  · rw [Bool.and_eq_true] at h
    exact .of rfl (s_and (hr _ _ h.1).ev (hr _ _ h.2).ev)
  · cases h
theorem k_or {ia ib : IE} (h : cOr r ia ib e = true) : Snd X g call lamc actf W e (.or ia ib) := by
  unfold cOr at h
  split at h
  · rw [Bool.and_eq_true] at h
    exact .of rfl (s_or (hr _ _ h.1).ev (hr _ _ h.2).ev)
  · cases h
theorem k_ite {it : IT} {ia ib : IE} (ht : ∀ e it, t e it = true → PT X e (tTst g call lamc actf W it)) (h : cIte r t it ia ib e = true) : Snd X g call lamc actf W e (.ite it ia ib) := by
  unfold cIte at h
  split at h
  · simp only [Bool.and_eq_true] at h
    exact .of rfl (s_ite (ht _ _ h.1.1) (hr _ _ h.1.2).ev (hr _ _ h.2).ev)
  · cases h
theorem k_tup {ies : IEs} (h : cTup r ies e = true) : Snd X g call lamc actf W e (.tup ies) := by
  unfold cTup at h
  split at h
  · rw [Bool.and_eq_true, decide_eq_true_eq] at h
    exact .of rfl (s_tup (k_list G hr h.1) h.2)
  · cases h
theorem k_lst {ies : IEs} (h : cLst r ies e = true) : Snd X g call lamc actf W e (.lst ies) := by
  unfold cLst at h
  split at h
  · rw [Bool.and_eq_true, decide_eq_true_eq] at h
    exact .of rfl (s_lst (k_list G hr h.1) h.2)
  · cases h
omit hr in
theorem k_dnil (h : cDnil e = true) : Snd X g call lamc actf W e .dnil := by
  unfold cDnil at h
  split at h
  · exact .of rfl s_dnil
  · cases h
theorem k_dic {ik iv : IE} (h : cDic r ik iv e = true) : Snd X g call lamc actf W e (.dic ik iv) := by
  unfold cDic at h
  split at h
  · rw [Bool.and_eq_true] at h
    exact .of rfl (s_dic G.un (hr _ _ h.1).ev (hr _ _ h.2).ev)
  · cases h
omit G hr in
theorem plainIx_of {b : Expr} (h : plainIxB b = true) : PlainIx b := by
  unfold plainIxB at h
  split at h <;> first | (intro o i; rfl) | cases h
theorem k_sub {ia ib : IE} (h : cSub r ia ib e = true) : Snd X g call lamc actf W e (.sub ia ib) := by
  unfold cSub at h
  split at h
  · simp only [Bool.and_eq_true] at h
    exact s_sub G.hK G.un (hr _ _ h.1.2) (hr _ _ h.2) (plainIx_of h.1.1)
  · cases h
omit G in
theorem k_opt {eo : Option Expr} {io : IO} (h : cOpt r eo io = true) : PO X eo (tOptI g call lamc actf W io) := by
  unfold cOpt at h
  split at h
  · exact o_no
  · exact o_yes (hr _ _ h).ev
  · cases h
theorem k_slc {ia : IE} {lo hi : IO} (h : cSlc r ia lo hi e = true) : Snd X g call lamc actf W e (.slc ia lo hi) := by
  unfold cSlc at h
  split at h
  · simp only [Bool.and_eq_true] at h
    exact .of rfl (s_slc G.hK (hr _ _ h.1.1) (k_opt hr h.1.2) (k_opt hr h.2))
  · cases h
theorem k_rev {ia : IE} (h : cRev r ia e = true) : Snd X g call lamc actf W e (.rev ia) := by
  unfold cRev at h
  split at h
  · exact .of rfl (s_rev G.hK (hr _ _ h))
  · cases h
theorem k_call {f : Nat} {ies : IEs} (h : cCall r c f ies e = true) : Snd X g call lamc actf W e (.call f ies) := by
  unfold cCall at h
  split at h
  · rename_i x p es pos
    simp only [Bool.and_eq_true] at h
    obtain ⟨⟨h1, h2⟩, h3⟩ := h
    obtain ⟨k, hr1, F⟩ := G.calls h1
    obtain ⟨fd, ps, F, hk, hb⟩ := F f
    obtain ⟨a, b, m⟩ := fn_of G h2
    have q := k_list G hr h3
    cases q with
    | nil => exact .of rfl (s_call0 G.tk F hr1 a m hk hb b)
    | cons n s t => exact .of rfl (s_call G.tk F hr1 a m hk hb b (.cons n s t))
  · cases h
theorem k_calv {i : Nat} {ies : IEs} (h : cCalv r c i ies e = true) : Snd X g call lamc actf W e (.calv i ies) := by
  unfold cCalv at h
  split at h
  · rename_i x p e es pos
    simp only [Bool.and_eq_true] at h
    obtain ⟨⟨h1, h2⟩, h3⟩ := h
    obtain ⟨k, hr1, F⟩ := G.calls h1
    obtain ⟨_, a1, a2⟩ := var_of (p := p) G h2
    unfold okVar at h2
    simp only [Bool.and_eq_true, decide_eq_true_eq, Bool.not_eq_true'] at h2
    exact .of rfl (s_calv G.tk F hr1 a1 a2 h2.1.2 h2.2 (k_list G hr h3))
  · cases h
omit hr in
theorem k_act {i : Nat} (h : cAct c i e = true) : Snd X g call lamc actf W e (.act i) := by
  unfold cAct at h
  split at h
  · rw [Bool.and_eq_true, decide_eq_true_eq, beq_iff_eq] at h
    obtain ⟨h1, rfl⟩ := h
    exact .of rfl (G.act _ h1 _ _)
  · cases h
omit hr in
theorem k_isx {i : Nat} {bs : List Bool} (h : cIsx c i bs e = true) : Snd X g call lamc actf W e (.isx i bs) := by
  unfold cIsx at h
  split at h
  · simp only [Bool.and_eq_true, decide_eq_true_eq] at h
    obtain ⟨⟨⟨⟨⟨h1, h2⟩, h3⟩, h4⟩, h5⟩, h6⟩ := h
    subst h1
    exact .of rfl (G.isx h2 _ _ _ _ _ _ _ _ h3 h4 h5 h6)
  · cases h
omit hr in
theorem k_pop0 {i : Nat} (h : cPop0 c i e = true) : Snd X g call lamc actf W e (.pop0 i) := by
  unfold cPop0 at h
  split at h
  · simp only [Bool.and_eq_true, decide_eq_true_eq] at h
    obtain ⟨⟨h1, h2⟩, h3⟩ := h
    subst h1
    exact .of rfl (s_pop0 G.hK (var_of G h2).1 rfl h3)
  · cases h
theorem k_pop {i : Nat} {ik : IE} (h : cPop r c i ik e = true) : Snd X g call lamc actf W e (.pop i ik) := by
  unfold cPop at h
  split at h
  · simp only [Bool.and_eq_true, decide_eq_true_eq] at h
    obtain ⟨⟨⟨⟨h1, h2⟩, h3⟩, h4⟩, h5⟩ := h
    subst h1
    exact .of rfl (s_pop G.hK (var_of G h2).1 (hr _ _ h5).ev rfl h4 h3)
  · cases h
omit hr in
theorem k_scut {i m : Nat} (h : cScut c i m e = true) : Snd X g call lamc actf W e (.scut i m) := by
  unfold cScut at h
  split at h
  · rw [Bool.and_eq_true, decide_eq_true_eq] at h
    obtain ⟨h1, h2⟩ := h
    subst h2
    exact .of rfl (s_scut G.hK (var_of G h1).1)
  · cases h
theorem k_mth {m : Mt} {ia : IE} {ies : IEs} (h : cMth r m ia ies e = true) : Snd X g call lamc actf W e (.mth m ia ies) := by
  unfold cMth at h
  split at h
  · simp only [Bool.and_eq_true] at h
    obtain ⟨⟨⟨h1, h2⟩, h3⟩, h4⟩ := h
    split at h4
    · simp only [Bool.and_eq_true, decide_eq_true_eq] at h4
      obtain ⟨⟨h5, h6⟩, h7⟩ := h4
      subst h5
      exact .of rfl (s_cnt G.hK G.un (hr _ _ h3) (hr _ _ h7) h6 h1 h2)
    · simp only [Bool.and_eq_true, decide_eq_true_eq] at h4
      obtain ⟨⟨h5, h6⟩, h7⟩ := h4
      subst h5
      exact .of rfl (s_idx G.hK G.gu.2 (hr _ _ h3) (hr _ _ h7) h6 h1 h2)
    · simp only [Bool.and_eq_true, decide_eq_true_eq] at h4
      obtain ⟨⟨⟨⟨h5, h6⟩, h7⟩, h8⟩, h9⟩ := h4
      subst h5
      exact .of rfl (s_get2 G.un (hr _ _ h3) (hr _ _ h8) (hr _ _ h9) h6 h7 h1 h2)
    · cases h4
  · cases h
end
end Pev
set_option maxRecDepth 100000
set_option autoImplicit false
/-! Pev: the checker's soundness: built-ins, walks, comprehensions. -/
namespace Pev
open PySem PySem.Spec PyProof.Rows L2

section
variable {c : Ck} {X : Cx} {g : Gh} {call : Calls} {lamc : Nat → (Option (List PD) → FO) → Option (List PD) → FO} {actf : Option (List PD) → FO} {W : WX} {r : ChkE} {t : ChkT} {e : Expr}
theorem blt_call {f : Bf} {nm : Str} {b : Bool} {es : List Expr} {ies : IEs} {p pos : Pos} (G : Gd c X g call lamc actf W) (hb : bfNm f = some (nm, b)) (hc : b = true → X.calm = true) (hg : Gl X nm) (hm : X.mg nm = none) (hn : nm ≠ "__name__") (hdb : (nm == ("__debug__" : Str)) = false) (h : SndA X g call lamc actf W (e :: es) ies) :
    PE X (.Call (.Name nm p) (e :: es) [] pos) (tEv g call lamc actf W (.blt f ies)) := by
  cases f with
  | len => cases hb; exact s_callB bl_len (cr_len G.hK) hg hm (by decide +kernel) hn hdb h
  | tuple => cases hb; exact s_callTy bl_tuple (cr_tuple G.hK) hg hm (by decide +kernel) hn hdb h
  | list => cases hb; exact s_callTy bl_list (cr_list G.hK (hc rfl)) hg hm (by decide +kernel) hn hdb h
  | sum => cases hb; exact s_callB bl_sum (cr_sumA G.hK (hc rfl)) hg hm (by decide +kernel) hn hdb h
  | min1 => cases hb; exact s_callB bl_min1 (cr_best G.hK (hc rfl) G.un false) hg hm (by decide +kernel) hn hdb h
  | max1 => cases hb; exact s_callB bl_max1 (cr_best G.hK (hc rfl) G.un true) hg hm (by decide +kernel) hn hdb h
  | min2 => cases hb; exact s_callB bl_min2 (call_min2 (hc rfl)) hg hm (by decide +kernel) hn hdb h
  | max2 => cases hb; exact s_callB bl_max2 (call_max2 (hc rfl)) hg hm (by decide +kernel) hn hdb h
  | sorted => cases hb; exact s_callB bl_sorted (cr_sortA G.hK (hc rfl) G.un) hg hm (by decide +kernel) hn hdb h
  | all => cases hb; exact s_callB bl_all (cr_allA G.hK (hc rfl)) hg hm (by decide +kernel) hn hdb h
  | any => cases hb; exact s_callB bl_any (cr_anyA G.hK (hc rfl)) hg hm (by decide +kernel) hn hdb h
  | abs => cases hb; exact s_callB bl_abs call_abs hg hm (by decide +kernel) hn hdb h
  | repr => cases hb; exact s_callB bl_repr (cr_repr G.hK G.gu.1 G.un) hg hm (by decide +kernel) hn hdb h
  | int => cases hb; exact s_callTy bl_int call_int1 hg hm (by decide +kernel) hn hdb h
  | _ => cases hb
theorem bf_mem {f : Bf} {nm : Str} {b : Bool} (hb : bfNm f = some (nm, b)) : nm ∈ bltNm ++ tyNm := by
  cases f <;> first | (cases hb; done) | (cases hb; decide)
theorem isa_of {f : Bf} {t : Str} (h : isaTy f = some t) : ∃ T : String, bootBuiltins t = some (.type T) ∧ t ∈ bltNm ++ tyNm ∧ IsaBf f T := by
  cases f with
  | isInt => cases h; exact ⟨"int", by decide +kernel, by decide, .inl ⟨rfl, rfl⟩⟩
  | isBool => cases h; exact ⟨"bool", by decide +kernel, by decide, .inr (.inl ⟨rfl, rfl⟩)⟩
  | isTuple => cases h; exact ⟨"tuple", by decide +kernel, by decide, .inr (.inr (.inl ⟨rfl, rfl⟩))⟩
  | isStr => cases h; exact ⟨"str", by decide +kernel, by decide, .inr (.inr (.inr (.inl ⟨rfl, rfl⟩)))⟩
  | isList => cases h; exact ⟨"list", by decide +kernel, by decide, .inr (.inr (.inr (.inr (.inl ⟨rfl, rfl⟩))))⟩
  | isDict => cases h; exact ⟨"dict", by decide +kernel, by decide, .inr (.inr (.inr (.inr (.inr ⟨rfl, rfl⟩))))⟩
  | _ => cases h
variable (G : Gd c X g call lamc actf W) (hr : ∀ e ie, r e ie = true → Snd X g call lamc actf W e ie)
include G hr
theorem k_blt {f : Bf} {ies : IEs} (h : cBlt r c f ies e = true) : Snd X g call lamc actf W e (.blt f ies) := by
  unfold cBlt at h
  split at h
  · rename_i x p e1 es pos
    rw [Bool.and_eq_true] at h
    obtain ⟨h1, h2⟩ := h
    obtain ⟨a1, a2, a3⟩ := gl_of G h1
    refine .of rfl ?_
    split at h2
    · split at h2
      · simp only [Bool.and_eq_true, decide_eq_true_eq] at h2
        obtain ⟨⟨⟨⟨⟨h3, h4⟩, h5⟩, h6⟩, h7⟩, h8⟩ := h2
        subst h3 h4
        exact s_lrng (G.hc h5) (hr _ _ h8) h7 a1 (G.blt _ (by decide)) (gl_of G h6).1 (G.blt _ (by decide))
      · cases h2
    · split at h2
      · rename_i t ht
        split at h2
        · simp only [Bool.and_eq_true, decide_eq_true_eq] at h2
          obtain ⟨⟨⟨⟨h3, h4⟩, h5⟩, h6⟩, h7⟩ := h2
          subst h3 h4
          obtain ⟨T, b1, b2, b3⟩ := isa_of ht
          obtain ⟨g1, g2, g3⟩ := gl_of G h5
          exact s_isa G.hK b3 (hr _ _ h7) h6 a1 (G.blt _ (by decide)) g1 (G.blt _ b2) b1 g3 g2
        · cases h2
      · split at h2
        · rename_i nm b hb
          simp only [Bool.and_eq_true, decide_eq_true_eq, Bool.or_eq_true, Bool.not_eq_true'] at h2
          obtain ⟨⟨h3, h4⟩, h5⟩ := h2
          subst h3
          exact blt_call G hb (fun e => h4.elim (fun z => by rw [e] at z; cases z) G.hc) a1 (G.blt _ (bf_mem hb)) a3 a2 (k_list G hr h5)
        · cases h2
  · cases h
theorem k_src {src : IR} {tgE : Expr} (h : cSrc r c tgE src e = true) : PI X tgE e (tSrc g call lamc actf W src) := by
  unfold cSrc at h
  split at h
  · simp only [Bool.and_eq_true] at h
    exact w_seq G.hK (hr _ _ h.1.1).ev
  · simp only [Bool.and_eq_true, decide_eq_true_eq] at h
    obtain ⟨⟨⟨h1, h2⟩, h3⟩, h4⟩ := h
    subst h1
    exact w_rng1 (hr _ _ h4).ev h3 (gl_of G h2).1 (G.blt _ (by decide))
  · simp only [Bool.and_eq_true, decide_eq_true_eq] at h
    obtain ⟨⟨⟨⟨⟨h1, h2⟩, h3⟩, h4⟩, h5⟩, h6⟩ := h
    subst h1
    exact w_rng2 (hr _ _ h5).ev (hr _ _ h6).ev h3 h4 (gl_of G h2).1 (G.blt _ (by decide))
  · simp only [Bool.and_eq_true, decide_eq_true_eq] at h
    obtain ⟨⟨⟨⟨h1, h2⟩, h3⟩, h4⟩, h5⟩ := h
    subst h1
    unfold tgTup at h4
    split at h4
    · exact w_enm G.hK (hr _ _ h5).ev h3 (gl_of G h2).1 (G.blt _ (by decide))
    · cases h4
  · simp only [Bool.and_eq_true, decide_eq_true_eq] at h
    obtain ⟨⟨⟨⟨⟨⟨h1, h2⟩, h3⟩, h4⟩, h5⟩, h6⟩, h7⟩ := h
    subst h1
    unfold tgTup at h5
    split at h5
    · exact w_zip G.hK (hr _ _ h6).ev (hr _ _ h7).ev h3 h4 (gl_of G h2).1 (G.blt _ (by decide))
    · cases h5
  · cases h
omit G hr in
theorem src_noset {src : IR} {tgE : Expr} (h : cSrc r c tgE src e = true) (env : Env) (x : Value) : foldedSetIterable e env x = pure x := by
  unfold cSrc at h
  split at h
  · rw [Bool.and_eq_true] at h
    cases e <;> first | rfl | (have z := h.2; cases z)
  · rfl
  · rfl
  · rfl
  · rfl
  · cases h
end

/-! ### targets -/
section
variable {c : Ck} {X : Cx} {g : Gh} {call : Calls} {lamc : Nat → (Option (List PD) → FO) → Option (List PD) → FO} {actf : Option (List PD) → FO} {W : WX} {e : Expr}
/-- the names that may be stored -/
structure Sto (X : Cx) (sc : Scope) : Prop where
  at' : ∀ y k, k ≠ NameKind.free → sc.names.lookup y = some k → X.env.scope.names.lookup y = some k
  cell : ∀ y, sc.names.lookup y = some .cell → X.fn y = true
theorem tg_one {sc : Scope} {x : Str} {i : Nat} (S : Sto X sc) (h : okTg X.N sc x i = true) : X.N[i]? = some x ∧ Loc X.env.scope x ∧ (X.fn x = true ∨ X.env.scope.names.lookup x = some .local) := by
  unfold okTg at h
  simp only [Bool.and_eq_true, Bool.or_eq_true, decide_eq_true_eq] at h
  obtain ⟨h1, h2⟩ := h
  exact ⟨h1, h2.imp (S.at' x _ (by decide)) (S.at' x _ (by decide)), h2.elim (fun z => .inr (S.at' x _ (by decide) z)) fun z => .inl (S.cell x z)⟩
theorem tg_all {sc : Scope} (S : Sto X sc) : ∀ {es : List Expr} {is : List Nat}, okTgs X.N sc es is = true → Tgs X es is
  | [], [], _ => .nil
  | e :: es, i :: is, h => by
    unfold okTgs at h
    split at h
    · cases ‹_ :: _ = []›
    · rename_i x p es' i' is' e1 e2
      cases e1
      cases e2
      rw [Bool.and_eq_true] at h
      obtain ⟨a1, a2, a3⟩ := tg_one S h.1
      exact .cons a1 a2 a3 (tg_all S h.2)
    · cases h
  | [], _ :: _, h => by unfold okTgs at h; cases h
  | _ :: _, [], h => by
    unfold okTgs at h
    split at h
    · rename_i e1 _; cases e1
    · rename_i e2; cases e2
    · cases h
theorem k_tgt {sc : Scope} {tg : Tgt} (nd : X.N.Nodup) (hcalm : X.calm = true) (S : Sto X sc) (h : cTgt X.N sc tg e = true) : PG X e (gTgt X.K tg) := by
  unfold cTgt at h
  split at h
  · obtain ⟨a1, a2, a3⟩ := tg_one S h
    exact tg_name nd a1 a2 a3
  · exact tg_tup nd hcalm (tg_all S h)
  · cases h
end
end Pev
set_option maxRecDepth 100000
set_option autoImplicit false
/-! Pev: the checker's soundness: comprehensions, all expressions. -/
namespace Pev
open PySem PySem.Spec PyProof.Rows L2

section
variable {c : Ck} {X : Cx} {g : Gh} {call : Calls} {lamc : Nat → (Option (List PD) → FO) → Option (List PD) → FO} {actf : Option (List PD) → FO} {W : WX}
theorem gd_blk {scope : Scope} {s : Shared} {H : Hp} {cenv : Env} {fp : List Addr} (G : Gd c X g call lamc actf W) (hsc : cenv.scope = relS scope X.env.scope) : Gd (c.blk scope) (X.blk s H scope cenv fp) g call lamc actf W0 :=
  ⟨G.hK, G.hN, G.nd, (by show cenv.scope = relS scope c.sc; rw [← G.hs]; exact hsc), G.hc, G.un, G.gu, LamX.takes0, G.glob, G.blt, G.cst, G.calls, fun _ h => (by cases h), fun h => (by cases h)⟩
theorem PTs.imp {es : List Expr} {t t' : TT} (h : PTs X es t) (q : ∀ σ H Q, t' σ H Q → t σ H Q) : PTs X es t' := ⟨fun pins s σ H Q I hw => h.run pins s σ H Q I (q σ H Q hw)⟩
theorem k_ifs {t : ChkT} {es : List Expr} {it : IT} (ht : ∀ e it, t e it = true → PT X e (tTst g call lamc actf W it)) (h : cIfs t es it = true) : PTs X es (tTst g call lamc actf W it) := by
  unfold cIfs at h
  split at h
  · exact PTs.imp pts_nil fun σ H Q ⟨hd, s, cl, post⟩ => by
      rw [tst] at post
      exact post.here rfl (Fr.refl _ _) AvLe.refl ⟨cl, rfl⟩
  · rw [Bool.and_eq_true] at h
    exact pts_one (ht _ _ h.2)
  · cases h
/-- the comprehension's parts -/
structure LcOk (c : Ck) (X : Cx) (g : Gh) (call : Calls) (lamc : Nat → (Option (List PD) → FO) → Option (List PD) → FO) (actf : Option (List PD) → FO) (W : WX) (el tgE iter : Expr) (cs : List Expr) (scope : Scope) (elt : IE) (tg : Tgt) (src : IR) (ifs : IT) (own : List Nat) (own' : List (Str × Nat)) : Prop where
  hcalm : X.calm = true
  hblk : BlkOk X.N X.env.scope scope own'
  hown : own'.map (·.2) = own
  htg : ∀ j, j ∈ tgIx tg → j ∈ own
  hsrc : PI X tgE iter (tSrc g call lamc actf W src)
  hfold : ∀ x, foldedSetIterable iter X.env x = pure x
  hg : ∀ (s : Shared) (H : Hp) (C : Addr) (cl : List (Str × Addr)) (fp : List Addr), PG (X.blk s H scope (compEnvC scope cl C X.env) fp) tgE (gTgt g.K tg)
  ht : ∀ (s : Shared) (H : Hp) (C : Addr) (cl : List (Str × Addr)) (fp : List Addr), PTs (X.blk s H scope (compEnvC scope cl C X.env) fp) cs (tTst g call lamc actf W0 ifs)
  he : ∀ (s : Shared) (H : Hp) (C : Addr) (cl : List (Str × Addr)) (fp : List Addr), PE (X.blk s H scope (compEnvC scope cl C X.env) fp) el (tEv g call lamc actf W0 elt)
theorem LcOk.pe {el tgE iter : Expr} {cs : List Expr} {scope : Scope} {elt : IE} {tg : Tgt} {src : IR} {ifs : IT} {own : List Nat} {own' : List (Str × Nat)} {pos : Pos} (nd : X.N.Nodup) (L : LcOk c X g call lamc actf W el tgE iter cs scope elt tg src ifs own own') :
    PE X (.ListComp el [⟨tgE, iter, cs, 0⟩] scope pos) (tEv g call lamc actf W (.lc elt tg src ifs own)) := by
  have h := pe_lc (pos := pos) L.hcalm nd L.hsrc L.hblk L.hg L.ht L.he L.hfold
  rw [L.hown] at h
  exact PE.imp h fun σ H Q q => lc_imp L.htg σ H Q q
theorem k_lcOk {r : ChkE} {rb : Ck → ChkE} {tb : Ck → ChkT} {el tgE iter : Expr} {cs : List Expr} {scope : Scope} {elt : IE} {tg : Tgt} {src : IR} {ifs : IT} {own : List Nat} {pos : Pos} (G : Gd c X g call lamc actf W) (hr : ∀ e ie, r e ie = true → Snd X g call lamc actf W e ie)
    (hrb : ∀ X' W' e ie, Gd (c.blk scope) X' g call lamc actf W' → rb (c.blk scope) e ie = true → Snd X' g call lamc actf W' e ie) (htb : ∀ X' W' e it, Gd (c.blk scope) X' g call lamc actf W' → tb (c.blk scope) e it = true → PT X' e (tTst g call lamc actf W' it))
    (h : cLc r rb tb c elt tg src ifs own (.ListComp el [⟨tgE, iter, cs, 0⟩] scope pos) = true) : LcOk c X g call lamc actf W el tgE iter cs scope elt tg src ifs own (own.filterMap fun i => (c.N[i]?).map fun x => (x, i)) := by
  unfold cLc at h
  simp only [Bool.and_eq_true, decide_eq_true_eq] at h
  obtain ⟨⟨⟨⟨⟨⟨⟨h1, h2⟩, h3⟩, h4⟩, h5⟩, h6⟩, h7⟩, h8⟩ := h
  have hcalm := G.hc h1
  refine ⟨hcalm, ?_, h3, h4, k_src G hr h5, fun x => src_noset h5 _ x, fun s H C cl fp => ?_, fun s H C cl fp => ?_, fun s H C cl fp => ?_⟩
  · have q := blkOk_by h2
    rw [← G.hN, ← G.hs] at q
    rw [← G.hN]
    exact q
  · rw [← G.hN] at h6
    rw [← G.hK]
    exact k_tgt (X := X.blk s H scope (compEnvC scope cl C X.env) fp) (sc := scope) G.nd hcalm ⟨fun y k hk hy => lookup_relS_keep hk hy, fun y hy => by
      show (scope.names.lookup y == some .cell) = true
      rw [hy]
      rfl⟩ h6
  · exact k_ifs (htb _ _ · · (gd_blk (scope := scope) G rfl) ·) h8
  · exact (hrb _ _ _ _ (gd_blk (scope := scope) G rfl) h7).ev
theorem chk_ok (n : Nat) : (∀ (c : Ck) (X : Cx) (W : WX) (e : Expr) (ie : IE), Gd c X g call lamc actf W → LamH c X g call lamc actf W → chkE n c e ie = true → Snd X g call lamc actf W e ie) ∧
    (∀ (c : Ck) (X : Cx) (W : WX) (e : Expr) (it : IT), Gd c X g call lamc actf W → LamH c X g call lamc actf W → chkT n c e it = true → PT X e (tTst g call lamc actf W it) ∧ (∀ op vs pos, e = .BoolOp op vs pos → PW X e (tTst g call lamc actf W it))) ∧
    (∀ (c : Ck) (X : Cx) (W : WX) (e : Expr) (ie : IE), Gd c X g call lamc actf W → LamH c X g call lamc actf W → chkV n c e ie = true → PT X e (tTst g call lamc actf W (.val ie))) := by
  induction n with
  | zero =>
    refine ⟨fun c X W e ie _ _ h => ?_, fun c X W e it _ _ h => ?_, fun c X W e ie _ _ h => ?_⟩
    · unfold chkE at h; cases h
    · unfold chkT at h; cases h
    · unfold chkV at h; cases h
  | succ n ih =>
    obtain ⟨ihE, ihT, ihV⟩ := ih
    refine ⟨fun c X W e ie G L h => ?_, fun c X W e it G L h => ?_, fun c X W e ie G L h => ?_⟩
    · have hr : ∀ e ie, chkE n c e ie = true → Snd X g call lamc actf W e ie := fun e ie h => ihE c X W e ie G L h
      have ht : ∀ e it, chkT n c e it = true → PT X e (tTst g call lamc actf W it) := fun e it h => (ihT c X W e it G L h).1
      unfold chkE at h
      cases ho : one e with
      | some a =>
        rw [ho] at h
        unfold one at ho
        split at ho
        · cases ho
          exact ⟨pe_one (hr _ _ h).ev, pe_one (hr _ _ h).op⟩
        · cases ho
      | none =>
        rw [ho] at h
        cases ie with
        | var i => exact k_var G h
        | cst d => exact k_cst G h
        | fn f => exact k_fn G h
        | bin o a b => exact k_bin G hr h
        | neg a => exact k_neg G hr h
        | cmp o a b => exact (k_cmp G hr h).1
        | chn o1 o2 x y z => exact (k_chn G hr h).1
        | and a b => exact k_and G hr h
        | or a b => exact k_or G hr h
        | not a => exact k_not G hr h
        | ite t a b => exact k_ite G hr ht h
        | tup es => exact k_tup G hr h
        | lst es => exact k_lst G hr h
        | dnil => exact k_dnil G h
        | dic k v => exact k_dic G hr h
        | sub a i => exact k_sub G hr h
        | slc a lo hi => exact k_slc G hr h
        | rev a => exact k_rev G hr h
        | call f es => exact k_call G hr h
        | calv i es => exact k_calv G hr h
        | act i => exact k_act G h
        | blt f es => exact k_blt G hr h
        | mth m a es => exact k_mth G hr h
        | pop0 i => exact k_pop0 G h
        | pop i k => exact k_pop G hr h
        | isx i bs => exact k_isx G h
        | scut i m => exact k_scut G h
        | lam f b =>
          have h : cLam (fun c => chkE n c) c f b e = true := h
          unfold cLam at h
          split at h
          · simp only [Bool.and_eq_true] at h
            obtain ⟨⟨⟨⟨h1, h2⟩, h3⟩, h4⟩, h5⟩ := h
            exact .of rfl (L f _ _ _ _ _ _ _ b (of_decide_eq_true h1) h2 h3 h4 fun X' W' G' => (ihE _ X' W' _ _ G' (lamH_nil rfl) h5).ev)
          · cases h
        | lc elt tg src ifs own =>
          have h : cLc (chkE n c) (fun c => chkE n c) (fun c => chkT n c) c elt tg src ifs own e = true := h
          have h0 := h
          unfold cLc at h
          split at h
          · exact .of rfl (LcOk.pe G.nd (k_lcOk G hr (fun X' W' e ie G' q => ihE _ X' W' e ie G' (lamH_nil rfl) q) (fun X' W' e it G' q => (ihT _ X' W' e it G' (lamH_nil rfl) q).1) h0))
          · cases h
    · have hr : ∀ e ie, chkE n c e ie = true → Snd X g call lamc actf W e ie := fun e ie h => ihE c X W e ie G L h
      have ht : ∀ e it, chkT n c e it = true → PT X e (tTst g call lamc actf W it) := fun e it h => (ihT c X W e it G L h).1
      have hw : ∀ op vs pos it, chkT n c (.BoolOp op vs pos) it = true → PW X (.BoolOp op vs pos) (tTst g call lamc actf W it) := fun op vs pos it h => (ihT c X W _ it G L h).2 op vs pos rfl
      have ofW : ∀ {it : IT}, PW X e (tTst g call lamc actf W it) → PT X e (tTst g call lamc actf W it) ∧ (∀ op vs pos, e = .BoolOp op vs pos → PW X e (tTst g call lamc actf W it)) := fun q => ⟨q.pt, fun _ _ _ _ => q⟩
      unfold chkT at h
      cases it with
      | yes => cases h
      | and a b =>
        simp only at h
        split at h
        · exact ofW (pw_and1 (ht _ _ h))
        · exact ofW (pw_or1 (ht _ _ h))
        · rw [Bool.and_eq_true] at h
          exact ofW (t_and (ht _ _ h.1) (hw _ _ _ _ h.2))
        · cases h
      | or a b =>
        simp only at h
        split at h
        · exact ofW (pw_or1 (ht _ _ h))
        · exact ofW (pw_and1 (ht _ _ h))
        · rw [Bool.and_eq_true] at h
          exact ofW (t_or (ht _ _ h.1) (hw _ _ _ _ h.2))
        · cases h
      | not a =>
        simp only at h
        split at h
        · exact ofW (pw_and1 (ht _ _ h))
        · exact ofW (pw_or1 (ht _ _ h))
        · exact ⟨t_not (ht _ _ h), fun _ _ _ z => by cases z⟩
        · cases h
      | val ie =>
        simp only at h
        split at h
        · exact ofW (pw_and1 (ht _ _ h))
        · exact ofW (pw_or1 (ht _ _ h))
        · exact ⟨ihV c X W _ ie G L h, fun _ _ _ z => by cases z⟩
        · exact ⟨t_val G.hK (hr _ _ h).op fun _ => rfl, fun _ _ _ z => by cases z⟩
        · exact ⟨t_val G.hK (hr _ _ h).op fun _ => rfl, fun _ _ _ z => by cases z⟩
        · exact ⟨t_val G.hK (hr _ _ h).op fun _ => rfl, fun _ _ _ z => by cases z⟩
        · exact ⟨t_val G.hK (hr _ _ h).op fun _ => rfl, fun _ _ _ z => by cases z⟩
        · exact ⟨t_val G.hK (hr _ _ h).op fun _ => rfl, fun _ _ _ z => by cases z⟩
        · exact ⟨t_val G.hK (hr _ _ h).op fun _ => rfl, fun _ _ _ z => by cases z⟩
        · cases h
    · have hr : ∀ e ie, chkE n c e ie = true → Snd X g call lamc actf W e ie := fun e ie h => ihE c X W e ie G L h
      unfold chkV at h
      split at h
      · exact (k_cmp G hr h).2
      · exact (k_chn G hr h).2
      · cases h
end
end Pev
set_option maxRecDepth 100000
set_option autoImplicit false
/-! Pev: the checker: statements. -/
namespace Pev
open PySem PySem.Spec PyProof.Rows L2

/-- what is known of the place of a statement -/
structure Cs where
  c : Ck
  cls : List Str
  loops : Bool
  ctc : Option Str
  act : Option Str
def lcParts : Expr → Bool
  | .ListComp _ [⟨_, _, _, 0⟩] _ _ => true
  | _ => false
/-- no comprehension -/
def noComp : Expr → Bool
  | .ListComp _ _ _ _ => false
  | .SetComp _ _ _ _ => false
  | .DictComp _ _ _ _ _ => false
  | _ => true
def notTup : Expr → Bool
  | .Tuple _ _ _ => false
  | _ => true
/-- the comprehension's scope, its line -/
def swapB (sc : Scope) (x : Str) (l : Nat) : Expr → Option Bool
  | .ListComp _ _ s pos => some (decide (sc.names.lookup x = some .local) && l == pos.line && !(s.names.any fun (n, k) => n == x && (k == .local || k == .cell)))
  | _ => none
def chkSet (n : Nat) (c : Ck) (x : Str) (l : Nat) (i : Nat) (e : Expr) (ie : IE) : Bool := okTg c.N c.sc x i && chkE n c e ie && (noComp e || (lcParts e && match swapB c.sc x l e with
  | some true => (match ie with | .lc _ _ _ _ _ => true | _ => false)
  | some false => true
  | none => false))
def chkPar (n : Nat) (c : Ck) (ts : List Expr) (is : List Nat) (es : List Expr) (ies : IEs) : Bool :=
  c.calm && cList (chkE n c) es ies && okTgs c.N c.sc ts is && decide (is.length ≤ 1000) &&
  (if !(ts.length == 2 || ts.length == 3) || es.length != ts.length then true
   else if ((swNames c.sc ts).length != ts.length || (swNames c.sc ts).eraseDups.length != (swNames c.sc ts).length) then true
   else if es.all (foldedForSure 8) then true
   else !es.all (constantsAlone 8) && (match ts, is, es with
     | [.Name x _, .Name y _], [i, j], [_, _] => decide (swNames c.sc ts = [x, y]) && decide (i ≠ j) && decide (c.sc.names.lookup x = some .local) && decide (c.sc.names.lookup y = some .local)
     | [.Name x _, .Name y _, .Name z _], [i, j, l], [_, _, _] => decide (swNames c.sc ts = [x, y, z]) && decide (i ≠ j) && decide (i ≠ l) && decide (j ≠ l) && decide (c.sc.names.lookup x = some .local) && decide (c.sc.names.lookup y = some .local) && decide (c.sc.names.lookup z = some .local)
     | _, _, _ => false))
def okFns (c : Ck) : List Expr → List Nat → Bool
  | [], [] => true
  | .Name x _ :: es, f :: fs => okFn c x f && okFns c es fs
  | _, _ => false
/-- within an except suite -/
def Cs.suite (s : Cs) : Cs := ⟨{ s.c with calm := false, calls := false, act := none, exn := true, lam := [] }, [], false, none, none⟩
/-- what is tried -/
def Cs.tried (s : Cs) : Ck := { s.c with act := s.act, exn := false, lam := [] }
def chkTry (n : Nat) (s : Cs) (k : Tk) (ie : IE) : Stmt → Bool
  | .Expr e _ => (match k with | .drop => true | _ => false) && noComp e && chkE n s.tried e ie
  | .Return (some e) _ => (match k with | .ret => true | _ => false) && chkE n s.tried e ie
  | .Assign [.Name y _] e _ => (match k with | .set j => okTg s.c.N s.c.sc y j | _ => false) && noComp e && chkE n s.tried e ie
  | _ => false
mutual
def chkS : Nat → Cs → Stmt → IS → Bool
  | 0, _, _, _ => false
  | n + 1, s, st, is => match is with
    | .asg (.nm i) ie => match st with
      | .Assign [.Name x p] e pos => (p.line == pos.line || noComp e) && chkSet n s.c x p.line i e ie
      | _ => false
    | .asg (.tp is) ie => match st with
      | .Assign [.Tuple ts _ _] e _ => s.c.calm && noComp e && notTup e && okTgs s.c.N s.c.sc ts is && chkE n s.c e ie
      | _ => false
    | .par is ies => match st with
      | .Assign [.Tuple ts _ _] (.Tuple es _ _) _ => chkPar n s.c ts is es ies
      | _ => false
    | .sset i ik ie => match st with
      | .Assign [.Subscript (.Name x _) b _] e _ => okVar s.c x i && noSlE b && chkE n s.c b ik && chkE n s.c e ie
      | _ => false
    | .sset2 _ _ _ _ => false
    | .psub i ik j jk ia ib => match st with
      | .Assign [.Tuple [.Subscript (.Name x px) k p3, .Subscript (.Name y py) k2 p4] _ _] (.Tuple [a, b] _ _) _ => s.c.calm && okVar s.c x i && okVar s.c y j && noSlE k && noSlE k2 && cList (chkE n s.c) [a, b] (.cons ia (.cons ib .nil)) && chkE n s.c k ik && chkE n s.c k2 jk &&
          decide ((swNames s.c.sc [.Subscript (.Name x px) k p3, .Subscript (.Name y py) k2 p4]).length ≠ 2)
      | _ => false
    | .app i ie => match st with
      | .Expr (.Call (.Attribute (.Name x _) nm apos) [e] [] cpos) _ => decide (nm = ("append" : Str)) && okVar s.c x i && (apos.endLine == cpos.line) && noStarE e && chkE n s.c e ie
      | _ => false
    | .ext i ie => match st with
      | .Expr (.Call (.Attribute (.Name x _) nm apos) [e] [] cpos) _ => decide (nm = ("extend" : Str)) && okVar s.c x i && (apos.endLine == cpos.line) && noStarE e && chkE n s.c e ie
      | _ => false
    | .exp ie => match st with
      | .Expr e _ => noComp e && chkE n s.c e ie
      | _ => false
    | .ifs it t e => match st with
      | .If c a b _ => chkT n s.c c it && chkB n s a t && chkB n s b e
      | _ => false
    | .fors tg src b => match st with
      | .For tgE iter body [] _ => s.c.calm && s.loops && cTgt s.c.N s.c.sc tg tgE && cSrc (chkE n s.c) s.c tgE src iter && chkB n s body b
      | _ => false
    | .forf i fs b => match st with
      | .For (.Name x _) (.Tuple es _ _) body [] _ => s.c.calm && s.loops && okTg s.c.N s.c.sc x i && okFns s.c es fs && decide (fs.length ≤ 1000) && chkB n s body b
      | _ => false
    | .whl it b => match st with
      | .While c body [] _ => s.loops && chkT n s.c c it && chkB n s body b
      | _ => false
    | .ret ie => match st with
      | .Return (some e) _ => match ie with
        | .var i => cVar s.c i e
        | _ => chkE n s.c e ie
      | .Return none _ => match ie with
        | .cst .none => true
        | _ => false
      | _ => false
    | .rse m => match st with
      | .Raise (some (.Call (.Name x _) [] [] _)) none _ => s.c.calm && okGl s.c x && decide (s.cls[m]? = some x)
      | _ => false
    | .try1 ie k i hb => match st with
      | .Try [bst] [.ExceptHandler (some (.Name x _)) (some y) (b0 :: suite) _] [] [] _ => s.c.calm && okGl s.c x && decide (s.ctc = some x) && decide (s.c.N[i]? = some y) && decide (s.c.sc.names.lookup y = some .local) && chkTry n s k ie bst && chkB n s.suite (b0 :: suite) hb
      | _ => false
    | .mkh i ie => match st with
      | .Assign [.Name x _] e _ => noComp e && okTg s.c.N s.c.sc x i && chkE n s.c e ie
      | _ => false
def chkB : Nat → Cs → List Stmt → IB → Bool
  | 0, _, _, _ => false
  | n + 1, s, sts, ib => match sts, ib with
    | [], .nil => true
    | st :: sts, .cons is ib => chkS n s st is && chkB n s sts ib
    | _, _ => false
end
end Pev
set_option maxRecDepth 100000
set_option autoImplicit false
/-! Pev: the checker's soundness: statements. -/
namespace Pev
open PySem PySem.Spec PyProof.Rows L2

structure Gs (s : Cs) (X : Cx) (g : Gh) (call : Calls) (lamc : Nat → (Option (List PD) → FO) → Option (List PD) → FO) (actf : Option (List PD) → FO) (W : WX) : Prop where
  G : Gd s.c X g call lamc actf W
  L : LamH s.c X g call lamc actf W
  kind : X.env.scope.kind = .function
  sto : Sto X s.c.sc
  po : s.loops = true → PassesOwn (model X.prog X.w) X.A X.env X.xe
  stack : s.ctc ≠ none → X.stack = X.env :: X.outer ∧ X.env.frame = some X.env.locals
  rse : ∀ n x, s.cls[n]? = some x → X.mg x = some (.ref (g.C n)) ∧ RaiseC X.prog X.K (g.C n) ∧ X.mg "super" = none ∧ Room 1 X.A
  ea0 : s.ctc ≠ none → ∀ c a, ¬ g.ea c a
  ctc : ∀ x, s.ctc = some x → ∃ cv, X.mg x = some cv ∧ ∀ n, PySem.W.exmOne X.K (.ref (g.C n)) cv = some true
  exC : s.ctc ≠ none → ∀ n, ExcC X.K (g.C n)
  isa : s.ctc ≠ none → ∀ t bs, s.c.isa.lookup t = some bs → okGl s.c t = true → ∃ (cv : V) (u : Value), (X.mg t = some u ∨ (X.mg t = none ∧ bootBuiltins t = some u)) ∧ RelV cv u ∧ (∀ u', RelV cv u' → u' = u) ∧ ∀ n, PySem.W.kitOne X.K (.ref (g.C n)) u = some (bs.getD n (bs.headD false))
  actT : ∀ x, s.act = some x → ∀ (pn : List (Addr × Obj)) (xe : Value → Shared → Prop) (W' : WX), Takes (X.tr pn xe) W' → ∀ p pos, PE (X.tr pn xe) (.Call (.Name x p) [] [] pos) (tEv g call lamc actf W' (.act 0))
section
variable {s : Cs} {X : Cx} {g : Gh} {call : Calls} {lamc : Nat → (Option (List PD) → FO) → Option (List PD) → FO} {actf : Option (List PD) → FO} {wf : Nat} {W : WX} {e : Expr}
theorem noComp_swap (h : noComp e = true) (t : Option Expr) (l : Nat) (env : Env) : swapsWith e t l env = pure false :=
  swap_no (fun _ _ _ _ z => by subst z; cases h) (fun _ _ _ _ z => by subst z; cases h) (fun _ _ _ _ _ z => by subst z; cases h) t l env
theorem asg_read {i : Nat} {ie : IE} {D : Ends} {σ : L2.St} {H : Hp} (q : tS g call lamc actf wf W (.asg (.nm i) ie) D σ H) : tEv g call lamc actf W ie σ H fun x H1 => gName i x σ H1 D.nx := by
  obtain ⟨hd, s, c, post⟩ := q
  rw [evS] at post
  refine ⟨hd, s, c, post.bind0 fun rv s1 x H1 fr le r post1 => ?_⟩
  obtain ⟨c1, l1⟩ := store_re (i := i) r
  exact post1 hd _ H1 PLe.refl fr (fun a z => (l1 a z).imp (le a) id) c1
theorem block_fun {env : Env} (h : env.scope.kind = .function) : env.blockKind = .function := by
  unfold Env.blockKind
  rw [h]
  rfl
theorem swap_lc {el : Expr} {gs : List Comprehension} {scope : Scope} {epos p : Pos} {x : Str} {l : Nat} {env : Env} {b : Bool} (hk : env.scope.kind = .function) (h : swapB env.scope x p.line (.ListComp el gs scope epos) = some b) : swapsWith (.ListComp el gs scope epos) (some (.Name x p)) l env = pure b := by
  unfold swapB at h
  have h := Option.some.inj h
  unfold swapsWith
  have e1 : (env.blockKind == ScopeKind.function) = true := by rw [block_fun hk]; rfl
  show (pure (env.blockKind == ScopeKind.function && env.kindOf x == some NameKind.local && p.line == epos.line && !(scope.names.any fun (n, k) => n == x && (k == .local || k == .cell))) : Sem Bool) = pure b
  rw [← h, e1, Bool.true_and]
  unfold Env.kindOf
  congr 3
  exact Bool.eq_iff_iff.mpr (by rw [beq_iff_eq, decide_eq_true_eq])
theorem n_lc {n : Nat} {c : Ck} {el tgE iter : Expr} {cs : List Expr} {scope : Scope} {epos : Pos} {elt : IE} {tg : Tgt} {src : IR} {ifs : IT} {own : List Nat} (G : Gd c X g call lamc actf W) (L : LamH c X g call lamc actf W) (h : chkE n c (.ListComp el [⟨tgE, iter, cs, 0⟩] scope epos) (.lc elt tg src ifs own) = true) :
    ∃ own', LcOk c X g call lamc actf W el tgE iter cs scope elt tg src ifs own own' := by
  cases n with
  | zero => unfold chkE at h; cases h
  | succ n =>
    obtain ⟨iE, iT, _⟩ := chk_ok (g := g) (call := call) (lamc := lamc) (actf := actf) n
    unfold chkE at h
    have h : cLc (chkE n c) (fun c => chkE n c) (fun c => chkT n c) c elt tg src ifs own (.ListComp el [⟨tgE, iter, cs, 0⟩] scope epos) = true := h
    exact ⟨_, k_lcOk G (fun e ie q => iE c X W e ie G L q) (fun X' W' e ie G' q => iE _ X' W' e ie G' (lamH_nil rfl) q) (fun X' W' e it G' q => (iT _ X' W' e it G' (lamH_nil rfl) q).1) h⟩
theorem n_set {n : Nat} {x : Str} {p pos : Pos} {i : Nat} {ie : IE} (S : Gs s X g call lamc actf W) (h : chkSet n s.c x p.line i e ie = true) : PS X (.Assign [.Name x p] e pos) (tS g call lamc actf wf W (.asg (.nm i) ie)) := by
  unfold chkSet at h
  simp only [Bool.and_eq_true, Bool.or_eq_true] at h
  obtain ⟨⟨h1, h2⟩, h3⟩ := h
  rw [← S.G.hN] at h1
  obtain ⟨a1, a2, a3⟩ := tg_one S.sto h1
  have E := (chk_ok n).1 s.c X W e ie S.G S.L h2
  rcases h3 with h3 | ⟨h3, h4⟩
  · exact q_set S.G.nd a1 a2 E.ev (noComp_swap h3 _ _ _) a3
  · unfold lcParts at h3
    split at h3
    · rename_i el tgE iter cs scope epos
      rw [← S.G.hs] at h4
      split at h4
      · rename_i hb
        split at h4
        · rename_i elt tg src ifs own
          obtain ⟨own', L⟩ := n_lc S.G S.L h2
          have hsw := swap_lc (l := pos.line) S.kind hb
          have hloc : X.env.scope.names.lookup x = some .local := by
            unfold swapB at hb
            have hb := Option.some.inj hb
            simp only [Bool.and_eq_true, decide_eq_true_eq] at hb
            exact hb.1.1
          have q := ps_setLc (spos := pos) (pos := epos) (py := p) L.hcalm S.G.nd a1 hloc hsw L.hsrc L.hblk L.hg L.ht L.he L.hfold
          rw [L.hown] at q
          exact PS.imp q fun D σ H q => lc_imp L.htg σ H _ (asg_read q)
        · cases h4
      · rename_i hb
        exact q_set S.G.nd a1 a2 E.ev (swap_lc S.kind hb) a3
      · cases h4
    · cases h3
theorem n_par {n : Nat} {ts es : List Expr} {is : List Nat} {ies : IEs} {kt k2 : Nat} {pt p2 pos : Pos} (S : Gs s X g call lamc actf W) (h : chkPar n s.c ts is es ies = true) : PS X (.Assign [.Tuple ts kt pt] (.Tuple es k2 p2) pos) (tS g call lamc actf wf W (.par is ies)) := by
  unfold chkPar at h
  simp only [Bool.and_eq_true, decide_eq_true_eq] at h
  obtain ⟨⟨⟨⟨h1, h2⟩, h3⟩, h4⟩, h5⟩ := h
  have hcalm := S.G.hc h1
  have A := k_list S.G (fun e ie q => (chk_ok n).1 s.c X W e ie S.G S.L q) h2
  rw [← S.G.hN] at h3
  have T := tg_all S.sto h3
  have hb : (X.env.blockKind != ScopeKind.function) = false := by rw [block_fun S.kind]; rfl
  rw [← S.G.hs] at h5
  split at h5
  · rename_i c1
    exact q_parT S.G.hK hcalm S.G.nd A T h4 (sw_len (by rw [hb, Bool.or_false]; exact c1))
  · rename_i c1
    have c1 : (!(ts.length == 2 || ts.length == 3) || es.length != ts.length || X.env.blockKind != .function) = false := by rw [hb, Bool.or_false]; simpa using c1
    split at h5
    · rename_i c2
      exact q_parT S.G.hK hcalm S.G.nd A T h4 (sw_names c1 A.noStar c2)
    · rename_i c2
      have c2 : ((swNames X.env.scope ts).length != ts.length || (swNames X.env.scope ts).eraseDups.length != (swNames X.env.scope ts).length) = false := by simpa using c2
      split at h5
      · rename_i c3
        exact q_parT S.G.hK hcalm S.G.nd A T h4 (sw_fold c1 A.noStar c2 c3)
      · rename_i c3
        have c3 : es.all (foldedForSure 8) = false := by simpa using c3
        rw [Bool.and_eq_true, Bool.not_eq_true'] at h5
        obtain ⟨c4, h6⟩ := h5
        have w := sw_some (k := kt) (p := pt) (k2 := k2) (p2 := p2) c1 A.noStar c2 c3 c4
        split at h6
        · simp only [Bool.and_eq_true, decide_eq_true_eq] at h6
          obtain ⟨⟨⟨d1, d2⟩, d3⟩, d4⟩ := h6
          rw [d1] at w
          cases T with
          | cons t1 _ _ T => cases T with
            | cons t2 _ _ _ => exact q_par2 hcalm S.G.nd t1 t2 d2 d3 d4 A w
        · simp only [Bool.and_eq_true, decide_eq_true_eq] at h6
          obtain ⟨⟨⟨⟨⟨⟨d1, d2⟩, d3⟩, d4⟩, d5⟩, d6⟩, d7⟩ := h6
          rw [d1] at w
          cases T with
          | cons t1 _ _ T => cases T with
            | cons t2 _ _ T => cases T with
              | cons t3 _ _ _ => exact q_par3 hcalm S.G.nd t1 t2 t3 d2 d3 d4 d5 d6 d7 A w
        · cases h6
theorem n_fns {c : Ck} (G : Gd c X g call lamc actf W) : ∀ {es : List Expr} {fs : List Nat}, okFns c es fs = true → FnE X g es fs
  | [], [], _ => .nil
  | e :: es, f :: fs, h => by
    unfold okFns at h
    split at h
    · cases ‹_ :: _ = []›
    · rename_i e1 e2
      cases e1
      cases e2
      rw [Bool.and_eq_true] at h
      obtain ⟨a1, a2, a3⟩ := fn_of G h.1
      exact .cons a1 a3 a2 (n_fns G h.2)
    · cases h
  | [], _ :: _, h => by unfold okFns at h; cases h
  | _ :: _, [], h => by
    unfold okFns at h
    split at h
    · rename_i e1 _; cases e1
    · rename_i e2; cases e2
    · cases h
/-! ### try -/
theorem gd_tried {pn : List (Addr × Obj)} {xe : Value → Shared → Prop} {W' : WX} (S : Gs s X g call lamc actf W) (tk : Takes (X.tr pn xe) W') : Gd s.tried (X.tr pn xe) g call lamc actf W' :=
  ⟨S.G.hK, S.G.hN, S.G.nd, S.G.hs, S.G.hc, S.G.un, S.G.gu, tk, S.G.glob, S.G.blt, S.G.cst, S.G.calls, fun x h => S.actT x h pn xe W' tk, fun h => (by cases h)⟩
theorem n_tried {n : Nat} {k : Tk} {ie : IE} {bst : Stmt} {pn : List (Addr × Obj)} {xe : Value → Shared → Prop} {W' : WX} (S : Gs s X g call lamc actf W) (tk : Takes (X.tr pn xe) W') (h : chkTry n s k ie bst = true) : PSs (X.tr pn xe) [bst] (tryT k (tEv g call lamc actf W' ie)) := by
  have Gt := gd_tried S tk
  have E : ∀ e, chkE n s.tried e ie = true → Snd (X.tr pn xe) g call lamc actf W' e ie := fun e q => (chk_ok n).1 _ _ W' e ie Gt (lamH_nil rfl) q
  unfold chkTry at h
  split at h
  · simp only [Bool.and_eq_true] at h
    obtain ⟨⟨h1, h2⟩, h3⟩ := h
    cases k with
    | drop => exact try_drop (E _ h3).ev (noComp_swap h2 _ _ _)
    | _ => cases h1
  · simp only [Bool.and_eq_true] at h
    obtain ⟨h1, h3⟩ := h
    cases k with
    | ret => exact try_ret (E _ h3).ev
    | _ => cases h1
  · simp only [Bool.and_eq_true] at h
    obtain ⟨⟨h1, h2⟩, h3⟩ := h
    cases k with
    | set j =>
      have h1 : okTg s.c.N s.c.sc _ j = true := h1
      rw [← S.G.hN] at h1
      obtain ⟨a1, a2, a3⟩ := tg_one S.sto h1
      exact try_set S.G.nd a1 a2 (E _ h3).ev (noComp_swap h2 _ _ _) a3
    | _ => cases h1
  · cases h
theorem gs_suite {a : Addr} {oe : Obj} {pn : List (Addr × Obj)} {cx : Nat} (S : Gs s X g call lamc actf W) (hs : s.ctc ≠ none) (hz : Zc (.ref (g.C cx)) none oe) (hf : ∃ vs, oe.data = .fields vs) : Gs s.suite (X.suite a ((a, oe) :: pn)) (gS g a cx) call lamc actf W0 := by
  refine ⟨⟨S.G.hK, S.G.hN, S.G.nd, S.G.hs, fun h => (by cases h), S.G.un, S.G.gu, LamX.takes0, S.G.glob, S.G.blt, S.G.cst, fun h => (by cases h), fun x h => (by cases h), fun _ y t p p2 p3 pos i bs h1 h2 h3 h4 => ?_⟩, lamH_nil rfl, S.kind, ⟨S.sto.at', S.sto.cell⟩, fun h => (by cases h), fun h => absurd rfl h, fun n x h => (by cases h), fun h => absurd rfl h, fun x h => (by cases h), fun h => absurd rfl h, fun h => absurd rfl h, fun x h => (by cases h)⟩
  have G1 : Gd { s.c with calm := false, act := none, exn := false, lam := [], calls := false } (X.suite a ((a, oe) :: pn)) g call lamc actf W0 :=
    ⟨S.G.hK, S.G.hN, S.G.nd, S.G.hs, fun h => (by cases h), S.G.un, S.G.gu, LamX.takes0, S.G.glob, S.G.blt, S.G.cst, fun h => (by cases h), fun x h => (by cases h), fun h => (by cases h)⟩
  obtain ⟨cv, u, q1, q2, q3, q4⟩ := S.isa hs t bs h4 h3
  have hi := call_isE (X := X) (a := a) (pn := pn) (S.exC hs cx) hz hf
  have hv := (var_of (p := p2) G1 h2).1
  obtain ⟨g1, g2, g3⟩ := gl_of G1 h3
  obtain ⟨g4, g5, g6⟩ := gl_of G1 h1
  have ht : PE (X.suite a ((a, oe) :: pn)) (.Name t p3) (tC cv) := by
    rcases q1 with q1 | ⟨q1, q5⟩
    · exact pe_glob g1 q1 q2 g2
    · exact pe_bltn g1 q1 q5 q2 g3 g2
  exact s_isx (t := t) (X := X.suite a ((a, oe) :: pn)) (fun _ _ _ => False) hi hv ht q3 q4 rfl g4 (S.G.blt _ (by decide))
theorem chkS_ok (n : Nat) : (∀ (s : Cs) (X : Cx) (g : Gh) (W : WX) (st : Stmt) (is : IS), Gs s X g call lamc actf W → chkS n s st is = true → PS X st (tS g call lamc actf wf W is)) ∧
    (∀ (s : Cs) (X : Cx) (g : Gh) (W : WX) (sts : List Stmt) (ib : IB), Gs s X g call lamc actf W → chkB n s sts ib = true → PSs X sts (tSs g call lamc actf wf W ib)) := by
  induction n with
  | zero =>
    refine ⟨fun s X g W st is _ h => ?_, fun s X g W sts ib _ h => ?_⟩
    · unfold chkS at h; cases h
    · unfold chkB at h; cases h
  | succ n ih =>
    obtain ⟨ihS, ihB⟩ := ih
    refine ⟨fun s X g W st is S h => ?_, fun s X g W sts ib S h => ?_⟩
    · have E : ∀ e ie, chkE n s.c e ie = true → Snd X g call lamc actf W e ie := fun e ie h => (chk_ok n).1 s.c X W e ie S.G S.L h
      have T : ∀ e it, chkT n s.c e it = true → PT X e (tTst g call lamc actf W it) := fun e it h => ((chk_ok n).2.1 s.c X W e it S.G S.L h).1
      have B : ∀ sts ib, chkB n s sts ib = true → PSs X sts (tSs g call lamc actf wf W ib) := fun sts ib h => ihB s X g W sts ib S h
      unfold chkS at h
      cases is with
      | asg tg ie =>
        cases tg with
        | nm i =>
          simp only at h
          split at h
          · rw [Bool.and_eq_true] at h
            exact n_set S h.2
          · cases h
        | tp is =>
          simp only at h
          split at h
          · simp only [Bool.and_eq_true] at h
            obtain ⟨⟨⟨⟨h1, h2⟩, h3⟩, h4⟩, h5⟩ := h
            rw [← S.G.hN] at h4
            refine q_tup S.G.hK (E _ _ h5).ev (tg_tup S.G.nd (S.G.hc h1) (tg_all S.sto h4)) ?_ ?_ rfl
            · unfold swapsWithSole; exact noComp_swap h2 _ _ _
            · rename_i e _
              cases e <;> first | rfl | cases h3
          · cases h
      | par is ies =>
        simp only at h
        split at h
        · exact n_par S h
        · cases h
      | sset i ik ie =>
        simp only at h
        split at h
        · rename_i x p b p2 e p3
          simp only [Bool.and_eq_true] at h
          obtain ⟨⟨⟨h1, h2⟩, h3⟩, h4⟩ := h
          refine q_sset S.G.hK S.G.un (var_of S.G h1).1 (E _ _ h3).ev (E _ _ h4).ev h2 ?_
          cases e <;> rfl
        · cases h
      | sset2 _ _ _ _ => cases h
      | psub i ik j jk ia ib =>
        simp only at h
        split at h
        · rename_i x px k p3 y py k2 p4 kt pt a b kk2 p2 pos
          simp only [Bool.and_eq_true, decide_eq_true_eq] at h
          obtain ⟨⟨⟨⟨⟨⟨⟨⟨h1, h2⟩, h3⟩, h4⟩, h5⟩, h6⟩, h7⟩, h8⟩, h9⟩ := h
          have A := k_list S.G (fun e ie q => (chk_ok n).1 s.c X W e ie S.G S.L q) h6
          have hb : (X.env.blockKind != ScopeKind.function) = false := by rw [block_fun S.kind]; rfl
          rw [← S.G.hs] at h9
          refine q_psub S.G.hK (S.G.hc h1) S.G.un A (var_of S.G h2).1 (E _ _ h7).ev h4 (var_of S.G h3).1 (E _ _ h8).ev h5 ?_
          refine sw_names ?_ A.noStar ?_
          · rw [hb, Bool.or_false]; rfl
          · rw [Bool.or_eq_true]
            left
            rw [bne_iff_ne]
            exact h9
        · cases h
      | app i ie =>
        simp only at h
        split at h
        · simp only [Bool.and_eq_true, decide_eq_true_eq] at h
          obtain ⟨⟨⟨⟨h1, h2⟩, h3⟩, h4⟩, h5⟩ := h
          subst h1
          exact q_app S.G.hK (var_of S.G h2).1 (E _ _ h5).ev rfl h4 h3
        · cases h
      | ext i ie =>
        simp only at h
        split at h
        · simp only [Bool.and_eq_true, decide_eq_true_eq] at h
          obtain ⟨⟨⟨⟨h1, h2⟩, h3⟩, h4⟩, h5⟩ := h
          subst h1
          exact q_ext S.G.hK (var_of S.G h2).1 (E _ _ h5).ev rfl h4 h3
        · cases h
      | exp ie =>
        simp only at h
        split at h
        · rw [Bool.and_eq_true] at h
          exact q_exp (E _ _ h.2).ev (noComp_swap h.1 _ _ _)
        · cases h
      | ifs it t e =>
        simp only at h
        split at h
        · simp only [Bool.and_eq_true] at h
          exact q_if (T _ _ h.1.1) (B _ _ h.1.2) (B _ _ h.2)
        · cases h
      | fors tg src b =>
        simp only at h
        split at h
        · simp only [Bool.and_eq_true] at h
          obtain ⟨⟨⟨⟨h1, h2⟩, h3⟩, h4⟩, h5⟩ := h
          rw [← S.G.hN] at h3
          exact q_for S.G.hK (S.po h2) (S.G.hc h1) (k_src S.G E h4) (k_tgt S.G.nd (S.G.hc h1) S.sto h3) (B _ _ h5) (fun x => src_noset h4 _ x)
        · cases h
      | forf i fs b =>
        simp only at h
        split at h
        · simp only [Bool.and_eq_true, decide_eq_true_eq] at h
          obtain ⟨⟨⟨⟨⟨h1, h2⟩, h3⟩, h4⟩, h5⟩, h6⟩ := h
          rw [← S.G.hN] at h3
          obtain ⟨a1, a2, a3⟩ := tg_one S.sto h3
          exact q_forf S.G.hK (S.po h2) (S.G.hc h1) S.G.nd a1 a2 a3 (n_fns S.G h4) h5 (B _ _ h6)
        · cases h
      | whl it b =>
        simp only at h
        split at h
        · simp only [Bool.and_eq_true] at h
          exact q_while (S.po h.1.1) (T _ _ h.1.2) (B _ _ h.2)
        · cases h
      | ret ie =>
        simp only at h
        split at h
        · split at h
          · unfold cVar at h
            split at h
            · exact q_retV (var_of S.G h).1
            · cases h
          · rename_i hn
            refine q_ret ?_ (E _ _ h).ev
            cases ie <;> first | rfl | exact (hn _ rfl).elim
        · split at h
          · refine PS.imp ps_retN fun D σ H ⟨hd, st, c, post⟩ => ?_
            rw [evS, ret_eq rfl, ev] at post
            exact post hd .non H PLe.refl (Fr.refl _ _) c.tabs (.inl ⟨rfl, HandAt.less c.hand b0_of, .non⟩)
          · cases h
        · cases h
      | rse m =>
        simp only at h
        split at h
        · simp only [Bool.and_eq_true, decide_eq_true_eq] at h
          obtain ⟨⟨h1, h2⟩, h3⟩ := h
          obtain ⟨a1, a2, _⟩ := gl_of S.G h2
          obtain ⟨b1, b2, b3, b4⟩ := S.rse m _ h3
          exact q_rse (S.G.hc h1) S.G.tk b2 b4 a1 b1 b3 a2
        · cases h
      | try1 ie k i hb =>
        simp only at h
        split at h
        · rename_i bst x np y b0 suite p1 p2
          simp only [Bool.and_eq_true, decide_eq_true_eq] at h
          obtain ⟨⟨⟨⟨⟨⟨h1, h2⟩, h3⟩, h4⟩, h5⟩, h6⟩, h7⟩ := h
          have hs : s.ctc ≠ none := by rw [h3]; intro z; cases z
          obtain ⟨a1, a2, _⟩ := gl_of S.G h2
          obtain ⟨cv, c1, c2⟩ := S.ctc x h3
          obtain ⟨d1, d2⟩ := S.stack hs
          rw [← S.G.hN] at h4
          rw [← S.G.hs] at h5
          exact q_try S.G.hK (S.ea0 hs) c2 d1 d2 S.G.nd h4 h5 ⟨a1, a2, .inl c1⟩ S.G.tk (fun W' pn xe tk => n_tried S tk h6) fun a oe pn cx hz hf => ihB _ _ _ W0 _ _ (gs_suite S hs hz hf) h7
        · cases h
      | mkh i ie =>
        simp only at h
        split at h
        · simp only [Bool.and_eq_true] at h
          obtain ⟨⟨h1, h2⟩, h3⟩ := h
          rw [← S.G.hN] at h2
          obtain ⟨a1, a2, a3⟩ := tg_one S.sto h2
          exact q_mkh S.G.nd a1 a2 (E _ _ h3).ev (noComp_swap h1 _ _ _) a3
        · cases h
    · unfold chkB at h
      split at h
      · exact q_nil
      · rw [Bool.and_eq_true] at h
        exact q_cons (ihS s X g W _ _ S h.1) (ihB s X g W _ _ S h.2)
      · cases h
end
end Pev
set_option maxRecDepth 100000
set_option autoImplicit false
/-! Pev: all defs of a text keep what the evaluator tells. -/
namespace Pev
open PySem PySem.Spec PyProof.Rows L2
open LamX (Tabs TabS CodeO TabB LamS lamCx lamEnv ExtN)

structure PDef where
  st : Stmt
  name : Str
  N : List Str
  ps : List Str
  code : FDef
  /-- it calls what it gets -/
  isLam : Bool
  /-- it hands a lambda on -/
  mkLam : Bool
structure Prg where
  defs : List PDef
  cls : List Str
  cst : List (Str × Int)
  isa : List (Str × List Bool)
  ctc : Option Str
def Prg.T (p : Prg) (f : Nat) : Option FDef := (p.defs[f]?).map (·.code)
/-- the defs that call what they get -/
def Prg.lams (p : Prg) : List Nat := (List.range p.defs.length).filter fun f => match p.defs[f]? with | some d => d.isLam | none => false
def Prg.cs (p : Prg) (d : PDef) : Cs := ⟨⟨d.N, defScope d.st, p.defs.map (·.name), p.cst, p.isa, true, !d.isLam, none, false, if d.mkLam then p.lams else []⟩, if d.isLam then [] else p.cls, true, p.ctc, if d.isLam then d.ps.head? else none⟩
def PDef.lamOk (d : PDef) : Bool := match d.ps with
  | [x] => visB (defScope d.st) x && !(x == ("__debug__" : Str)) && !(x == ("__classdict__" : Str)) && decide (d.N[0]? = some x)
  | _ => false
def Prg.okD (p : Prg) (d : PDef) : Bool := chkB 200 (p.cs d) (defBody d.st) d.code.body && decide (d.code.np = d.ps.length) && decide (d.code.ns = d.N.length) && decide (d.ps.length ≤ d.N.length) && (!d.isLam || (d.lamOk && !d.mkLam))
/-- what the top has written of a def -/
structure DFacts (w : World) (K : PySem.W.Frag) (mg : Str → Option Value) (base : Heap) (g : Gh) (d : PDef) (f : Nat) : Prop where
  ex : ∃ (oc : Value) (od : Option Addr) (kV doc pm : Value) (an : Option Addr) (c : Addr) (ct : Value) (osl : Array (Option Value)),
    K.lookup (g.F f) = some ⟨oc, od, .func (PySem.W.fnOf d.name d.name (defArgs d.st) (defBody d.st) (defScope d.st) .none kV doc pm an (.ref c) ct), osl⟩ ∧ PySem.W.codeIn K (.ref c) d.name = true ∧
    Binds K (PySem.W.fnOf d.name d.name (defArgs d.st) (defBody d.st) (defScope d.st) .none kV doc pm an (.ref c) ct) d.ps [] ∧
    (d.mkLam = true → ∃ Pt, TabB base mg c Pt ∧ (Pt, (d.name ++ ".<locals>.") ++ "<lambda>") ∈ g.T ∧ ∀ p ∈ g.T, p.1 = Pt → p.2 = (d.name ++ ".<locals>.") ++ "<lambda>")
  kp : PySem.W.keepIn K (.ref (g.F f)) = true
  mg' : mg d.name = some (.ref (g.F f))
  db : (d.name == ("__debug__" : Str)) = false
  S : FnScope d.N d.ps (defScope d.st)
structure PFacts (P : Program) (w : World) (K : PySem.W.Frag) (mg : Str → Option Value) (base : Heap) (g : Gh) (p : Prg) : Prop where
  gK : g.K = K
  gla : ∀ q x H B, ¬ g.la q x H B
  gea : ∀ c a, ¬ g.ea c a
  dfs : ∀ f d, p.defs[f]? = some d → DFacts w K mg base g d f ∧ p.okD d = true
  out : ∀ f, p.defs[f]? = none → ∃ f' d, p.defs[f']? = some d ∧ g.F f = g.F f'
  blt : ∀ x, x ∈ bltNm ++ tyNm → mg x = none
  cst : ∀ x k, p.cst.lookup x = some k → ∃ t, mg x = some (.int k t)
  cls : ∀ n x, p.cls[n]? = some x → mg x = some (.ref (g.C n)) ∧ RaiseC P K (g.C n)
  sup : mg "super" = none
  ctc : ∀ x, p.ctc = some x → ∃ cv, mg x = some cv ∧ ∀ n, PySem.W.exmOne K (.ref (g.C n)) cv = some true
  exC : p.ctc ≠ none → ∀ n, ExcC K (g.C n)
  isa : p.ctc ≠ none → ∀ t bs, p.isa.lookup t = some bs → ∃ (cv : V) (u : Value), (mg t = some u ∨ (mg t = none ∧ bootBuiltins t = some u)) ∧ RelV cv u ∧ (∀ u', RelV cv u' → u' = u) ∧ ∀ n, PySem.W.kitOne K (.ref (g.C n)) u = some (bs.getD n (bs.headD false))

section
variable {P : Program} {w : World} {K : PySem.W.Frag} {mg : Str → Option Value} {base : Heap} {g : Gh} {p : Prg} {wf : Nat}
/-- the calls and the lambdas at a depth -/
abbrev cN (p : Prg) (wf n : Nat) : Calls := callF p.T wf n
abbrev lN (p : Prg) (wf n : Nat) : Nat → (Option (List PD) → FO) → Option (List PD) → FO := fun f act h => run p.T wf n act f [.lmb] h
theorem pe_none {X : Cx} {e : Expr} {t : TE} (h : ∀ σ H Q, ¬ t σ H Q) : PE X e t := ⟨fun _ _ σ H Q _ q => (h σ H Q q).elim⟩
/-- a frame's start -/
theorem cl_start {g : Gh} {hd : Dy} {H : Hp} {vs : List V} {avs : List Val} {h : Option (List PD)} {N : List Str} {d : FDef} (hn : d.ns = N.length) (hle : vs.length ≤ N.length) (S : StartF g hd H vs avs h) :
    Cl g hd (L2.start N vs) ⟨frame0 d avs, h⟩ H ∧ ∀ a, Av hd (L2.start N vs) (frame0 d avs) a → hd.p = some a := by
  have hl : avs.length = vs.length := Paired.length S.args
  have lst : ∀ (i : Nat) (x : Slot), (frame0 d avs)[i]? = some x → (∃ v, x = .val v ∧ avs[i]? = some v) ∨ x = .emp := fun i x e => by
    unfold frame0 at e
    by_cases hi : i < avs.length
    · rw [List.getElem?_append_left (by rw [List.length_map]; exact hi), List.getElem?_map, List.getElem?_eq_getElem hi] at e
      cases e
      exact .inl ⟨_, rfl, List.getElem?_eq_getElem hi⟩
    · rw [List.getElem?_append_right (by rw [List.length_map]; omega), List.getElem?_replicate] at e
      split at e
      · cases e; exact .inr rfl
      · cases e
  have no : ∀ (i : Nat) (c : PD), (frame0 d avs)[i]? ≠ some (Slot.own c) := fun i c e => by
    rcases lst i _ e with ⟨v, z, _⟩ | z <;> cases z
  have av : ∀ a, Av hd (L2.start N vs) (frame0 d avs) a → hd.p = some a := fun a z => z.elim id fun ⟨i, c, e, _⟩ => (no i c e).elim
  have bz : ∀ a, Bz hd (L2.start N vs) (frame0 d avs) a → B0 hd a := fun a z => z.imp (av a) id
  refine ⟨⟨?_, fun a z => .inl z, fun a z => S.mu a (bz a z), fun i v e => ?_, fun i c e => (no i c e).elim, fun i j c e a h1 => (no i c h1).elim, HandAt.less S.hand bz, S.tabs⟩, av⟩
  · unfold frame0 L2.start
    simp only [List.length_append, List.length_map, List.length_replicate]
    omega
  · rcases lst i _ e with ⟨v', z, e2⟩ | z
    · cases z
      have key : ∀ {avs : List Val} {vs : List V} {i : Nat}, Paired (fun (v : Val) (x : V) => RpV g hd H (B0 hd) x v) avs vs → avs[i]? = some v → ∃ x, vs[i]? = some x ∧ RpV g hd H (B0 hd) x v := by
        intro avs vs i q
        induction q generalizing i with
        | nil => intro z; simp at z
        | cons r _ ih =>
          intro z
          cases i with
          | zero => simp at z; subst z; exact ⟨_, rfl, r⟩
          | succ i => obtain ⟨x, h1, h2⟩ := ih (by simpa using z); exact ⟨x, by simpa using h1, h2⟩
      obtain ⟨x, q1, q2⟩ := key S.args e2
      refine ⟨x, ?_, rpV_less bz q2⟩
      have hi := (List.getElem?_eq_some_iff.mp q1).1
      unfold L2.start
      rw [List.getElem?_append_left (by rw [List.length_map]; exact hi), List.getElem?_map, q1]
      rfl
    · cases z
theorem gs_def {X : Cx} {g0 g : Gh} {call : Calls} {lamc : Nat → (Option (List PD) → FO) → Option (List PD) → FO} {actf : Option (List PD) → FO} {W : WX} {d : PDef} {f : Nat} (F : PFacts X.prog X.w X.K X.mg X.base g0 p) (hd : p.defs[f]? = some d)
    (gK : g.K = g0.K) (gF : g.F = g0.F) (gC : g.C = g0.C) (gea : g.ea = g0.ea) (hN : X.N = d.N) (hsc : X.env.scope = defScope d.st) (hfn : X.fn = fun _ => true) (hc : X.calm = true) (un : X.A.units + 64 < cLine) (gu : X.A.guards = some [] ∧ X.A.units + 65 < cLine) (tk : Takes X W) (po : PassesOwn (model X.prog X.w) X.A X.env X.xe) (hst : X.stack = X.env :: X.outer ∧ X.env.frame = some X.env.locals)
    (calls : d.isLam = false → ∃ k, RoomG k X.A ∧ ∀ f, ∃ fd ps, FnG X.prog X.w X.K X.mg X.base (L2.CX X.prog X.w) k (g.F f) fd ps (spF g call f) ∧ PySem.W.keepIn X.K (.ref (g.F f)) = true ∧ Binds X.K fd ps []) (r1 : d.isLam = false → Room 1 X.A)
    (L : LamH (p.cs d).c X g call lamc actf W)
    (act : ∀ x, (p.cs d).act = some x → ∀ (pn : List (Addr × Obj)) (xe : Value → Shared → Prop) (W' : WX), Takes (X.tr pn xe) W' → ∀ q pos, PE (X.tr pn xe) (.Call (.Name x q) [] [] pos) (tEv g call lamc actf W' (.act 0))) : Gs (p.cs d) X g call lamc actf W := by
  obtain ⟨D, hok⟩ := F.dfs f d hd
  refine ⟨⟨by rw [gK]; exact F.gK.symm, hN, by rw [hN]; exact D.S.nd, hsc, fun _ => hc, un, gu, tk, fun f' x h => ?_, F.blt, F.cst, fun h => calls (by simpa [Prg.cs] using h), fun x h => (by cases h), fun h => (by cases h)⟩, L, by rw [hsc]; exact D.S.kind, ⟨fun y k _ h => by rw [hsc]; exact h, fun y _ => by rw [hfn]⟩, fun _ => po, fun _ => hst, fun n x h => ?_, fun _ c a => by rw [gea]; exact F.gea c a, fun x h => ?_, fun h n => by rw [gC]; exact F.exC h n, fun h t bs e _ => ?_, act⟩
  · have h : (p.defs.map (·.name))[f']? = some x := h
    rw [List.getElem?_map] at h
    cases e : p.defs[f']? with
    | none => rw [e] at h; cases h
    | some d' =>
      rw [e] at h
      cases h
      rw [gF]
      exact (F.dfs f' d' e).1.mg'
  · have h : (if d.isLam then ([] : List Str) else p.cls)[n]? = some x := h
    cases hl : d.isLam with
    | true => rw [hl] at h; simp at h
    | false =>
      rw [hl] at h
      obtain ⟨a, b⟩ := F.cls n x (by simpa using h)
      rw [gC]
      exact ⟨a, b, F.sup, r1 hl⟩
  · obtain ⟨cv, a, b⟩ := F.ctc x h
    exact ⟨cv, a, fun n => by rw [gC]; exact b n⟩
  · obtain ⟨cv, u, a, b, c, q⟩ := F.isa h t bs e
    exact ⟨cv, u, a, b, c, fun n => by rw [gC]; exact q n⟩
theorem okD_of {d : PDef} (h : p.okD d = true) : chkB 200 (p.cs d) (defBody d.st) d.code.body = true ∧ d.code.np = d.ps.length ∧ d.code.ns = d.N.length ∧ d.ps.length ≤ d.N.length ∧ (d.isLam = true → d.lamOk = true ∧ d.mkLam = false) := by
  unfold Prg.okD at h
  simp only [Bool.and_eq_true, decide_eq_true_eq, Bool.or_eq_true, Bool.not_eq_true'] at h
  obtain ⟨⟨⟨⟨h1, h2⟩, h3⟩, h4⟩, h5⟩ := h
  exact ⟨h1, h2, h3, h4, fun e => h5.elim (fun z => by rw [e] at z; cases z) fun z => z⟩
/-- the def that calls what it got -/
theorem gives_ok {X0 : Cx} {call : Calls} {act0 : Option (List PD) → FO} {d : PDef} {f n : Nat} {b : IE} {q nm : Str} {cdg : Value} (F : PFacts X0.prog X0.w X0.K X0.mg X0.base g p) (hd : p.defs[f]? = some d) (hl : d.isLam = true) (hps : d.ps = [nm]) :
    Gives X0 d.N d.name (defScope d.st) (g.F f) cdg (defBody d.st) nm q (TTl g call (lN p wf n) act0 f b) := by
  intro fl cl s H Q tl hr hact hco hTT
  obtain ⟨σ0, ρ0, hdy, h, htl, hlen, hno, la, hh, tb, mu, hend⟩ := hTT
  obtain ⟨D, hok⟩ := F.dfs f d hd
  obtain ⟨o1, o2, o3, o4, o5⟩ := okD_of hok
  cases n with
  | zero => exact hend.elim
  | succ n =>
  have hT : p.T f = some d.code := by unfold Prg.T; rw [hd]; rfl
  have hend : EndF g hdy H Q (fun _ _ _ => False) (toCall h (evB (cN p wf n) (lN p wf n) (fun h => toFO (ev call (lN p wf (n + 1)) act0 b ⟨ρ0, h⟩)) wf d.code.body ⟨frame0 d.code [.lmb], h⟩)) := by
    have e : lN p wf (n + 1) f (fun h => toFO (ev call (lN p wf (n + 1)) act0 b ⟨ρ0, h⟩)) h = toCall h (evB (cN p wf n) (lN p wf n) (fun h => toFO (ev call (lN p wf (n + 1)) act0 b ⟨ρ0, h⟩)) wf d.code.body ⟨frame0 d.code [.lmb], h⟩) := by
      show run p.T wf (n + 1) _ f [.lmb] h = _
      rw [run, hT]
      rfl
    rw [← e]
    exact hend
  have hps' : (p.cs d).act = some nm := by unfold Prg.cs; simp [hl, hps]
  have gs : Gs (p.cs d) (gCx X0 d.N d.name (defScope d.st) (g.F f) cdg s H).nox (gLam g hdy fl cl q σ0 ρ0) (cN p wf n) (lN p wf n) (fun h => toFO (ev call (lN p wf (n + 1)) act0 b ⟨ρ0, h⟩)) W0 :=
    gs_def (X := (gCx X0 d.N d.name (defScope d.st) (g.F f) cdg s H).nox) (g0 := g) (g := gLam g hdy fl cl q σ0 ρ0) F hd rfl rfl rfl rfl rfl rfl rfl rfl hr.r.units ⟨hr.g, hr.u65⟩ LamX.takes0 PassesOwn.never ⟨rfl, rfl⟩ (fun z => by rw [hl] at z; cases z) (fun z => by rw [hl] at z; cases z) (lamH_nil (by show (if d.mkLam then p.lams else []) = []; rw [(o5 hl).2]; rfl)) fun x hx pn xe W' tk q1 q2 => by
      rw [hps'] at hx
      cases hx
      exact s_act htl hlen hno (hact W' pn xe q1 q2 tk)
  refine ⟨_, (chkS_ok (wf := wf) 200).2 (p.cs d) _ _ W0 _ _ gs o1, ?_⟩
  have nB : ¬ B0 hdy cl := fun z => by
    obtain ⟨o, e, m⟩ := mu cl z
    rw [hco] at e
    cases e
    exact m
  have st : StartF (gLam g hdy fl cl q σ0 ρ0) hdy H [V.ref fl] [Val.lmb] h := ⟨.cons ⟨rfl, rfl, hco, nB, la⟩ .nil, hh, tb, mu⟩
  obtain ⟨c1, av⟩ := cl_start (d := d.code) (N := d.N) o3 (by rw [hps] at o4; exact o4) st
  exact ⟨hdy, _, c1, end_of (s0 := ⟨frame0 d.code [.lmb], h⟩) av hh (fun c σ' H z => z) hend⟩
/-- a def that is not there -/
theorem fn_none {n f : Nat} {fd : FuncData} {ps : List Str} {k : Nat} (h : ∀ vs hh, callF p.T wf n f vs hh = .bad) : FnG P w K mg base (L2.CX P w) k (g.F f) fd ps (spF g (cN p wf n) f) :=
  ⟨fun vs H Q E ⟨hd, avs, hh, _, q⟩ => by rw [show cN p wf n f avs hh = .bad from h avs hh] at q; exact q.elim, fun A outer s H us vs Q E _ _ _ _ ⟨hd, avs, hh, _, q⟩ => by rw [show cN p wf n f avs hh = .bad from h avs hh] at q; exact q.elim⟩
def lev (n : Nat) : Nat := 3 * n + 1
theorem fn_all (F : PFacts P w K mg base g p) : ∀ n f, ∃ fd ps, FnG P w K mg base (L2.CX P w) (lev n) (g.F f) fd ps (spF g (cN p wf n) f) ∧ PySem.W.keepIn K (.ref (g.F f)) = true ∧ Binds K fd ps [] ∧ (∃ oc od osl, K.lookup (g.F f) = some ⟨oc, od, .func fd, osl⟩) ∧ ∀ d, p.defs[f]? = some d → ps = d.ps := by
  intro n
  induction n with
  | zero =>
    intro f
    have hb : ∀ vs hh, callF p.T wf 0 f vs hh = .bad := fun vs hh => by
      unfold callF
      cases p.T f with
      | none => rfl
      | some d => simp only; split <;> rfl
    cases e : p.defs[f]? with
    | some d =>
      obtain ⟨D, _⟩ := F.dfs f d e
      obtain ⟨oc, od, kV, doc, pm, an, c, ct, osl, lk0, _, b, _⟩ := D.ex
      exact ⟨_, d.ps, fn_none hb, D.kp, b, ⟨_, _, _, lk0⟩, fun d' h => by cases h; rfl⟩
    | none =>
      obtain ⟨f', d, e', ef⟩ := F.out f e
      obtain ⟨D, _⟩ := F.dfs f' d e'
      obtain ⟨oc, od, kV, doc, pm, an, c, ct, osl, lk0, _, b, _⟩ := D.ex
      exact ⟨_, d.ps, fn_none hb, by rw [ef]; exact D.kp, b, ⟨_, _, _, by rw [ef]; exact lk0⟩, fun d' h => by cases h⟩
  | succ n ih =>
    intro f
    cases e : p.defs[f]? with
    | none =>
      obtain ⟨f', d, e', ef⟩ := F.out f e
      obtain ⟨D, _⟩ := F.dfs f' d e'
      obtain ⟨oc, od, kV, doc, pm, an, c, ct, osl, lk0, _, b, _⟩ := D.ex
      refine ⟨_, d.ps, fn_none fun vs hh => ?_, by rw [ef]; exact D.kp, b, ⟨_, _, _, by rw [ef]; exact lk0⟩, fun d' h => by cases h⟩
      unfold callF Prg.T
      rw [e]
      rfl
    | some d =>
      obtain ⟨D, hok⟩ := F.dfs f d e
      obtain ⟨o1, o2, o3, o4, o5⟩ := okD_of hok
      obtain ⟨oc, od, kV, doc, pm, an, c, ct, osl, lk, hcd, b, lamF⟩ := D.ex
      have hT : p.T f = some d.code := by unfold Prg.T; rw [e]; rfl
      have hcall : ∀ vs hh, callF p.T wf (n + 1) f vs hh = if vs.length = d.code.np then toCall hh (evB (cN p wf n) (lN p wf n) (fun _ => .bad) wf d.code.body ⟨frame0 d.code vs, hh⟩) else .bad := fun vs hh => by
        unfold callF
        rw [hT]
        simp only
        split
        · rw [run, hT]; rfl
        · rfl
      have ih : ∀ f, ∃ fd ps, FnG P w K mg base (L2.CX P w) (lev n) (g.F f) fd ps (spF g (cN p wf n) f) ∧ PySem.W.keepIn K (.ref (g.F f)) = true ∧ Binds K fd ps [] := fun f => let ⟨fd, ps, a, b, c, _⟩ := ih f; ⟨fd, ps, a, b, c⟩
      refine ⟨_, d.ps, ⟨fun vs H Q E ⟨hd, avs, hh, S, q⟩ => ?_, fun A outer s H us vs Q E hr e0 hbd r ⟨hd, avs, hh, S, q⟩ => ?_⟩, D.kp, b, ⟨_, _, _, lk⟩, fun d' h => by cases h; rfl⟩
      · have q : EndF g hd H Q E (callF p.T wf (n + 1) f avs hh) := q
        rw [hcall] at q
        split at q
        · rename_i hl
          rw [← Paired.length S.args, hl, o2]
        · exact q.elim
      · have q : EndF g hd H Q E (callF p.T wf (n + 1) f avs hh) := q
        rw [hcall] at q
        split at q
        case isFalse => exact q.elim
        rename_i hl
        have hlv : vs.length = d.ps.length := by rw [← Paired.length S.args, hl, o2]
        refine LamX.run_ofS (N := d.N) (ps := d.ps) (k := lev n + 2) lk hcd D.S (hr.r.mono (by unfold lev; omega)) e0 hbd r hlv fun hr0 => ?_
        let X : Cx := cxOf (L2.CX P w) P w K mg base d.N d.name (defScope d.st) (g.F f) (.ref c) A outer s H E
        have tk : Takes X (fun cls dd _ H => E cls dd H) := takes_of rfl rfl rfl rfl
        have hrX : RoomG (lev n + 2) X.A := ⟨hr0, hr.g⟩
        have L : LamH (p.cs d).c X g (cN p wf n) (lN p wf n) (fun _ => .bad) (fun cls dd _ H => E cls dd H) := by
          intro f' x pars bd lsc q0 pl pos ib hmem h1 h2 h3 hbody
          have hmem : f' ∈ (if d.mkLam then p.lams else []) := hmem
          have hm : d.mkLam = true := by
            cases z : d.mkLam with
            | true => rfl
            | false => rw [z] at hmem; simp at hmem
          rw [hm, if_pos rfl] at hmem
          obtain ⟨Pt, TB, hmT, hu⟩ := lamF hm
          unfold okFn at h1
          simp only [Bool.and_eq_true, decide_eq_true_eq] at h1
          obtain ⟨h1, h4⟩ := h1
          have h4 : (p.defs.map (·.name))[f']? = some x := h4
          rw [List.getElem?_map] at h4
          cases e' : p.defs[f']? with
          | none => rw [e'] at h4; cases h4
          | some d' =>
          rw [e'] at h4
          cases h4
          obtain ⟨D', hok'⟩ := F.dfs f' d' e'
          obtain ⟨oc', od', kV', doc', pm', an', c', ct', osl', lk', hcd', b', _⟩ := D'.ex
          have hgl : Gl X d'.name := by
            unfold okGl at h1
            simp only [Bool.and_eq_true, decide_eq_true_eq] at h1
            exact h1.1.1
          cases hlam : d'.isLam with
          | false =>
            unfold Prg.lams at hmem
            rw [List.mem_filter, e'] at hmem
            rw [show (match some d' with | some d => d.isLam | none => false) = d'.isLam from rfl, hlam] at hmem
            cases hmem.2
          | true =>
            obtain ⟨_, _, _, _, o5'⟩ := okD_of hok'
            have lo := (o5' hlam).1
            unfold PDef.lamOk at lo
            split at lo
            · rename_i nm hps
              simp only [Bool.and_eq_true, decide_eq_true_eq, Bool.not_eq_true'] at lo
              obtain ⟨⟨⟨l1, l2⟩, l3⟩, l4⟩ := lo
              have hdef : defaultsOf pars X.env = ([], []) ∧ ∀ (q : Str) (cl : List (Str × Addr)) (pm cv ctv : Value), bindArgs (PySem.W.kla_fn "<lambda>" q pars bd lsc cl pm cv ctv) ⟨[], []⟩ = pure [] := by
                unfold noArgs at h3
                split at h3
                · exact ⟨rfl, fun _ _ _ _ _ => rfl⟩
                · cases h3
              have bk := b'
              have S' := D'.S
              rw [hps] at bk S'
              refine PE.imp (lam_call (X := X) (k := lev n) (Ng := d'.N) (nm := nm) (t := fun E => tEv g (cN p wf n) (lN p wf n) (fun _ => .bad) (fun cls d _ H => E cls d H) ib) hgl D'.mg' D'.kp lk' hcd' bk S' l4 (vis_of l1) (gives_ok (X0 := X) (act0 := fun _ => .bad) (b := ib) F e' hlam hps) TB rfl hmT hu hrX (LamX.lamS_by h2) hdef.1 hdef.2 (fun A2 outer2 s2 H2 E2 fl cl hr2 => ?_) D'.db l2 l3) fun σ H Q q => lam_imp σ H Q q
              refine hbody (lamCx X A2 outer2 s2 H2 E2 lsc fl cl) (fun cls d _ H => E2 cls d H) ⟨F.gK.symm, rfl, D.S.nd, rfl, fun _ => rfl, hr2.r.units, ⟨hr2.g, hr2.u65⟩, takes_of rfl rfl rfl rfl, fun f'' x h => ?_, F.blt, F.cst, fun _ => ⟨lev n, hr2, ih⟩, fun x h => (by cases h), fun h => (by cases h)⟩
              have h : (p.defs.map (·.name))[f'']? = some x := h
              rw [List.getElem?_map] at h
              cases e2 : p.defs[f'']? with
              | none => rw [e2] at h; cases h
              | some d2 => rw [e2] at h; cases h; exact (F.dfs f'' d2 e2).1.mg'
            · cases lo
        have gs : Gs (p.cs d) X g (cN p wf n) (lN p wf n) (fun _ => .bad) (fun cls dd _ H => E cls dd H) :=
          gs_def (X := X) (g0 := g) (g := g) F e rfl rfl rfl rfl rfl rfl rfl rfl hrX.r.units ⟨hrX.g, hrX.u65⟩ tk (passes_of rfl) ⟨rfl, rfl⟩ (fun _ => ⟨lev n, hrX.mono (by omega), ih⟩) (fun _ => hrX.r.mono (by unfold lev; omega)) L fun x _ pn xe W' tk q1 q2 => pe_none fun σ H Q ⟨hd, s, c, post⟩ => by
            rw [ev] at post
            split at post
            · exact post.elim
            · exact post.elim
        refine ⟨_, (chkS_ok (wf := wf) 200).2 (p.cs d) _ _ _ _ _ gs o1, ?_⟩
        obtain ⟨c1, av⟩ := cl_start (d := d.code) (N := d.N) o3 (by rw [hlv]; exact o4) S
        exact ⟨hd, _, c1, end_of (l := g.la) (ls := g.las) (s0 := ⟨frame0 d.code avs, hh⟩) av S.hand (fun c σ' H z => z) q⟩
/-- the law's own promise at the head's heap -/
theorem law_at {l : PySem.W.OpenLaw} {w : World} {K : PySem.W.Frag} {mg : Str → Option Value} {fa : Addr} {h : Heap} {g : Gh} {p : Prg} {wf n lf : Nat} {dl : PDef} {cs : List (Addr × Addr)} {oc : Value} {od : Option Addr} {fd : FuncData} {osl : Array (Option Value)}
    (hT : ∀ q ∈ cs, h.get? q.2 = some { cls := .none, data := .fields #[] }) (nT : ∀ q ∈ cs, K.lookup q.2 = none) (C : ∀ q ∈ cs, PySem.W.CodeHd h q.1 q.2) (gT : ∀ q ∈ g.T, ∃ c, (c, q.1) ∈ cs) (lk : K.lookup fa = some ⟨oc, od, .func fd, osl⟩) (hb : ∀ (s : Shared) (u : Value), BindsTo s fd ⟨[u], []⟩ [("script", u)])
    (F : ∀ base : Heap, K.In base → base.Ns mainGlobals mg → (∀ q ∈ cs, TabB base mg q.1 q.2) → PFacts l.prog w K mg base g p) (hl : p.defs[lf]? = some dl) (hps : dl.ps = [("script" : Str)]) (hfa : g.F lf = fa) (gK : g.K = K)
    (main : ∀ ns : List Int, ns.length ≤ 63 → callF p.T wf n lf [.scr ns] none = .ret (.dat (.bool true)) false none) : LawG l w K (L2.CX l.prog w) (lev n) 63 "script" fa mg h := by
  refine ⟨fd, cs, spF g (cN p wf n) lf, hT, nT, C, hb, fun H a ns hlen _ hH hS => ?_, fun base hK hN hTB => ?_⟩
  · refine ⟨⟨none, fun _ => False⟩, [.scr ns], none, ⟨.cons ⟨a, rfl, ?_⟩ .nil, trivial, fun q hq => ?_, fun a z => z.elim (fun z => by cases z) fun z => z.elim⟩, ?_⟩
    · rcases hS with hS | hS
      · exact .inl ⟨fun z => z.elim (fun z => by cases z) fun z => z, hS⟩
      · rw [gK]; exact .inr hS
    · obtain ⟨c, hc⟩ := gT q hq
      exact LamX.TabS.nil (hH _ hc)
    · rw [show cN p wf n lf [.scr ns] none = _ from main ns hlen]
      rintro x H' _ _ (⟨_, _, r⟩ | ⟨z, _⟩)
      · cases r; rfl
      · cases z
  · obtain ⟨fd', ps, A, _, _, ⟨oc', od', osl', lk'⟩, e⟩ := fn_all (wf := wf) (F base hK hN hTB) n lf
    rw [hfa] at A lk'
    rw [lk] at lk'
    cases lk'
    rw [e dl hl, hps] at A
    exact A
end
end Pev
set_option maxRecDepth 100000
set_option autoImplicit false
/-! Pev: the end: what the head tells of a text. -/
namespace Pev
open PySem PySem.Spec PyProof.Rows L2
open LamX (TabB)

/-- what is plain of a def -/
structure DStat (d : PDef) : Prop where
  S : FnScope d.N d.ps (defScope d.st)
  b : ∀ (kV doc pm : Value) (an : Option Addr) (cdv ct : Value) (us : List Value), us.length = d.ps.length → bindArgs (PySem.W.fnOf d.name d.name (defArgs d.st) (defBody d.st) (defScope d.st) .none kV doc pm an cdv ct) ⟨us, []⟩ = pure (d.ps.zip us)
  db : (d.name == ("__debug__" : Str)) = false
  nx : (d.name == ("__name__" : Str)) = false
def PDef.dd (d : PDef) : He.DefD := ⟨(d.name, none), d.name, d.name, defArgs d.st, defBody d.st, defScope d.st, [], []⟩
def Prg.fn (p : Prg) : List He.DefD := p.defs.map (·.dd)
def Prg.fa (p : Prg) : List He.Fa := p.defs.map (fun d => .glo d.name) ++ (bltNm ++ tyNm).map (fun x => .free x) ++ p.cst.map (fun q => .int q.1 q.2) ++ p.cls.map (fun x => .glo x) ++ [.free "super"]
def Prg.tf (p : Prg) : List He.Defn := (p.defs.filter (·.mkLam)).map fun d => (d.name, none)
/-- the addresses -/
def Prg.F (p : Prg) (K : PySem.W.Frag) (f : Nat) : Addr := He.ga K (((p.defs[f]?).map (·.name)).getD ((p.defs.head?.map (·.name)).getD ""))
def Prg.C (p : Prg) (K : PySem.W.Frag) (n : Nat) : Addr := He.ga K ((p.cls[n]?).getD (p.cls.headD ""))
def Prg.Tb (p : Prg) (K : PySem.W.Frag) : List (Addr × Str) := (p.defs.filter (·.mkLam)).map fun d => ((He.cT K (d.name, none)).2, (d.name ++ ".<locals>.") ++ "<lambda>")
section
variable {w : World} {K : PySem.W.Frag} {mg : Str → Option Value} {base h : Heap} {p : Prg} {ts : List He.Tab} {ex : PySem.W.Frag → Bool} {g : Gh}
theorem dfacts (c : He.SaysX p.fa p.fn ts p.tf ex w h K) (X : K.In base) (G : base.Ns mainGlobals mg) (gF : g.F = p.F K) {d : PDef} {f : Nat} (e : p.defs[f]? = some d) (D : DStat d)
    (lam : d.mkLam = true → ∀ c' : Addr, He.codeOf K (d.name, none) = c' → ∃ Pt, TabB base mg c' Pt ∧ (Pt, (d.name ++ ".<locals>.") ++ "<lambda>") ∈ g.T ∧ ∀ p ∈ g.T, p.1 = Pt → p.2 = (d.name ++ ".<locals>.") ++ "<lambda>") : DFacts w K mg base g d f := by
  have hF : g.F f = He.ga K d.name := by rw [gF]; unfold Prg.F; rw [e]; rfl
  obtain ⟨fd, FD⟩ := He.SaysD.defs c.t.d (d := d.dd) (List.mem_map.mpr ⟨d, List.mem_of_getElem? e, rfl⟩)
  have FD : FunD K d.name d.name (defArgs d.st) (defBody d.st) (defScope d.st) [] [] (He.ga K d.name) fd := FD
  have bs := FD.bindsN D.b
  have kp := FD.kp
  obtain ⟨oc, od, dV, kV, doc, pm, an, cdv, ct, osl, rfl, lk, hcd, hD, hK⟩ := FD.ex
  obtain ⟨cc, rfl⟩ := He.codeIn_ref hcd
  have dn : dV = .none := by
    rcases hD with ⟨_, rfl⟩ | ⟨z, _⟩
    · rfl
    · exact (z rfl).elim
  subst dn
  have hm : He.Fa.glo d.name ∈ p.fa := by
    unfold Prg.fa
    simp only [List.mem_append, List.append_assoc]
    exact .inl (List.mem_map.mpr ⟨d, List.mem_of_getElem? e, rfl⟩)
  refine ⟨⟨oc, od, kV, doc, pm, an, cc, ct, osl, by rw [hF]; exact lk, hcd, bs, fun hm => lam hm cc ?_⟩, by rw [hF]; exact kp, by rw [hF]; exact He.glo_ok X G (He.SaysD.facts c.t.d hm), D.db, D.S⟩
  exact He.codeOf_eq (p := (d.name, none)) lk rfl
/-- the text's addresses -/
def gOf (p : Prg) (K : PySem.W.Frag) : Gh := ⟨fun _ _ _ _ => False, fun _ _ z => z, K, p.F K, p.C K, p.Tb K, fun _ _ => False⟩
/-- tables are apart -/
def tbB (p : Prg) (K : PySem.W.Frag) : Bool := decide ((p.Tb K).map (·.1)).Nodup
theorem nodup_fst {α β : Type} : ∀ {l : List (α × β)}, (l.map (·.1)).Nodup → ∀ a b, a ∈ l → b ∈ l → b.1 = a.1 → b.2 = a.2
  | [], _, _, _, h, _, _ => by cases h
  | q :: l, hn, a, b, ha, hb, e => by
    rw [List.map_cons, List.nodup_cons] at hn
    rcases List.mem_cons.mp ha with ea | ma
    · rcases List.mem_cons.mp hb with eb | mb
      · rw [ea, eb]
      · exact (hn.1 (List.mem_map.mpr ⟨b, mb, by rw [e, ea]⟩)).elim
    · rcases List.mem_cons.mp hb with eb | mb
      · exact (hn.1 (List.mem_map.mpr ⟨a, ma, by rw [← e, eb]⟩)).elim
      · exact nodup_fst hn.2 a b ma mb e
theorem lookup_mem {α β : Type} [BEq α] [LawfulBEq α] {x : α} {y : β} : ∀ {l : List (α × β)}, l.lookup x = some y → (x, y) ∈ l
  | [], h => by cases h
  | (a, b) :: l, h => by
    rw [List.lookup_cons] at h
    split at h
    · rename_i e
      cases h
      rw [eq_of_beq e]
      exact .head _
    · exact .tail _ (lookup_mem h)
theorem pfacts {P : Program} (c : He.SaysX p.fa p.fn ts p.tf ex w h K) (X : K.In base) (G : base.Ns mainGlobals mg) (D : ∀ d ∈ p.defs, DStat d) (ok : ∀ d ∈ p.defs, p.okD d = true) (ne : p.defs ≠ [])
    (tb : tbB p K = true) (hT : ∀ q ∈ p.tf.map (He.cT K), TabB base mg q.1 q.2)
    (hC : ∀ x ∈ p.cls, RaiseC P K (He.ga K x))
    (ctc : ∀ x, p.ctc = some x → ∃ cv, mg x = some cv ∧ ∀ n, PySem.W.exmOne K (.ref (p.C K n)) cv = some true)
    (exC : p.ctc ≠ none → ∀ n, ExcC K (p.C K n))
    (isa : p.ctc ≠ none → ∀ t bs, p.isa.lookup t = some bs → ∃ (cv : V) (u : Value), (mg t = some u ∨ (mg t = none ∧ bootBuiltins t = some u)) ∧ RelV cv u ∧ (∀ u', RelV cv u' → u' = u) ∧ ∀ n, PySem.W.kitOne K (.ref (p.C K n)) u = some (bs.getD n (bs.headD false))) : PFacts P w K mg base (gOf p K) p := by
  have F : ∀ {f : He.Fa}, f ∈ p.fa → f.ok K = true := fun m => He.SaysD.facts c.t.d m
  refine ⟨rfl, fun _ _ _ _ z => z, fun _ _ z => z, fun f d e => ⟨dfacts c X G rfl e (D d (List.mem_of_getElem? e)) fun hm c' hc => ?_, ok d (List.mem_of_getElem? e)⟩, fun f e => ?_, fun x hx => He.free_ok X G (F ?_), fun x k hx => He.int_ok X G (F ?_), fun n x e => ⟨?_, ?_⟩, He.free_ok X G (F ?_), ctc, exC, isa⟩
  · have m1 : d ∈ p.defs.filter (·.mkLam) := List.mem_filter.mpr ⟨List.mem_of_getElem? e, hm⟩
    have m2 : (((He.cT K (d.name, none)).2, (d.name ++ ".<locals>.") ++ "<lambda>") : Addr × Str) ∈ p.Tb K := List.mem_map.mpr ⟨d, m1, rfl⟩
    have nd : ((p.Tb K).map (·.1)).Nodup := by
      unfold tbB at tb
      exact of_decide_eq_true tb
    have uq := fun q hq => nodup_fst nd _ q m2 hq
    refine ⟨(He.cT K (d.name, none)).2, ?_, m2, fun q hq e => uq q hq e⟩
    have := hT (He.cT K (d.name, none)) (List.mem_map.mpr ⟨_, List.mem_map.mpr ⟨d, m1, rfl⟩, rfl⟩)
    have e1 : (He.cT K (d.name, none)).1 = c' := hc
    rw [e1] at this
    exact this
  · cases hd : p.defs with
    | nil => exact (ne hd).elim
    | cons d r =>
      refine ⟨0, d, rfl, ?_⟩
      show p.F K f = p.F K 0
      unfold Prg.F
      rw [e, hd]
      rfl
  · unfold Prg.fa
    simp only [List.mem_append, List.append_assoc]
    exact .inr (.inl (List.mem_map.mpr ⟨x, hx, rfl⟩))
  · unfold Prg.fa
    simp only [List.mem_append, List.append_assoc]
    exact .inr (.inr (.inl (List.mem_map.mpr ⟨(x, k), lookup_mem hx, rfl⟩)))
  · have : (gOf p K).C n = He.ga K x := by
      show p.C K n = _
      unfold Prg.C
      rw [e]
      rfl
    rw [this]
    refine He.glo_ok X G (F ?_)
    unfold Prg.fa
    simp only [List.mem_append, List.append_assoc]
    exact .inr (.inr (.inr (.inl (List.mem_map.mpr ⟨x, List.mem_of_getElem? e, rfl⟩))))
  · have : (gOf p K).C n = He.ga K x := by
      show p.C K n = _
      unfold Prg.C
      rw [e]
      rfl
    rw [this]
    exact hC x (List.mem_of_getElem? e)
  · unfold Prg.fa
    simp only [List.mem_append, List.append_assoc]
    exact .inr (.inr (.inr (.inr (.head _))))
end
end Pev
set_option maxRecDepth 100000
set_option autoImplicit false
/-! Pev: the end: facts of the classes as Bools. -/
namespace Pev
open PySem PySem.Spec PyProof.Rows L2 PySem.W
def excB (K : Frag) (D : Addr) : Bool := decide (findIn K (.ref D) "__getattribute__" = some (some (.builtin "BaseException.__getattribute__"))) && (decide (findIn K (.ref D) "__getattr__" = some none) && (decide (subIn K (.ref D) (.type "BaseException") = some true) && (hasDictIn K D &&
  (decide (findIn K (.ref D) "__class__" = some (some (.builtin "object.__class__"))) && (decide (specialIn K (.builtin "object.__class__") "__get__" = some (some (.builtin "getset_descriptor.__get__"))) && (decide (takesIn K (.builtin "object.__class__") = some true) && decide (mroIn K D (.type "object") = some true)))))))
theorem excB_ok {K : Frag} {D : Addr} (h : excB K D = true) : ExcC K D := by
  unfold excB at h
  simp only [Bool.and_eq_true, decide_eq_true_eq] at h
  obtain ⟨a, b, c, d, e, f, g, i⟩ := h
  exact ⟨a, b, c, d, e, f, g, i⟩
/-- the exception's `__init__`, its one parameter -/
def initBody : List Stmt → Bool
  | [.Expr (.Call (.Attribute (.Call (.Name x _) [] [] _) m p2) [] [] p3) _] => decide (x = ("super" : Str)) && decide (m = ("__init__" : Str)) && (p2.endLine == p3.line)
  | _ => false
def initPar : Arguments → Option Arg
  | ⟨[], [⟨x, an, pos⟩], none, [], [], none, []⟩ => if x = ("self" : Str) then some ⟨"self", an, pos⟩ else none
  | _ => none
def isNo : Value → Bool
  | .none => true
  | _ => false
def codeFile (P : Program) (K : Frag) (cda : Addr) : Bool := match K.lookup cda with
  | some ⟨_, _, .fields vs, _⟩ => (match (vs[2]? : Option Value) with
    | some (Value.str file _) => (P.main.file : Str) == file
    | _ => false)
  | _ => false
def cellIs (K : Frag) (cc C : Addr) : Bool := match K.lookup cc with
  | some ⟨_, _, .cell (some (.ref C')), _⟩ => decide (C' = C)
  | _ => false
def initScope (sc : Scope) (x : Str) : Bool := decide (sc.names.lookup ("super" : Str) = some .globalImplicit) && (decide (sc.names.lookup ("__class__" : Str) = some .free) && (decide (sc.names.lookup x = some .local) && (decide (sc.kind = .function) &&
  (sc.names.all (fun q => decide (q.2 ≠ .cell)) && (!sc.isCoroutine && !sc.isGenerator)))))
def initFd (P : Program) (K : Frag) (C : Addr) (fd : FuncData) : Bool := match fd.body, fd.code, fd.closure, initPar fd.params with
  | .stmts b, .ref cda, [(x, cc)], some ar => initBody b && (decide (x = ("__class__" : Str)) && (decide (fd.globals = mainGlobals) && (decide (fd.builtins = builtinsNs) && (codeIn K (.ref cda) fd.qualname && (codeFile P K cda && (cellIs K cc C && (initScope fd.scope ar.arg && isNo fd.defaults)))))))
  | _, _, _, _ => false
def raiseB (P : Program) (K : Frag) (C : Addr) : Bool := keepIn K (.ref C) && (excInitIn K C vE "ValueError.__new__" && (decide (subIn K (.ref C) (.type "BaseException") = some true) && (decide (typeIn K (.ref C) = some (.type "type")) && (decide (subIn K (.ref C) (.type "ValueError") = some true) &&
  (decide (nsIn K cStatics "thirdparty.any" = some none) && (decide (ks_superIn K C C "__init__" = some (some (.builtin "ValueError.__init__"))) && (decide (mroIn K C (.ref C) = some true) && (!(P.main.scope.names.lookup ("super" : Str)).isSome &&
  (match findIn K (.ref C) "__init__" with
  | some (some (.ref fI)) => decide (typeIn K (.ref fI) = some (.type "function")) && (match K.lookup fI with
    | some ⟨_, _, .func fd, _⟩ => initFd P K C fd
    | _ => false)
  | _ => false)))))))))
theorem raiseB_ok {P : Program} {K : Frag} {C : Addr} (h : raiseB P K C = true) : RaiseC P K C := by
  unfold raiseB at h
  simp only [Bool.and_eq_true, decide_eq_true_eq, Bool.not_eq_true'] at h
  obtain ⟨a, b, c, d, e, f, g, i, j, k⟩ := h
  refine ⟨a, b, c, d, e, f, g, i, j, ?_⟩
  split at k
  case h_2 => cases k
  rename_i fI q1
  simp only [Bool.and_eq_true, decide_eq_true_eq] at k
  obtain ⟨k1, k2⟩ := k
  split at k2
  case h_2 => cases k2
  rename_i oc od fd osl q2
  unfold initFd at k2
  split at k2
  case h_2 => cases k2
  rename_i bd cda x cc ar e1 e2 e3 e4
  simp only [Bool.and_eq_true, decide_eq_true_eq] at k2
  obtain ⟨m1, m2, m3, m4, m5, m6, m7, m8, m9⟩ := k2
  unfold initBody at m1
  split at m1
  case h_2 => cases m1
  rename_i x' p0 p1 m' p2 p3 p4
  simp only [Bool.and_eq_true, decide_eq_true_eq] at m1
  obtain ⟨⟨rfl, rfl⟩, n3⟩ := m1
  subst m2
  unfold codeFile at m6
  split at m6
  case h_2 => cases m6
  rename_i o1 o2 vs o3 q3
  split at m6
  case h_2 => cases m6
  rename_i file tf q4
  unfold cellIs at m7
  split at m7
  case h_2 => cases m7
  rename_i o4 o5 C' o6 q5
  have m7 := of_decide_eq_true m7
  subst m7
  unfold initScope at m8
  simp only [Bool.and_eq_true, decide_eq_true_eq, Bool.not_eq_true', List.all_eq_true] at m8
  obtain ⟨s1, s2, s3, s4, s5, s6, s7⟩ := m8
  obtain ⟨name, qual, params, body, scope, globals, closure, dV, kV, doc, pm, an, code, ct, blt⟩ := fd
  cases e1; cases e2; cases e3; cases m3; cases m4
  replace e4 : initPar params = some ar := e4
  replace m9 : isNo dV = true := m9
  obtain ⟨po, ag, va, ko, kd, kw, df⟩ := params
  unfold initPar at e4
  split at e4
  case h_2 => cases e4
  rename_i x0 an0 pos0 ep
  cases ep
  by_cases ex0 : x0 = ("self" : Str)
  case neg => rw [if_neg ex0] at e4; cases e4
  rw [if_pos ex0] at e4
  subst ex0
  cases e4
  unfold isNo at m9
  split at m9
  case h_2 => cases m9
  exact ⟨fI, cda, cc, _, _, _, _, _, _, _, _, _, _, _, _, _, _, _, _, _, _, _, _, _, _, _, _, _, _, _, _, n3, q1, k1, q2, m5, rfl, fun v => rfl, q3, q4, m6, q5, s1, s2, s3, s4, s5, s6, s7⟩
end Pev
set_option maxRecDepth 100000
set_option autoImplicit false
/-! Pev: the end: the hook's Bool, all facts. -/
namespace Pev
open PySem PySem.Spec PyProof.Rows L2 PySem.W
open LamX (TabB)
/-- the classes' addresses that may be in flight -/
def Prg.Cs (p : Prg) (K : Frag) : List Addr := (p.cls ++ [p.cls.headD ""]).map (He.ga K)
theorem C_mem (p : Prg) (K : Frag) (n : Nat) : p.C K n ∈ p.Cs K := by
  unfold Prg.C Prg.Cs
  refine List.mem_map.mpr ⟨_, ?_, rfl⟩
  cases e : p.cls[n]? with
  | none => exact List.mem_append.mpr (.inr (.head _))
  | some x => exact List.mem_append.mpr (.inl (List.mem_of_getElem? e))
/-- what is told of the class that is caught -/
def ctcB (p : Prg) (K : Frag) : Bool := match p.ctc with
  | none => true
  | some x => decide (nsIn K mainGlobals x = some (some (.ref (He.ga K x)))) && (p.Cs K).all fun C => decide (exmOne K (.ref C) (.ref (He.ga K x)) = some true) && excB K C
def isaTab (p : Prg) (K : Frag) (bs : List Bool) (u : Value) : Bool := decide (bs.length = p.cls.length) && (decide (0 < p.cls.length) && (List.range p.cls.length).all fun n => decide (kitOne K (.ref (p.C K n)) u = some (bs.getD n (bs.headD false))))
theorem isaTab_ok {p : Prg} {K : Frag} {bs : List Bool} {u : Value} (h : isaTab p K bs u = true) (n : Nat) : kitOne K (.ref (p.C K n)) u = some (bs.getD n (bs.headD false)) := by
  unfold isaTab at h
  simp only [Bool.and_eq_true, decide_eq_true_eq, List.all_eq_true, List.mem_range] at h
  obtain ⟨h1, h2, h3⟩ := h
  by_cases hn : n < p.cls.length
  · exact h3 n hn
  · have e1 : p.C K n = p.C K 0 := by
      unfold Prg.C
      rw [List.getElem?_eq_none (by omega)]
      cases hc : p.cls with
      | nil => rw [hc] at h2; simp at h2
      | cons a l => rfl
    have e2 : bs.getD n (bs.headD false) = bs.getD 0 (bs.headD false) := by
      cases bs with
      | nil => rfl
      | cons a l =>
        rw [List.getD_eq_getElem?_getD, List.getElem?_eq_none (by omega)]
        rfl
    rw [e1, e2]
    exact h3 0 h2
def isaB (p : Prg) (K : Frag) : Bool := p.isa.all fun q => match nsIn K mainGlobals q.1 with
  | some (some (.ref a)) => isaTab p K q.2 (.ref a)
  | some none => (match bootBuiltins q.1 with
    | some (.type n) => isaTab p K q.2 (.type n)
    | _ => false)
  | _ => false
theorem isaB_ok {p : Prg} {K : Frag} {base : Heap} {mg : Str → Option Value} (X : K.In base) (G : base.Ns mainGlobals mg) (h : isaB p K = true) (t : Str) (bs : List Bool) (e : p.isa.lookup t = some bs) :
    ∃ (cv : V) (u : Value), (mg t = some u ∨ (mg t = none ∧ bootBuiltins t = some u)) ∧ RelV cv u ∧ (∀ u', RelV cv u' → u' = u) ∧ ∀ n, kitOne K (.ref (p.C K n)) u = some (bs.getD n (bs.headD false)) := by
  have h1 := List.all_eq_true.mp h (t, bs) (lookup_mem e)
  simp only at h1
  split at h1
  · rename_i a q
    exact ⟨.ref a, .ref a, .inl (mg_of X G q), rfl, fun _ z => z, isaTab_ok h1⟩
  · rename_i q
    split at h1
    · rename_i n q2
      exact ⟨.ty n, .type n, .inr ⟨mg_none_of X G q, q2⟩, rfl, fun _ z => z, isaTab_ok h1⟩
    · cases h1
  · cases h1
/-- THE HOOK'S BOOL -/
def exP (P : Program) (p : Prg) (K : Frag) : Bool := tbB p K && (p.cls.all (fun x => raiseB P K (He.ga K x)) && (ctcB p K && (p.ctc.isNone || isaB p K)))
theorem pfacts_of {P : Program} {p : Prg} {w : World} {K : Frag} {mg : Str → Option Value} {base h : Heap} {ts : List He.Tab} (c : He.SaysX p.fa p.fn ts p.tf (exP P p) w h K) (X : K.In base) (G : base.Ns mainGlobals mg) (D : ∀ d ∈ p.defs, DStat d) (ok : ∀ d ∈ p.defs, p.okD d = true) (ne : p.defs ≠ [])
    (hT : ∀ q ∈ p.tf.map (He.cT K), TabB base mg q.1 q.2) : PFacts P w K mg base (gOf p K) p := by
  have m := c.more
  unfold exP at m
  simp only [Bool.and_eq_true, Bool.or_eq_true, List.all_eq_true] at m
  obtain ⟨m1, m2, m3, m4⟩ := m
  refine pfacts c X G D ok ne m1 hT (fun x hx => raiseB_ok (m2 x hx)) (fun x hx => ?_) (fun hx n => ?_) fun hx t bs e => ?_
  · unfold ctcB at m3
    rw [hx] at m3
    simp only [Bool.and_eq_true, decide_eq_true_eq, List.all_eq_true] at m3
    exact ⟨_, mg_of X G m3.1, fun n => (m3.2 _ (C_mem p K n)).1⟩
  · unfold ctcB at m3
    cases e : p.ctc with
    | none => exact (hx e).elim
    | some x =>
      rw [e] at m3
      simp only [Bool.and_eq_true, decide_eq_true_eq, List.all_eq_true] at m3
      exact excB_ok (m3.2 _ (C_mem p K n)).2
  · rcases m4 with m4 | m4
    · rw [Option.isNone_iff_eq_none] at m4
      exact (hx m4).elim
    · exact isaB_ok X G m4 t bs e
end Pev
set_option maxRecDepth 100000
set_option autoImplicit false
/-! Pev: the end: the law's call. -/
namespace Pev
open PySem PySem.Spec PyProof.Rows L2 PySem.W
theorem walkP {l : OpenLaw} {p : Prg} {q : Program} {loose : List Str} {XP : (Str → Option Value) → Heap → Prop} {d : DefRec} {wf n lf m : Nat} {dl : PDef} (hn : l.most = some 63) (hdf : d.params.defaults = []) (hnm : d.name = ("law" : Str)) (hr : Room (lev n) callerA)
    (D : ∀ d ∈ p.defs, DStat d) (ok : ∀ d ∈ p.defs, p.okD d = true) (hl : p.defs[lf]? = some dl) (hdl : dl.name = ("law" : Str)) (hps : dl.ps = [("script" : Str)])
    (main : ∀ ns : List Int, ns.length ≤ 63 → callF p.T wf n lf [.scr ns] none = .ret (.dat (.bool true)) false none) :
    WalkO q loose XP (He.hookX m p.fa p.fn [] p.tf (exP l.prog p)).says l.row.toRowW d [] (fun f vs => PySem.call f vs) := by
  refine walk_go (l := l) (n := 63) (k := lev n) (x := "script") (CX := fun w => L2.CX l.prog w) hn (by decide) hdf hr ?F (fun w H s e s' z => ?_)
  case F =>
    intro w mg fa h Y G hmg
    obtain ⟨K, KX, c⟩ := Y
    have hmem := List.mem_of_getElem? hl
    have ne : p.defs ≠ [] := fun z => by rw [z] at hmem; cases hmem
    have hga : He.ga K dl.name = fa := by
      have h1 : He.Fa.glo dl.name ∈ p.fa := by
        unfold Prg.fa
        simp only [List.mem_append, List.append_assoc]
        exact .inl (List.mem_map.mpr ⟨dl, hmem, rfl⟩)
      have h2 := He.glo_ok KX G (He.SaysD.facts c.t.d h1)
      rw [hnm] at hmg
      rw [hdl] at h2 ⊢
      rw [hmg] at h2
      cases h2
      rfl
    obtain ⟨fd, FD⟩ := He.SaysD.defs c.t.d (d := dl.dd) (List.mem_map.mpr ⟨dl, hmem, rfl⟩)
    have FD : FunD K dl.name dl.name (defArgs dl.st) (defBody dl.st) (defScope dl.st) [] [] (He.ga K dl.name) fd := FD
    have b := FunD.bindsA (ps := [("script" : Str)]) FD fun kV doc pm an cdv ct us hu => by
      have := (D dl hmem).b kV doc pm an cdv ct us (by rw [hps]; exact hu)
      rw [hps] at this
      exact this
    obtain ⟨oc, od, dV, kV, doc, pm, an, cdv, ct, osl, e, lk, _⟩ := FD.ex
    rw [hga] at lk
    refine ⟨K, KX, law_at (g := gOf p K) (cs := p.tf.map (He.cT K)) (p := p) (lf := lf) (dl := dl) ?_ ?_ ?_ ?_ lk (fun s u => b s [u] rfl) (fun base hK hN hTB => pfacts_of c hK hN D ok ne hTB) hl hps ?_ rfl main⟩
    · intro q hq
      obtain ⟨r, hr, rfl⟩ := List.mem_map.mp hq
      exact c.empty r hr
    · intro q hq
      obtain ⟨r, hr, rfl⟩ := List.mem_map.mp hq
      exact c.out r hr
    · intro q hq
      obtain ⟨r, hr, rfl⟩ := List.mem_map.mp hq
      exact codeHd_of_K KX (c.hd r hr)
    · intro q hq
      have hq : q ∈ p.Tb K := hq
      obtain ⟨d', hd', rfl⟩ := List.mem_map.mp hq
      exact ⟨_, List.mem_map.mpr ⟨(d'.name, none), List.mem_map.mpr ⟨d', hd', rfl⟩, rfl⟩⟩
    · show p.F K lf = fa
      unfold Prg.F
      rw [hl]
      exact hga
  · obtain ⟨_, _, _, _, _, _, _, _, _, _, _, _, z⟩ := z
    exact z
end Pev
set_option maxRecDepth 100000
set_option autoImplicit false
/-! Pev: the end: the hook that sees the statics too. -/
namespace Pev
open PySem PySem.Spec PyProof.Rows L2 PySem.W
def seedY (m : Nat) (g : Addr → Option Obj) : List Addr := cStatics :: He.asD g m
def obsY (m : Nat) (p : Prg) (ex : Frag → Bool) (g : Addr → Option Obj) : He.AlT × Bool :=
  match He.frT g (seedY m g) with
  | K => (He.obsT p.fa p.fn [] K, ex K && He.tabsB g p.tf K)
theorem saysY_of {m : Nat} {p : Prg} {ex : Frag → Bool} {w : World} {h : Heap} (e : obsY m p ex h.get? = (He.valT p.fn [] w, true)) : He.SaysX p.fa p.fn [] p.tf ex w h (He.frT h.get? (seedY m h.get?)) := by
  generalize hK : He.frT h.get? (seedY m h.get?) = K
  unfold obsY at e
  rw [hK] at e
  injection e with e1 e2
  rw [Bool.and_eq_true] at e2
  obtain ⟨x1, x2⟩ := e2
  unfold He.tabsB at x2
  rw [List.all_eq_true] at x2
  have tb : ∀ q ∈ p.tf, codeHdIn K (He.cT K q).1 (He.cT K q).2 = true ∧ ∃ o, h.get? (He.cT K q).2 = some o ∧ He.emptyTab o = true := by
    intro q hq
    have := x2 q hq
    rw [Bool.and_eq_true] at this
    refine ⟨this.1, ?_⟩
    have t2 := this.2
    revert t2
    cases h.get? (He.cT K q).2 with
    | none => intro t2; cases t2
    | some o => intro t2; exact ⟨o, rfl, t2⟩
  refine ⟨e1, x1, fun q hq => (tb q hq).1, fun q hq => ?_, fun q hq => ?_⟩
  · obtain ⟨_, o, a, b⟩ := tb q hq
    rw [← hK] at a ⊢
    exact He.frT_none a b
  · obtain ⟨_, o, a, b⟩ := tb q hq
    rw [a, He.emptyTab_eq b]
def hookY (m : Nat) (p : Prg) (ex : Frag → Bool) : PySem.W.Hook where
  α := He.AlT × Bool
  obs := fun s => obsY m p ex s.heap.get?
  val := fun w => (He.valT p.fn [] w, true)
  says := (He.hookX m p.fa p.fn [] p.tf ex).says
  of := fun w h e => ⟨_, He.frT_in, saysY_of e⟩
  keeps := (He.hookX m p.fa p.fn [] p.tf ex).keeps
def obY (m : Nat) (p : Prg) (ex : Frag → Bool) (s : SharedT) : He.AlT × Bool := obsY m p ex (HandSHeadRun.getT s)
theorem obY_eq (m : Nat) (p : Prg) (ex : Frag → Bool) (s : SharedT) : obY m p ex s = (hookY m p ex).obs s.abs := by
  show obsY m p ex _ = obsY m p ex _
  rw [show HandSHeadRun.getT s = s.abs.heap.get? from funext (HandSHeadRun.getT_eq s)]
end Pev
set_option autoImplicit false
set_option maxRecDepth 100000
namespace Pq
/-! PevEq: the evaluator by equations without binders. -/
open PySem Pev
/-- what a body runs by -/
structure En where
  call : Calls
  lamc : Nat → (Option (List PD) → FO) → Option (List PD) → FO
  actf : Option (List PD) → FO
  wf : Nat
abbrev Hd := Option (List PD)
def xe (N : En) (e : IE) (s : S) : Out RV := ev N.call N.lamc N.actf e s
def xo (N : En) (e : IE) (s : S) : Out Opd := opdOf e (xe N e s) s
def xt (N : En) (c : IT) (s : S) : Out Bool := tst N.call N.lamc N.actf c s
def xw (N : En) (r : IR) (s : S) : Out (List PD) := walk N.call N.lamc N.actf r s
def xv (N : En) (es : IEs) (s : S) : Out (List Val) := vals N.call N.lamc N.actf es s
def xa (N : En) (es : IEs) (s : S) : Out (List PD) := args N.call N.lamc N.actf es s
def xp (N : En) (e : IO) (s : S) : Out (Option Int) := opt N.call N.lamc N.actf e s
def xs (N : En) (st : IS) (s : S) : SOut := evS N.call N.lamc N.actf N.wf st s
def xb (N : En) (b : IB) (s : S) : SOut := evB N.call N.lamc N.actf N.wf b s
def gs (ρ : List Slot) (i : Nat) : Option Slot := ρ[i]?
def ss (ρ : List Slot) (i : Nat) (x : Slot) : List Slot := ρ.set i x
section
variable {N : En} {ρ : List Slot} {h : Hd} {s : S} {c : Nat}
theorem q_gs0 (a : Slot) (r : List Slot) : gs (a :: r) 0 = some a := rfl
theorem q_gsS (a : Slot) (r : List Slot) (i : Nat) : gs (a :: r) (i + 1) = gs r i := rfl
theorem q_ss0 (a x : Slot) (r : List Slot) : ss (a :: r) 0 x = x :: r := rfl
theorem q_ssS (a x : Slot) (r : List Slot) (i : Nat) : ss (a :: r) (i + 1) x = a :: ss r i x := rfl
/-! operands -/
def opK (i : Nat) (o : Option Slot) (s : S) : Out Opd := match o with
  | some (.own _) => .ok (.slot i) s
  | some (.val v) => .ok (.val v) s
  | _ => .bad
theorem q_opKo (i : Nat) (d : PD) : opK i (some (.own d)) s = .ok (.slot i) s := rfl
theorem q_opKv (i : Nat) (v : Val) : opK i (some (.val v)) s = .ok (.val v) s := rfl
theorem q_xo_var (i : Nat) : xo N (.var i) ⟨ρ, h⟩ = opK i (gs ρ i) ⟨ρ, h⟩ := rfl
def lkK (i : Nat) (o : Option Slot) (s : S) : Out RV := match o with
  | some (.val v) => .ok ⟨v, false⟩ s
  | some (.own d) => .ok ⟨.dat d, false⟩ ⟨ss s.ρ i (.val (.dat d)), s.h⟩
  | _ => .bad
theorem q_lkKv (i : Nat) (v : Val) : lkK i (some (.val v)) s = .ok ⟨v, false⟩ s := rfl
theorem q_lkKo (i : Nat) (d : PD) : lkK i (some (.own d)) ⟨ρ, h⟩ = .ok ⟨.dat d, false⟩ ⟨ss ρ i (.val (.dat d)), h⟩ := rfl
theorem q_xe_var (i : Nat) : xe N (.var i) ⟨ρ, h⟩ = lkK i (gs ρ i) ⟨ρ, h⟩ := rfl
def slD (o : Option Slot) : Option PD := match o with
  | some (.own d) => some d
  | some (.val (.dat d)) => some d
  | _ => none
theorem q_slDo (d : PD) : slD (some (.own d)) = some d := rfl
theorem q_slDv (d : PD) : slD (some (.val (.dat d))) = some d := rfl
theorem q_rvs (i : Nat) : resv ⟨ρ, h⟩ (.slot i) = slD (gs ρ i) := rfl
theorem q_rvd (d : PD) : resv s (.val (.dat d)) = some d := rfl
theorem q_rvh (ds : List PD) : resv ⟨ρ, some ds⟩ (.val .hnd) = some (.list ds) := rfl
def toK (r : Out RV) : Out Opd := r.bind fun x s => .ok (.val x.v) s
theorem q_toK (v : Val) (fr : Bool) : toK (.ok ⟨v, fr⟩ s) = .ok (.val v) s := rfl
theorem q_toKx : toK (.exc c h) = .exc c h := rfl
theorem q_outD (d : PD) (fr : Bool) : outD (some (d, fr)) s = .ok ⟨.dat d, fr⟩ s := rfl
theorem q_outD0 (d : PD) : outD0 (some d) s = .ok ⟨.dat d, false⟩ s := rfl
theorem q_outB (b : Bool) : outB (some b) s = .ok ⟨.dat (.bool b), false⟩ s := rfl
theorem q_ofFO (v : Val) (fr : Bool) : ofFO (.ret v fr h) ρ = .ok ⟨v, fr⟩ ⟨ρ, h⟩ := rfl
theorem q_ofFOx : ofFO (.exc c h) ρ = .exc c h := rfl
theorem q_xe_cst (d : PD) : xe N (.cst d) s = .ok ⟨.dat d, false⟩ s := rfl
theorem q_xo_cst (d : PD) : xo N (.cst d) s = .ok (.val (.dat d)) s := rfl
theorem q_xe_fn (f : Nat) : xe N (.fn f) s = .ok ⟨.fn f, false⟩ s := rfl
theorem q_xo_fn (f : Nat) : xo N (.fn f) s = .ok (.val (.fn f)) s := rfl
/-! two operands -/
def bin1 (N : En) (f : PD → PD → S → Out RV) (b : IE) (r : Out Opd) : Out RV := r.bind fun x s => (xo N b s).bind fun y s => match resv s x, resv s y with
  | some d, some e => f d e s
  | _, _ => .bad
def bin2 (f : PD → PD → S → Out RV) (x : Opd) (r : Out Opd) : Out RV := r.bind fun y s => match resv s x, resv s y with
  | some d, some e => f d e s
  | _, _ => .bad
def bin3 (f : PD → PD → S → Out RV) (d e : Option PD) (s : S) : Out RV := match d, e with
  | some d, some e => f d e s
  | _, _ => .bad
theorem q_bin1 (f : PD → PD → S → Out RV) (b : IE) (x : Opd) : bin1 N f b (.ok x s) = bin2 f x (xo N b s) := rfl
theorem q_bin1x (f : PD → PD → S → Out RV) (b : IE) : bin1 N f b (.exc c h) = .exc c h := rfl
theorem q_bin2 (f : PD → PD → S → Out RV) (x y : Opd) : bin2 f x (.ok y s) = bin3 f (resv s x) (resv s y) s := rfl
theorem q_bin2x (f : PD → PD → S → Out RV) (x : Opd) : bin2 f x (.exc c h) = .exc c h := rfl
theorem q_bin3 (f : PD → PD → S → Out RV) (d e : PD) : bin3 f (some d) (some e) s = f d e s := rfl
def fBin (o : Bo) (d e : PD) (s : S) : Out RV := outD (binop o d e) s
def fCmp (o : Co) (d e : PD) (s : S) : Out RV := outB (cmpop o d e) s
def fSub (d e : PD) (s : S) : Out RV := outD0 (subop d e) s
def fBlt (b : Bf) (d e : PD) (s : S) : Out RV := outD (bltop b [d, e]) s
theorem q_fBin (o : Bo) (d e : PD) : fBin o d e s = outD (binop o d e) s := rfl
theorem q_fCmp (o : Co) (d e : PD) : fCmp o d e s = outB (cmpop o d e) s := rfl
theorem q_fSub (d e : PD) : fSub d e s = outD0 (subop d e) s := rfl
theorem q_fBlt (b : Bf) (d e : PD) : fBlt b d e s = outD (bltop b [d, e]) s := rfl
theorem q_xe_bin (o : Bo) (a b : IE) : xe N (.bin o a b) s = bin1 N (fBin o) b (xo N a s) := rfl
theorem q_xe_cmp (o : Co) (a b : IE) : xe N (.cmp o a b) s = bin1 N (fCmp o) b (xo N a s) := rfl
theorem q_xe_sub (a i : IE) : xe N (.sub a i) s = bin1 N fSub i (xo N a s) := rfl
/-! one operand -/
def una (f : PD → S → Out RV) (r : Out Opd) : Out RV := r.bind fun x s => match resv s x with
  | some d => f d s
  | none => .bad
def una2 (f : PD → S → Out RV) (d : Option PD) (s : S) : Out RV := match d with
  | some d => f d s
  | none => .bad
theorem q_una (f : PD → S → Out RV) (x : Opd) : una f (.ok x s) = una2 f (resv s x) s := rfl
theorem q_unax (f : PD → S → Out RV) : una f (.exc c h) = .exc c h := rfl
theorem q_una2 (f : PD → S → Out RV) (d : PD) : una2 f (some d) s = f d s := rfl
def negD : PD → Option PD
  | .int i => some (.int (-i))
  | _ => none
theorem q_negD (i : Int) : negD (.int i) = some (.int (-i)) := rfl
def fNeg (d : PD) (s : S) : Out RV := outD0 (negD d) s
def fRev (d : PD) (s : S) : Out RV := outD (revop d) s
def fBl1 (b : Bf) (d : PD) (s : S) : Out RV := outD (bltop b [d]) s
theorem q_fNeg (d : PD) : fNeg d s = outD0 (negD d) s := rfl
theorem q_fRev (d : PD) : fRev d s = outD (revop d) s := rfl
theorem q_fBl1 (b : Bf) (d : PD) : fBl1 b d s = outD (bltop b [d]) s := rfl
theorem q_xe_neg (a : IE) : xe N (.neg a) s = una fNeg (xo N a s) := by
  show Out.bind _ _ = _
  unfold una
  congr 1
  funext x s
  show (match resv s x with | some (.int i) => Out.ok (rvD (.int (-i))) s | _ => .bad) = match resv s x with | some d => fNeg d s | none => .bad
  cases resv s x with
  | none => rfl
  | some d => cases d <;> rfl
theorem q_xe_rev (a : IE) : xe N (.rev a) s = una fRev (xo N a s) := by
  show ev _ _ _ _ _ = _
  rw [ev]
  show (xo N a s).bind _ = (xo N a s).bind _
  congr 1
  funext x s
  cases resv s x <;> rfl
theorem q_xe_blt1 (b : Bf) (e : IE) : xe N (.blt b (.cons e .nil)) s = una (fBl1 b) (xo N e s) := by
  show ((xo N e s).bind fun x s => (Out.ok [x] s)).bind (fun xs s => match xs.mapM (resv s) with | some ds => outD (bltop b ds) s | none => .bad) = _
  cases xo N e s with
  | ok x s1 =>
    show (match [x].mapM (resv s1) with | some ds => outD (bltop b ds) s1 | none => .bad) = match resv s1 x with | some d => fBl1 b d s1 | none => .bad
    rw [List.mapM_cons]
    cases resv s1 x <;> rfl
  | _ => rfl
theorem q_xe_blt2 (b : Bf) (e f : IE) : xe N (.blt b (.cons e (.cons f .nil))) s = bin1 N (fBlt b) f (xo N e s) := by
  show ((xo N e s).bind fun x s => ((xo N f s).bind fun y s => (Out.ok [y] s)).bind fun xs s => .ok (x :: xs) s).bind (fun xs s => match xs.mapM (resv s) with | some ds => outD (bltop b ds) s | none => .bad) = _
  cases xo N e s with
  | ok x s1 =>
    show (((xo N f s1).bind fun y s => (Out.ok [y] s)).bind fun xs s => .ok (x :: xs) s).bind _ = (xo N f s1).bind _
    cases xo N f s1 with
    | ok y s2 =>
      show (match [x, y].mapM (resv s2) with | some ds => outD (bltop b ds) s2 | none => .bad) = match resv s2 x, resv s2 y with | some d, some e => fBlt b d e s2 | _, _ => .bad
      rw [List.mapM_cons, List.mapM_cons]
      cases resv s2 x <;> cases resv s2 y <;> rfl
    | _ => rfl
  | _ => rfl
/-! chains -/
def chn1 (N : En) (p q : Co) (b d : IE) (r : Out Opd) : Out RV := r.bind fun x s => (xo N b s).bind fun y s => match resv s x, resv s y with
    | some (.int i), some (.int j) => match cmpop p (.int i) (.int j) with
      | some true => (xo N d s).bind fun z s => match resv s z with
        | some (.int k) => outB (cmpop q (.int j) (.int k)) s
        | _ => .bad
      | some false => .ok (rvD (.bool false)) s
      | none => .bad
    | _, _ => .bad
def chn2 (N : En) (p q : Co) (d : IE) (x : Opd) (r : Out Opd) : Out RV := r.bind fun y s => match resv s x, resv s y with
    | some (.int i), some (.int j) => match cmpop p (.int i) (.int j) with
      | some true => (xo N d s).bind fun z s => match resv s z with
        | some (.int k) => outB (cmpop q (.int j) (.int k)) s
        | _ => .bad
      | some false => .ok (rvD (.bool false)) s
      | none => .bad
    | _, _ => .bad
def chn3 (N : En) (p q : Co) (d : IE) (x y : Option PD) (s : S) : Out RV := match x, y with
    | some (.int i), some (.int j) => match cmpop p (.int i) (.int j) with
      | some true => (xo N d s).bind fun z s => match resv s z with
        | some (.int k) => outB (cmpop q (.int j) (.int k)) s
        | _ => .bad
      | some false => .ok (rvD (.bool false)) s
      | none => .bad
    | _, _ => .bad
def chn4 (N : En) (t : Bool) (q : Co) (d : IE) (j : Int) (s : S) : Out RV := match t with
  | true => (xo N d s).bind fun z s => match resv s z with
        | some (.int k) => outB (cmpop q (.int j) (.int k)) s
        | _ => .bad
  | false => .ok (rvD (.bool false)) s
def chn5 (q : Co) (j : Int) (r : Out Opd) : Out RV := r.bind fun z s => match resv s z with
        | some (.int k) => outB (cmpop q (.int j) (.int k)) s
        | _ => .bad
def chn6 (q : Co) (j : Int) (z : Option PD) (s : S) : Out RV := match z with
        | some (.int k) => outB (cmpop q (.int j) (.int k)) s
        | _ => .bad
theorem q_xe_chn (p q : Co) (a b d : IE) : xe N (.chn p q a b d) s = chn1 N p q b d (xo N a s) := rfl
theorem q_chn1 (p q : Co) (b d : IE) (x : Opd) : chn1 N p q b d (.ok x s) = chn2 N p q d x (xo N b s) := rfl
theorem q_chn2 (p q : Co) (d : IE) (x y : Opd) : chn2 N p q d x (.ok y s) = chn3 N p q d (resv s x) (resv s y) s := rfl
def intCmp (p : Co) (i j : Int) : Bool := match p with
  | .lt => decide (i < j)
  | .le => decide (i ≤ j)
  | .gt => decide (j < i)
  | .ge => decide (j ≤ i)
  | _ => false
theorem q_chn3l (q : Co) (d : IE) (i j : Int) : chn3 N .le q d (some (.int i)) (some (.int j)) s = chn4 N (decide (i ≤ j)) q d j s := by
  show (match (some (decide (i ≤ j)) : Option Bool) with | some true => _ | some false => _ | none => _) = _
  unfold chn4
  cases decide (i ≤ j) <;> rfl
theorem q_chn3t (q : Co) (d : IE) (i j : Int) : chn3 N .lt q d (some (.int i)) (some (.int j)) s = chn4 N (decide (i < j)) q d j s := by
  show (match (some (decide (i < j)) : Option Bool) with | some true => _ | some false => _ | none => _) = _
  unfold chn4
  cases decide (i < j) <;> rfl
theorem q_chn4t (q : Co) (d : IE) (j : Int) : chn4 N true q d j s = chn5 q j (xo N d s) := rfl
theorem q_chn4f (q : Co) (d : IE) (j : Int) : chn4 N false q d j s = .ok ⟨.dat (.bool false), false⟩ s := rfl
theorem q_chn5 (q : Co) (j : Int) (x : Opd) : chn5 q j (.ok x s) = chn6 q j (resv s x) s := rfl
theorem q_chn6 (q : Co) (j k : Int) : chn6 q j (some (.int k)) s = outB (cmpop q (.int j) (.int k)) s := rfl
/-! and, or, not, if else -/
def and1 (N : En) (b : IE) (r : Out RV) : Out RV := r.bind fun x s => match x.v with
    | .dat (.bool true) => xe N b s
    | .dat (.bool false) => .ok (rvD (.bool false)) s
    | _ => .bad
def or1 (N : En) (b : IE) (r : Out RV) : Out RV := r.bind fun x s => match x.v with
    | .dat (.bool true) => .ok (rvD (.bool true)) s
    | .dat (.bool false) => xe N b s
    | _ => .bad
def not1 (r : Out RV) : Out RV := r.bind fun x s => match x.v with
    | .dat (.bool b) => .ok (rvD (.bool (!b))) s
    | _ => .bad
theorem q_xe_and (a b : IE) : xe N (.and a b) s = and1 N b (xe N a s) := rfl
theorem q_and1t (b : IE) (fr : Bool) : and1 N b (.ok ⟨.dat (.bool true), fr⟩ s) = xe N b s := rfl
theorem q_and1f (b : IE) (fr : Bool) : and1 N b (.ok ⟨.dat (.bool false), fr⟩ s) = .ok ⟨.dat (.bool false), false⟩ s := rfl
theorem q_and1x (b : IE) : and1 N b (.exc c h) = .exc c h := rfl
theorem q_xe_or (a b : IE) : xe N (.or a b) s = or1 N b (xe N a s) := rfl
theorem q_or1t (b : IE) (fr : Bool) : or1 N b (.ok ⟨.dat (.bool true), fr⟩ s) = .ok ⟨.dat (.bool true), false⟩ s := rfl
theorem q_or1f (b : IE) (fr : Bool) : or1 N b (.ok ⟨.dat (.bool false), fr⟩ s) = xe N b s := rfl
theorem q_or1x (b : IE) : or1 N b (.exc c h) = .exc c h := rfl
theorem q_xe_not (a : IE) : xe N (.not a) s = not1 (xe N a s) := rfl
theorem q_not1 (b : Bool) (fr : Bool) : not1 (.ok ⟨.dat (.bool b), fr⟩ s) = .ok ⟨.dat (.bool (!b)), false⟩ s := rfl
theorem q_not1x : not1 (.exc c h) = .exc c h := rfl
def ite1 (N : En) (a b : IE) (r : Out Bool) : Out RV := r.bind fun t s => if t then xe N a s else xe N b s
theorem q_xe_ite (t : IT) (a b : IE) : xe N (.ite t a b) s = ite1 N a b (xt N t s) := rfl
theorem q_ite1t (a b : IE) : ite1 N a b (.ok true s) = xe N a s := rfl
theorem q_ite1f (a b : IE) : ite1 N a b (.ok false s) = xe N b s := rfl
theorem q_ite1x (a b : IE) : ite1 N a b (.exc c h) = .exc c h := rfl
/-! displays -/
def tup1 (r : Out (List PD)) : Out RV := r.bind fun ds s => .ok (rvD (.tuple ds)) s
def lst1 (r : Out (List PD)) : Out RV := r.bind fun ds s => .ok (rvD (.list ds) true) s
theorem q_xe_tup (es : IEs) : xe N (.tup es) s = tup1 (xa N es s) := rfl
theorem q_tup1 (ds : List PD) : tup1 (.ok ds s) = .ok ⟨.dat (.tuple ds), false⟩ s := rfl
theorem q_tup1x : tup1 (.exc c h) = .exc c h := rfl
theorem q_xe_lst (es : IEs) : xe N (.lst es) s = lst1 (xa N es s) := rfl
theorem q_lst1 (ds : List PD) : lst1 (.ok ds s) = .ok ⟨.dat (.list ds), true⟩ s := rfl
theorem q_lst1x : lst1 (.exc c h) = .exc c h := rfl
theorem q_xe_dnil : xe N .dnil s = .ok ⟨.dat (.dict []), true⟩ s := rfl
def dic1 (N : En) (b : IE) (r : Out RV) : Out RV := r.bind fun x s => (xe N b s).bind fun y s => match x.v, y.v with
    | .dat d, .dat e => if isKey d then .ok (rvD (.dict [(d, e)]) true) s else if iKey d then .ok (rvD (.dict [(d, e)])) s else .bad
    | _, _ => .bad
def dic2 (v : Val) (r : Out RV) : Out RV := r.bind fun y s => match v, y.v with
    | .dat d, .dat e => if isKey d then .ok (rvD (.dict [(d, e)]) true) s else if iKey d then .ok (rvD (.dict [(d, e)])) s else .bad
    | _, _ => .bad
theorem q_xe_dic (a b : IE) : xe N (.dic a b) s = dic1 N b (xe N a s) := rfl
theorem q_dic1 (b : IE) (v : Val) (fr : Bool) : dic1 N b (.ok ⟨v, fr⟩ s) = dic2 v (xe N b s) := rfl
theorem q_dic2 {d e : PD} {fr : Bool} (k : isKey d = true) : dic2 (.dat d) (.ok ⟨.dat e, fr⟩ s) = .ok ⟨.dat (.dict [(d, e)]), true⟩ s := by
  show (if isKey d then _ else _) = _
  rw [if_pos k]; rfl
/-! values of arguments -/
def vs1 (N : En) (es : IEs) (r : Out RV) : Out (List Val) := r.bind fun x s => (xv N es s).bind fun xs s => .ok (x.v :: xs) s
def vs2 (v : Val) (r : Out (List Val)) : Out (List Val) := r.bind fun xs s => .ok (v :: xs) s
theorem q_dic3 {i : Int} {e : PD} {fr : Bool} : dic2 (.dat (.int i)) (.ok ⟨.dat e, fr⟩ s) = .ok ⟨.dat (.dict [(.int i, e)]), false⟩ s := rfl
theorem q_xv0 : xv N .nil s = .ok [] s := rfl
theorem q_xv (e : IE) (es : IEs) : xv N (.cons e es) s = vs1 N es (xe N e s) := rfl
theorem q_vs1 (es : IEs) (v : Val) (fr : Bool) : vs1 N es (.ok ⟨v, fr⟩ s) = vs2 v (xv N es s) := rfl
theorem q_vs1x (es : IEs) : vs1 N es (.exc c h) = .exc c h := rfl
theorem q_vs2 (v : Val) (vs : List Val) : vs2 v (.ok vs s) = .ok (v :: vs) s := rfl
theorem q_vs2x (v : Val) : vs2 v (.exc c h) = .exc c h := rfl
def as1 (N : En) (es : IEs) (r : Out RV) : Out (List PD) := r.bind fun x s => (xa N es s).bind fun xs s => match x.v with
    | .dat d => .ok (d :: xs) s
    | _ => .bad
def as2 (v : Val) (r : Out (List PD)) : Out (List PD) := r.bind fun xs s => match v with
    | .dat d => .ok (d :: xs) s
    | _ => .bad
theorem q_xa0 : xa N .nil s = .ok [] s := rfl
theorem q_xa (e : IE) (es : IEs) : xa N (.cons e es) s = as1 N es (xe N e s) := rfl
theorem q_as1 (es : IEs) (v : Val) (fr : Bool) : as1 N es (.ok ⟨v, fr⟩ s) = as2 v (xa N es s) := rfl
theorem q_as1x (es : IEs) : as1 N es (.exc c h) = .exc c h := rfl
theorem q_as2 (d : PD) (vs : List PD) : as2 (.dat d) (.ok vs s) = .ok (d :: vs) s := rfl
theorem q_as2x (v : Val) : as2 v (.exc c h) = .exc c h := rfl
/-! slices -/
def opt1 (r : Out RV) : Out (Option Int) := r.bind fun x s => match x.v with
    | .dat (.int i) => .ok (some i) s
    | _ => .bad
theorem q_xp0 : xp N .no s = .ok none s := rfl
theorem q_xp (e : IE) : xp N (.yes e) s = opt1 (xe N e s) := rfl
theorem q_opt1 (i : Int) (fr : Bool) : opt1 (.ok ⟨.dat (.int i), fr⟩ s) = .ok (some i) s := rfl
def slc1 (N : En) (lo hi : IO) (r : Out Opd) : Out RV := r.bind fun x s => (xp N lo s).bind fun l s => (xp N hi s).bind fun u s => match resv s x with
    | some d => outD (slcop d l u) s
    | _ => .bad
def slc2 (N : En) (x : Opd) (hi : IO) (r : Out (Option Int)) : Out RV := r.bind fun l s => (xp N hi s).bind fun u s => match resv s x with
    | some d => outD (slcop d l u) s
    | _ => .bad
def slc3 (x : Opd) (l : Option Int) (r : Out (Option Int)) : Out RV := r.bind fun u s => match resv s x with
    | some d => outD (slcop d l u) s
    | _ => .bad
def slc4 (d : Option PD) (l u : Option Int) (s : S) : Out RV := match d with
    | some d => outD (slcop d l u) s
    | _ => .bad
theorem q_xe_slc (a : IE) (lo hi : IO) : xe N (.slc a lo hi) s = slc1 N lo hi (xo N a s) := by
  show ev _ _ _ _ _ = _
  rw [ev]; rfl
theorem q_slc1 (x : Opd) (lo hi : IO) : slc1 N lo hi (.ok x s) = slc2 N x hi (xp N lo s) := rfl
theorem q_slc2 (x : Opd) (hi : IO) (l : Option Int) : slc2 N x hi (.ok l s) = slc3 x l (xp N hi s) := rfl
theorem q_slc3 (x : Opd) (l u : Option Int) : slc3 x l (.ok u s) = slc4 (resv s x) l u s := rfl
theorem q_slc4 (d : PD) (l u : Option Int) : slc4 (some d) l u s = outD (slcop d l u) s := rfl
/-! calls -/
def call1 (N : En) (f : Nat) (r : Out (List Val)) : Out RV := r.bind fun vs s => ofFO (N.call f vs s.h) s.ρ
theorem q_xe_call (f : Nat) (es : IEs) : xe N (.call f es) s = call1 N f (xv N es s) := rfl
theorem q_call1 (f : Nat) (vs : List Val) : call1 N f (.ok vs ⟨ρ, h⟩) = ofFO (N.call f vs h) ρ := rfl
theorem q_call1x (f : Nat) : call1 N f (.exc c h) = .exc c h := rfl
def calv1 (N : En) (es : IEs) (o : Option Slot) (s : S) : Out RV := match o with
  | some (.val (.fn f)) => call1 N f (xv N es s)
  | _ => .bad
theorem q_calv1 (es : IEs) (f : Nat) : calv1 N es (some (.val (.fn f))) s = call1 N f (xv N es s) := rfl
theorem q_xe_calv (i : Nat) (es : IEs) : xe N (.calv i es) ⟨ρ, h⟩ = calv1 N es (gs ρ i) ⟨ρ, h⟩ := by
  show ev _ _ _ _ _ = _
  rw [ev]
  show (match gs ρ i with | some (.val (.fn f)) => call1 N f (xv N es ⟨ρ, h⟩) | _ => .bad) = _
  unfold calv1
  rfl
def mth1 (N : En) (m : Mt) (e : IE) (r : Out Opd) : Out RV := r.bind fun x s => if mthd m (resv s x) then (xo N e s).bind fun y s => match resv s x, resv s y with
      | some d, some d' => outD0 (mthop m d [d']) s
      | _, _ => .bad
    else .bad
def mth2 (m : Mt) (x : Opd) (r : Out Opd) : Out RV := r.bind fun y s => match resv s x, resv s y with
      | some d, some d' => outD0 (mthop m d [d']) s
      | _, _ => .bad
def fMth (m : Mt) (d e : PD) (s : S) : Out RV := outD0 (mthop m d [e]) s
theorem q_fMth (m : Mt) (d e : PD) : fMth m d e s = outD0 (mthop m d [e]) s := rfl
theorem q_xe_mth (m : Mt) (a e : IE) : xe N (.mth m a (.cons e .nil)) s = mth1 N m e (xo N a s) := by
  show ev _ _ _ _ _ = _
  rw [ev]
  show (xo N a s).bind _ = _
  unfold mth1
  congr 1
  funext x s
  cases hm : mthd m (resv s x) with
  | false => rfl
  | true =>
    simp only [if_true]
    show ((xo N e s).bind fun y s => (Out.ok [y] s)).bind _ = (xo N e s).bind _
    cases xo N e s with
    | ok y s2 =>
      show (match resv s2 x, [y].mapM (resv s2) with | some d, some ds => outD0 (mthop m d ds) s2 | _, _ => .bad) = _
      rw [List.mapM_cons]
      show _ = match resv s2 x, resv s2 y with | some d, some d' => outD0 (mthop m d [d']) s2 | _, _ => .bad
      cases resv s2 x <;> cases resv s2 y <;> rfl
    | _ => rfl
theorem q_mth1 {m : Mt} {e : IE} {x : Opd} (k : mthd m (resv s x) = true) : mth1 N m e (.ok x s) = bin2 (fMth m) x (xo N e s) := by
  show (if _ then _ else _) = _
  rw [if_pos k]; rfl
theorem q_mthc (xs : List PD) : mthd .count (some (.list xs)) = true := id rfl
theorem q_mthg {kvs : List (PD × PD)} (k : tkeys kvs = true) : mthd .get2 (some (.dict kvs)) = true := k
def get1 (N : En) (e f : IE) (r : Out Opd) : Out RV := r.bind fun x s => if mthd .get2 (resv s x) then (xo N e s).bind fun y s => (xo N f s).bind fun z s => match resv s x, resv s y, resv s z with
      | some d, some d', some d'' => outD0 (mthop .get2 d [d', d'']) s
      | _, _, _ => .bad
    else .bad
def get2 (N : En) (f : IE) (x : Opd) (r : Out Opd) : Out RV := r.bind fun y s => (xo N f s).bind fun z s => match resv s x, resv s y, resv s z with
      | some d, some d', some d'' => outD0 (mthop .get2 d [d', d'']) s
      | _, _, _ => .bad
def get3 (x y : Opd) (r : Out Opd) : Out RV := r.bind fun z s => match resv s x, resv s y, resv s z with
      | some d, some d', some d'' => outD0 (mthop .get2 d [d', d'']) s
      | _, _, _ => .bad
def get4 (x y z : Option PD) (s : S) : Out RV := match x, y, z with
      | some d, some d', some d'' => outD0 (mthop .get2 d [d', d'']) s
      | _, _, _ => .bad
theorem q_xe_get (a e f : IE) : xe N (.mth .get2 a (.cons e (.cons f .nil))) s = get1 N e f (xo N a s) := by
  show ev _ _ _ _ _ = _
  rw [ev]
  show (xo N a s).bind _ = _
  unfold get1
  congr 1
  funext x s
  cases hm : mthd .get2 (resv s x) with
  | false => rfl
  | true =>
    simp only [if_true]
    show ((xo N e s).bind fun y s => ((xo N f s).bind fun z s => (Out.ok [z] s)).bind fun xs s => .ok (y :: xs) s).bind _ = (xo N e s).bind _
    cases xo N e s with
    | ok y s2 =>
      show (((xo N f s2).bind fun z s => (Out.ok [z] s)).bind fun xs s => .ok (y :: xs) s).bind _ = (xo N f s2).bind _
      cases xo N f s2 with
      | ok z s3 =>
        show (match resv s3 x, [y, z].mapM (resv s3) with | some d, some ds => outD0 (mthop .get2 d ds) s3 | _, _ => .bad) = _
        rw [List.mapM_cons, List.mapM_cons]
        show _ = match resv s3 x, resv s3 y, resv s3 z with | some d, some d', some d'' => outD0 (mthop .get2 d [d', d'']) s3 | _, _, _ => .bad
        cases resv s3 x <;> cases resv s3 y <;> cases resv s3 z <;> rfl
      | _ => rfl
    | _ => rfl
theorem q_get1 {e f : IE} {x : Opd} (k : mthd .get2 (resv s x) = true) : get1 N e f (.ok x s) = get2 N f x (xo N e s) := by
  show (if _ then _ else _) = _
  rw [if_pos k]; rfl
theorem q_get2 (f : IE) (x y : Opd) : get2 N f x (.ok y s) = get3 x y (xo N f s) := rfl
theorem q_get3 (x y z : Opd) : get3 x y (.ok z s) = get4 (resv s x) (resv s y) (resv s z) s := rfl
theorem q_get4 (x y z : PD) : get4 (some x) (some y) (some z) s = outD0 (mthop .get2 x [y, z]) s := rfl
def isx1 (cs : List Bool) (o : Option Slot) (s : S) : Out RV := match o with
  | some (.val (.exn n)) => .ok (rvD (.bool (cs.getD n (cs.headD false)))) s
  | _ => .bad
theorem q_xe_isx (i : Nat) (cs : List Bool) : xe N (.isx i cs) ⟨ρ, h⟩ = isx1 cs (gs ρ i) ⟨ρ, h⟩ := rfl
theorem q_isx1 (cs : List Bool) (n : Nat) : isx1 cs (some (.val (.exn n))) s = .ok ⟨.dat (.bool (cs.getD n (cs.headD false))), false⟩ s := rfl
def act1 (N : En) (o : Option Slot) (s : S) : Out RV := match o with
  | some (.val .lmb) => ofFO (N.actf s.h) s.ρ
  | _ => .bad
theorem q_xe_act (i : Nat) : xe N (.act i) ⟨ρ, h⟩ = act1 N (gs ρ i) ⟨ρ, h⟩ := rfl
theorem q_act1 : act1 N (some (.val .lmb)) ⟨ρ, h⟩ = ofFO (N.actf h) ρ := rfl
def lam1 (o : FO) (ρ : List Slot) : Out RV := match o with
  | .exc _ _ => .bad
  | o => ofFO o ρ
theorem q_lam1 (v : Val) (fr : Bool) : lam1 (.ret v fr h) ρ = .ok ⟨v, fr⟩ ⟨ρ, h⟩ := rfl
/-- the closure of a lambda -/
def clo (N : En) (b : IE) (ρ : List Slot) (h : Hd) : FO := toFO (xe N b ⟨ρ.map dropOwn, h⟩)
theorem q_xe_lam (f : Nat) (b : IE) : xe N (.lam f b) ⟨ρ, h⟩ = lam1 (N.lamc f (clo N b ρ) h) ρ := by
  show ev _ _ _ _ _ = _
  rw [ev]
  unfold lam1
  show (match N.lamc f (clo N b ρ) h with | .exc _ _ => Out.bad | o => ofFO o ρ) = _
  cases N.lamc f (clo N b ρ) h <;> rfl
theorem q_toFO (d : PD) (fr : Bool) : toFO (.ok ⟨.dat d, fr⟩ ⟨ρ, h⟩) = .ret (.dat d) fr h := rfl
theorem q_toFOx : toFO (.exc c h) = .exc c h := rfl
def pop1 (i : Nat) (o : Option Slot) (s : S) : Out RV := match o with
    | some (.own (.list xs)) => match xs.getLast? with
      | some y => .ok (rvD y) { s with ρ := s.ρ.set i (.own (.list xs.dropLast)) }
      | none => .bad
    | _ => .bad
theorem q_xe_pop0 (i : Nat) : xe N (.pop0 i) ⟨ρ, h⟩ = pop1 i (gs ρ i) ⟨ρ, h⟩ := rfl
theorem q_pop1 {i : Nat} {xs : List PD} {y : PD} (e : xs.getLast? = some y) : pop1 i (some (.own (.list xs))) ⟨ρ, h⟩ = .ok ⟨.dat y, false⟩ ⟨ss ρ i (.own (.list xs.dropLast)), h⟩ := by
  unfold pop1
  simp only [e]
  rfl
def popk1 (i : Nat) (r : Out RV) : Out RV := r.bind fun x s => match x.v, s.ρ[i]? with
      | .dat (.int j), some (.own (.list xs)) => if -100000 ≤ j ∧ j ≤ 100000 then match ixAt xs j with
          | some n => match xs[n]? with
            | some y => .ok (rvD y) { s with ρ := s.ρ.set i (.own (.list (xs.eraseIdx n))) }
            | none => .bad
          | none => .bad
        else .bad
      | _, _ => .bad
theorem q_xe_pop {i : Nat} {k : IE} (e : isOwnL i ⟨ρ, h⟩ = true) : xe N (.pop i k) ⟨ρ, h⟩ = popk1 i (xe N k ⟨ρ, h⟩) := by
  show ev _ _ _ _ _ = _
  rw [ev, if_pos e]; rfl
theorem popk_ok {i : Nat} {xs : List PD} {j : Int} {fr : Bool} {n : Nat} {y : PD} (e : gs ρ i = some (.own (.list xs))) (hb : -100000 ≤ j ∧ j ≤ 100000) (hn : ixAt xs j = some n) (hy : xs[n]? = some y) : popk1 i (.ok ⟨.dat (.int j), fr⟩ ⟨ρ, h⟩) = .ok ⟨.dat y, false⟩ ⟨ss ρ i (.own (.list (xs.eraseIdx n))), h⟩ := by
  unfold gs at e
  unfold popk1
  simp only [Out.bind, e, if_pos hb, hn, hy]
  rfl
def ownL (o : Option Slot) : Bool := match o with
  | some (.own (.list _)) => true
  | _ => false
theorem q_isOwnL (i : Nat) : isOwnL i ⟨ρ, h⟩ = ownL (gs ρ i) := id rfl
theorem q_ownL (xs : List PD) : ownL (some (.own (.list xs))) = true := id rfl
def scu1 (n : Nat) (o : Option Slot) (s : S) : Out RV := match o with
  | some (.val (.scr ns)) => .ok (rvD (.list ((ns.take n).map .int)) true) s
  | _ => .bad
theorem q_xe_scut (i n : Nat) : xe N (.scut i n) ⟨ρ, h⟩ = scu1 n (gs ρ i) ⟨ρ, h⟩ := rfl
theorem q_scu1 (n : Nat) (ns : List Int) : scu1 n (some (.val (.scr ns))) s = .ok ⟨.dat (.list ((ns.take n).map .int)), true⟩ s := rfl
/-! what is walked -/
def seq1 (r : Out RV) : Out (List PD) := r.bind fun x s => match x.v with
    | .dat d => match seqOf d with
      | some ds => .ok ds s
      | none => .bad
    | _ => .bad
theorem q_xw_seq (e : IE) : xw N (.seq e) s = seq1 (xe N e s) := rfl
theorem q_seq1l (ds : List PD) (fr : Bool) : seq1 (.ok ⟨.dat (.list ds), fr⟩ s) = .ok ds s := rfl
theorem q_seq1t (ds : List PD) (fr : Bool) : seq1 (.ok ⟨.dat (.tuple ds), fr⟩ s) = .ok ds s := rfl
def rng1 (r : Out RV) : Out (List PD) := r.bind fun x s => match x.v with
    | .dat (.int n) => if n ≤ 100000 ∧ -100000 ≤ n then .ok (rngD 0 n.toNat) s else .bad
    | _ => .bad
theorem q_xw_rng1 (e : IE) : xw N (.rng1 e) s = rng1 (xe N e s) := rfl
theorem q_rng1 {n : Int} {fr : Bool} (k : n ≤ 100000 ∧ -100000 ≤ n) : rng1 (.ok ⟨.dat (.int n), fr⟩ s) = .ok (rngD 0 n.toNat) s := by
  show (if _ then _ else _) = _
  rw [if_pos k]
def rng2a (N : En) (b : IE) (r : Out RV) : Out (List PD) := r.bind fun x s => (xe N b s).bind fun y s => match x.v, y.v with
    | .dat (.int lo), .dat (.int n) => if n ≤ 100000 ∧ -100000 ≤ n ∧ -100000 ≤ lo ∧ lo ≤ 100000 then .ok (rngD lo (n - lo).toNat) s else .bad
    | _, _ => .bad
def rng2b (v : Val) (r : Out RV) : Out (List PD) := r.bind fun y s => match v, y.v with
    | .dat (.int lo), .dat (.int n) => if n ≤ 100000 ∧ -100000 ≤ n ∧ -100000 ≤ lo ∧ lo ≤ 100000 then .ok (rngD lo (n - lo).toNat) s else .bad
    | _, _ => .bad
theorem q_xw_rng2 (a b : IE) : xw N (.rng2 a b) s = rng2a N b (xe N a s) := rfl
theorem q_rng2a (b : IE) (v : Val) (fr : Bool) : rng2a N b (.ok ⟨v, fr⟩ s) = rng2b v (xe N b s) := rfl
theorem q_rng2b {lo n : Int} {fr : Bool} (k : n ≤ 100000 ∧ -100000 ≤ n ∧ -100000 ≤ lo ∧ lo ≤ 100000) : rng2b (.dat (.int lo)) (.ok ⟨.dat (.int n), fr⟩ s) = .ok (rngD lo (n - lo).toNat) s := by
  show (if _ then _ else _) = _
  rw [if_pos k]
def enm1 (r : Out RV) : Out (List PD) := r.bind fun x s => match x.v with
    | .dat (.list ds) => .ok (enumD 0 ds) s
    | .dat (.tuple ds) => .ok (enumD 0 ds) s
    | _ => .bad
theorem q_xw_enm (e : IE) : xw N (.enm e) s = enm1 (xe N e s) := rfl
theorem q_enm1 (ds : List PD) (fr : Bool) : enm1 (.ok ⟨.dat (.list ds), fr⟩ s) = .ok (enumD 0 ds) s := rfl
theorem q_enm1t (ds : List PD) (fr : Bool) : enm1 (.ok ⟨.dat (.tuple ds), fr⟩ s) = .ok (enumD 0 ds) s := rfl
def zip1 (N : En) (b : IE) (r : Out RV) : Out (List PD) := r.bind fun x s => (xe N b s).bind fun y s => match x.v, y.v with
    | .dat (.list ds), .dat (.list es) => .ok (zipD ds es) s
    | .dat (.tuple ds), .dat (.tuple es) => .ok (zipD ds es) s
    | _, _ => .bad
def zip2 (v : Val) (r : Out RV) : Out (List PD) := r.bind fun y s => match v, y.v with
    | .dat (.list ds), .dat (.list es) => .ok (zipD ds es) s
    | .dat (.tuple ds), .dat (.tuple es) => .ok (zipD ds es) s
    | _, _ => .bad
theorem q_xw_zip (a b : IE) : xw N (.zip a b) s = zip1 N b (xe N a s) := rfl
theorem q_zip1 (b : IE) (v : Val) (fr : Bool) : zip1 N b (.ok ⟨v, fr⟩ s) = zip2 v (xe N b s) := rfl
theorem q_zip2l (ds es : List PD) (fr : Bool) : zip2 (.dat (.list ds)) (.ok ⟨.dat (.list es), fr⟩ s) = .ok (zipD ds es) s := rfl
theorem q_zip2t (ds es : List PD) (fr : Bool) : zip2 (.dat (.tuple ds)) (.ok ⟨.dat (.tuple es), fr⟩ s) = .ok (zipD ds es) s := rfl
/-! tests -/
theorem q_xt_yes : xt N .yes s = .ok true s := rfl
def tand (N : En) (b : IT) (r : Out Bool) : Out Bool := r.bind fun t s => if t then xt N b s else .ok false s
def tor (N : En) (b : IT) (r : Out Bool) : Out Bool := r.bind fun t s => if t then .ok true s else xt N b s
def tnot (r : Out Bool) : Out Bool := r.bind fun t s => .ok (!t) s
theorem q_xt_and (a b : IT) : xt N (.and a b) s = tand N b (xt N a s) := rfl
theorem q_tandt (b : IT) : tand N b (.ok true s) = xt N b s := rfl
theorem q_tandf (b : IT) : tand N b (.ok false s) = .ok false s := rfl
theorem q_tandx (b : IT) : tand N b (.exc c h) = .exc c h := rfl
theorem q_xt_or (a b : IT) : xt N (.or a b) s = tor N b (xt N a s) := rfl
theorem q_tort (b : IT) : tor N b (.ok true s) = .ok true s := rfl
theorem q_torf (b : IT) : tor N b (.ok false s) = xt N b s := rfl
theorem q_torx (b : IT) : tor N b (.exc c h) = .exc c h := rfl
theorem q_xt_not (a : IT) : xt N (.not a) s = tnot (xt N a s) := rfl
theorem q_tnot (b : Bool) : tnot (.ok b s) = .ok (!b) s := rfl
theorem q_tnotx : tnot (.exc c h) = .exc c h := rfl
def tval (r : Out Opd) : Out Bool := r.bind fun x s => match resv s x with
    | some d => match truthD d with
      | some b => .ok b s
      | none => .bad
    | none => .bad
def tval2 (d : Option PD) (s : S) : Out Bool := match d with
    | some d => match truthD d with
      | some b => .ok b s
      | none => .bad
    | none => .bad
def tval3 (b : Option Bool) (s : S) : Out Bool := match b with
      | some b => .ok b s
      | none => .bad
theorem q_xt_val (e : IE) : xt N (.val e) s = tval (xo N e s) := rfl
theorem q_tval (x : Opd) : tval (.ok x s) = tval2 (resv s x) s := rfl
theorem q_tvalx : tval (.exc c h) = .exc c h := rfl
theorem q_tval2 (d : PD) : tval2 (some d) s = tval3 (truthD d) s := rfl
theorem q_tval3 (b : Bool) : tval3 (some b) s = .ok b s := rfl
theorem q_trB (b : Bool) : truthD (.bool b) = some b := rfl
theorem q_trI (i : Int) : truthD (.int i) = some (i != 0) := rfl
theorem q_trN : truthD .none = some false := rfl
theorem q_trL (xs : List PD) : truthD (.list xs) = some (!xs.isEmpty) := rfl
theorem q_trT (xs : List PD) : truthD (.tuple xs) = some (!xs.isEmpty) := rfl
/-! comprehensions -/
def lcB (N : En) (elt : IE) (ifs : IT) (s : S) : Out (Option PD) := (xt N ifs s).bind fun t s => if t then (xe N elt s).bind fun x s => match x.v with
        | .dat d => .ok (some d) s
        | _ => .bad
      else .ok none s
def lcB1 (N : En) (elt : IE) (r : Out Bool) : Out (Option PD) := r.bind fun t s => if t then (xe N elt s).bind fun x s => match x.v with
        | .dat d => .ok (some d) s
        | _ => .bad
      else .ok none s
def lcB2 (r : Out RV) : Out (Option PD) := r.bind fun x s => match x.v with
        | .dat d => .ok (some d) s
        | _ => .bad
theorem q_lcB (elt : IE) (ifs : IT) : lcB N elt ifs s = lcB1 N elt (xt N ifs s) := rfl
theorem q_lcB1t (elt : IE) : lcB1 N elt (.ok true s) = lcB2 (xe N elt s) := rfl
theorem q_lcB1f (elt : IE) : lcB1 N elt (.ok false s) = .ok none s := rfl
theorem q_lcB2 (d : PD) (fr : Bool) : lcB2 (.ok ⟨.dat d, fr⟩ s) = .ok (some d) s := rfl
def lc3 (own : List Nat) (r : Out (Option PD)) : Out (Option PD) := match r with
  | .ok y s => .ok y ⟨wipeS s.ρ own, s.h⟩
  | _ => .bad
theorem q_lc3 (own : List Nat) (y : Option PD) : lc3 own (.ok y ⟨ρ, h⟩) = .ok y ⟨wipeS ρ own, h⟩ := rfl
def lc4 (N : En) (elt : IE) (ifs : IT) (o : Option S) : Out (Option PD) := match o with
  | some s => lcB N elt ifs s
  | none => .bad
theorem q_lc4 (elt : IE) (ifs : IT) : lc4 N elt ifs (some s) = lcB N elt ifs s := rfl
/-- one step of a comprehension -/
def lcS (N : En) (elt : IE) (ifs : IT) (tg : Tgt) (own : List Nat) (d : PD) (s : S) : Out (Option PD) := lc3 own (lc4 N elt ifs (assignT tg d s))
theorem q_lcS (elt : IE) (ifs : IT) (tg : Tgt) (own : List Nat) (d : PD) : lcS N elt ifs tg own d s = lc3 own (lc4 N elt ifs (assignT tg d s)) := rfl
/-- a comprehension's loop -/
def lcL (N : En) (elt : IE) (ifs : IT) (tg : Tgt) (own : List Nat) (ds acc : List PD) (s : S) : Out (List PD) := lcLoop (lcB N elt ifs) tg own ds acc s
theorem lcL_nil (elt : IE) (ifs : IT) (tg : Tgt) (own : List Nat) (acc : List PD) : lcL N elt ifs tg own [] acc s = .ok acc s := rfl
theorem lcL_cons (elt : IE) (ifs : IT) (tg : Tgt) (own : List Nat) (d : PD) (ds acc : List PD) : lcL N elt ifs tg own (d :: ds) acc s = (lcS N elt ifs tg own d s).bind fun y s => lcL N elt ifs tg own ds (acc ++ y.toList) s := by
  unfold lcL
  rw [lcLoop]
  unfold lcS lc4 lc3
  cases assignT tg d s with
  | none => rfl
  | some s1 =>
    simp only
    cases hb : lcB N elt ifs s1 with
    | ok y s2 =>
      cases y with
      | none => simp [Out.bind]
      | some y => simp [Out.bind]
    | _ => rfl
def lc1 (N : En) (elt : IE) (ifs : IT) (tg : Tgt) (own : List Nat) (r : Out (List PD)) : Out RV := r.bind fun ds s => if own.all (noOwnAt s.ρ) && decide (ds.length ≤ 100000) then
    (lcL N elt ifs tg own ds [] { s with ρ := wipeS s.ρ own }).bind fun ys s' => .ok (rvD (.list ys) true) { s' with ρ := unwipe s.ρ s'.ρ own }
    else .bad
def lc2 (ρ : List Slot) (own : List Nat) (r : Out (List PD)) : Out RV := r.bind fun ys s' => .ok (rvD (.list ys) true) { s' with ρ := unwipe ρ s'.ρ own }
theorem q_xe_lc (elt : IE) (ifs : IT) (tg : Tgt) (own : List Nat) (src : IR) : xe N (.lc elt tg src ifs own) s = lc1 N elt ifs tg own (xw N src s) := by
  show ev _ _ _ _ _ = _
  rw [ev]; rfl
theorem q_lc1 {elt : IE} {ifs : IT} {tg : Tgt} {own : List Nat} {ds : List PD} (ho : own.all (noOwnAt ρ) = true) (hl : ds.length ≤ 100000) : lc1 N elt ifs tg own (.ok ds ⟨ρ, h⟩) = lc2 ρ own (lcL N elt ifs tg own ds [] ⟨wipeS ρ own, h⟩) := by
  show (if _ then _ else _) = _
  rw [if_pos (by rw [ho, decide_eq_true hl]; rfl)]
  rfl
theorem q_lc1x (elt : IE) (ifs : IT) (tg : Tgt) (own : List Nat) : lc1 N elt ifs tg own (.exc c h) = .exc c h := rfl
theorem q_lc2 (ρ0 : List Slot) (own : List Nat) (ys : List PD) : lc2 ρ0 own (.ok ys ⟨ρ, h⟩) = .ok ⟨.dat (.list ys), true⟩ ⟨unwipe ρ0 ρ own, h⟩ := rfl
theorem q_nw0 : ([] : List Nat).all (noOwnAt ρ) = true := id rfl
def nwO (o : Option Slot) : Bool := match o with
  | some (.own _) => false
  | _ => true
theorem q_nw1 (i : Nat) (r : List Nat) : (i :: r).all (noOwnAt ρ) = (nwO (gs ρ i) && r.all (noOwnAt ρ)) := id rfl
theorem q_nwv (v : Val) : nwO (some (.val v)) = true := id rfl
theorem q_nwe : nwO (some .emp) = true := id rfl
theorem q_wp0 : wipeS ρ [] = ρ := rfl
theorem q_wp1 (i : Nat) (r : List Nat) : wipeS ρ (i :: r) = wipeS (ss ρ i .emp) r := rfl
def sgE (o : Option Slot) : Slot := o.getD .emp
theorem q_sgE (x : Slot) : sgE (some x) = x := rfl
theorem q_uw0 (ρ0 : List Slot) : unwipe ρ0 ρ [] = ρ := rfl
theorem q_uw1 (ρ0 : List Slot) (i : Nat) (r : List Nat) : unwipe ρ0 ρ (i :: r) = unwipe ρ0 (ss ρ i (sgE (gs ρ0 i))) r := rfl
theorem q_as_nm (i : Nat) (d : PD) : assignT (.nm i) d ⟨ρ, h⟩ = some ⟨ss ρ i (.val (.dat d)), h⟩ := rfl
theorem q_as_tp2 (i j : Nat) (d e : PD) : assignT (.tp [i, j]) (.tuple [d, e]) ⟨ρ, h⟩ = some ⟨ss (ss ρ i (.val (.dat d))) j (.val (.dat e)), h⟩ := rfl
theorem q_as_tp3 (i j k : Nat) (d e f : PD) : assignT (.tp [i, j, k]) (.tuple [d, e, f]) ⟨ρ, h⟩ = some ⟨ss (ss (ss ρ i (.val (.dat d))) j (.val (.dat e))) k (.val (.dat f)), h⟩ := rfl
theorem q_as_tp4 (i j k l : Nat) (d e f g : PD) : assignT (.tp [i, j, k, l]) (.tuple [d, e, f, g]) ⟨ρ, h⟩ = some ⟨ss (ss (ss (ss ρ i (.val (.dat d))) j (.val (.dat e))) k (.val (.dat f))) l (.val (.dat g)), h⟩ := rfl
/-! statements -/
def seqK (N : En) (b : IB) (r : SOut) : SOut := r.bind fun s => xb N b s
theorem q_xb0 : xb N .nil s = .nxt s := rfl
theorem q_xb (st : IS) (b : IB) : xb N (.cons st b) s = seqK N b (xs N st s) := rfl
theorem q_seqn (b : IB) : seqK N b (.nxt s) = xb N b s := rfl
theorem q_seqr (b : IB) (x : RV) : seqK N b (.ret x s) = .ret x s := rfl
theorem q_seqx (b : IB) : seqK N b (.exc c h) = .exc c h := rfl
def asg1 (i : Nat) (r : Out RV) : SOut := r.bindS fun x s => .nxt (store i x s)
theorem q_xs_asg (i : Nat) (e : IE) : xs N (.asg (.nm i) e) s = asg1 i (xe N e s) := rfl
theorem q_asg1t (i : Nat) (d : PD) : asg1 i (.ok ⟨.dat d, true⟩ ⟨ρ, h⟩) = .nxt ⟨ss ρ i (.own d), h⟩ := rfl
theorem q_asg1f (i : Nat) (v : Val) : asg1 i (.ok ⟨v, false⟩ ⟨ρ, h⟩) = .nxt ⟨ss ρ i (.val v), h⟩ := rfl
theorem q_asg1x (i : Nat) : asg1 i (.exc c h) = .exc c h := rfl
def asgT (is : List Nat) (r : Out RV) : SOut := r.bindS fun x s => match x.v with
    | .dat d => match assignT (.tp is) d s with
      | some s1 => .nxt s1
      | none => .bad
    | _ => .bad
def asgT2 (o : Option S) : SOut := match o with
  | some s1 => .nxt s1
  | none => .bad
theorem q_xs_asgT (is : List Nat) (e : IE) : xs N (.asg (.tp is) e) s = asgT is (xe N e s) := rfl
theorem q_asgT (is : List Nat) (d : PD) (fr : Bool) : asgT is (.ok ⟨.dat d, fr⟩ s) = asgT2 (assignT (.tp is) d s) := rfl
theorem q_asgT2 : asgT2 (some s) = .nxt s := rfl
theorem q_asgTx (is : List Nat) : asgT is (.exc c h) = .exc c h := rfl
def xr (N : En) (es : IEs) (s : S) : Out (List RV) := rvals N.call N.lamc N.actf es s
def rv1 (N : En) (es : IEs) (r : Out RV) : Out (List RV) := r.bind fun x s => (xr N es s).bind fun xs s => .ok (x :: xs) s
def rv2 (x : RV) (r : Out (List RV)) : Out (List RV) := r.bind fun xs s => .ok (x :: xs) s
theorem q_xr0 : xr N .nil s = .ok [] s := rfl
theorem q_xr (e : IE) (es : IEs) : xr N (.cons e es) s = rv1 N es (xe N e s) := rfl
theorem q_rv1 (es : IEs) (x : RV) : rv1 N es (.ok x s) = rv2 x (xr N es s) := rfl
theorem q_rv1x (es : IEs) : rv1 N es (.exc c h) = .exc c h := rfl
theorem q_rv2 (x : RV) (xs : List RV) : rv2 x (.ok xs s) = .ok (x :: xs) s := rfl
theorem q_rv2x (x : RV) : rv2 x (.exc c h) = .exc c h := rfl
def par1 (is : List Nat) (r : Out (List RV)) : SOut := r.bindS fun vs s => match storeAllR is vs s with
    | some s1 => .nxt s1
    | none => .bad
theorem q_xs_par (is : List Nat) (es : IEs) : xs N (.par is es) s = par1 is (xr N es s) := rfl
theorem q_par1 (is : List Nat) (vs : List RV) : par1 is (.ok vs s) = asgT2 (storeAllR is vs s) := rfl
theorem q_par1x (is : List Nat) : par1 is (.exc c h) = .exc c h := rfl
theorem q_sa0 : storeAllR [] [] s = some s := rfl
theorem q_sa1t (i : Nat) (is : List Nat) (d : PD) (vs : List RV) : storeAllR (i :: is) (⟨.dat d, true⟩ :: vs) ⟨ρ, h⟩ = storeAllR is vs ⟨ss ρ i (.own d), h⟩ := rfl
theorem q_sa1f (i : Nat) (is : List Nat) (v : Val) (vs : List RV) : storeAllR (i :: is) (⟨v, false⟩ :: vs) ⟨ρ, h⟩ = storeAllR is vs ⟨ss ρ i (.val v), h⟩ := rfl
def set1 (N : En) (i : Nat) (k : IE) (r : Out RV) : SOut := r.bindS fun x s => if canPut i s then (xe N k s).bindS fun y s => match x.v, y.v with
      | .dat d, .dat k => putIn i k d s
      | _, _ => .bad
    else .bad
def set2 (i : Nat) (v : Val) (r : Out RV) : SOut := r.bindS fun y s => match v, y.v with
      | .dat d, .dat k => putIn i k d s
      | _, _ => .bad
theorem q_xs_sset (i : Nat) (k e : IE) : xs N (.sset i k e) s = set1 N i k (xe N e s) := rfl
theorem q_set1 {i : Nat} {k : IE} {v : Val} {fr : Bool} (e : canPut i s = true) : set1 N i k (.ok ⟨v, fr⟩ s) = set2 i v (xe N k s) := by
  show (if _ then _ else _) = _
  rw [if_pos e]; rfl
theorem q_set1x (i : Nat) (k : IE) : set1 N i k (.exc c h) = .exc c h := rfl
theorem q_set2 (i : Nat) (d k : PD) (fr : Bool) : set2 i (.dat d) (.ok ⟨.dat k, fr⟩ s) = putIn i k d s := rfl
theorem q_set2x (i : Nat) (v : Val) : set2 i v (.exc c h) = .exc c h := rfl
def cpO (o : Option Slot) : Bool := match o with
  | some (.own _) => true
  | some (.val .hnd) => true
  | _ => false
theorem q_canPut (i : Nat) : canPut i ⟨ρ, h⟩ = cpO (gs ρ i) := id rfl
theorem q_cpo (d : PD) : cpO (some (.own d)) = true := id rfl
theorem q_cph : cpO (some (.val .hnd)) = true := id rfl
def put1 (i : Nat) (k d : PD) (o : Option Slot) (s : S) : SOut := match o with
  | some (.own c) => match setop c k d with
    | some c' => .nxt { s with ρ := s.ρ.set i (.own c') }
    | none => .bad
  | some (.val .hnd) => match s.h with
    | some ds => match setop (.list ds) k d with
      | some (.list ds') => .nxt { s with h := some ds' }
      | _ => .bad
    | none => .bad
  | _ => .bad
def put2 (i : Nat) (o : Option PD) (s : S) : SOut := match o with
    | some c' => .nxt ⟨ss s.ρ i (.own c'), s.h⟩
    | none => .bad
def put3 (o : Option PD) (s : S) : SOut := match o with
    | some (.list ds') => .nxt ⟨s.ρ, some ds'⟩
    | _ => .bad
theorem q_putIn (i : Nat) (k d : PD) : putIn i k d ⟨ρ, h⟩ = put1 i k d (gs ρ i) ⟨ρ, h⟩ := rfl
theorem q_put1o (i : Nat) (k d e : PD) : put1 i k d (some (.own e)) s = put2 i (setop e k d) s := rfl
theorem q_put1h (i : Nat) (k d : PD) (ds : List PD) : put1 i k d (some (.val .hnd)) ⟨ρ, some ds⟩ = put3 (setop (.list ds) k d) ⟨ρ, some ds⟩ := rfl
theorem q_put2 (i : Nat) (d : PD) : put2 i (some d) ⟨ρ, h⟩ = .nxt ⟨ss ρ i (.own d), h⟩ := rfl
theorem q_put3 (ds : List PD) : put3 (some (.list ds)) ⟨ρ, h⟩ = .nxt ⟨ρ, some ds⟩ := rfl
/-! two places at once -/
def ps1 (N : En) (i : Nat) (k : IE) (j : Nat) (l : IE) (r : Out (List Val)) : SOut := r.bindS fun vs s => match vs with
    | [.dat d, .dat e] => (putE N.call N.lamc N.actf i k d s).bind fun s => putE N.call N.lamc N.actf j l e s
    | _ => .bad
def pu1 (N : En) (i : Nat) (k : IE) (d : PD) (s : S) : SOut := putE N.call N.lamc N.actf i k d s
def pu2 (N : En) (j : Nat) (l : IE) (e : PD) (r : SOut) : SOut := r.bind fun s => pu1 N j l e s
def pu3 (i : Nat) (d : PD) (r : Out RV) : SOut := match r with
    | .ok y s => match y.v, s.ρ[i]? with
      | .dat (.int j), some (.own (.list xs)) => match ixAt xs j with
        | some n => .nxt { s with ρ := s.ρ.set i (.own (.list (xs.set n d))) }
        | none => .bad
      | _, _ => .bad
    | _ => .bad
def pu4 (i : Nat) (d : PD) (j : Int) (o : Option Slot) (s : S) : SOut := match o with
      | some (.own (.list xs)) => match ixAt xs j with
        | some n => .nxt { s with ρ := s.ρ.set i (.own (.list (xs.set n d))) }
        | none => .bad
      | _ => .bad
def pu5 (i : Nat) (d : PD) (xs : List PD) (o : Option Nat) (s : S) : SOut := match o with
        | some n => .nxt ⟨ss s.ρ i (.own (.list (xs.set n d))), s.h⟩
        | none => .bad
theorem q_xs_psub (i : Nat) (k : IE) (j : Nat) (l a b : IE) : xs N (.psub i k j l a b) s = ps1 N i k j l (xv N (.cons a (.cons b .nil)) s) := rfl
theorem q_ps1 (i : Nat) (k : IE) (j : Nat) (l : IE) (d e : PD) : ps1 N i k j l (.ok [.dat d, .dat e] s) = pu2 N j l e (pu1 N i k d s) := rfl
theorem q_pu2 (j : Nat) (l : IE) (e : PD) : pu2 N j l e (.nxt s) = pu1 N j l e s := rfl
theorem q_pu1 {i : Nat} {k : IE} {d : PD} (e : isOwnL i ⟨ρ, h⟩ = true) : pu1 N i k d ⟨ρ, h⟩ = pu3 i d (xe N k ⟨ρ, h⟩) := by
  show (if _ then _ else _) = _
  rw [if_pos e]; rfl
theorem q_pu3 (i : Nat) (d : PD) (j : Int) (fr : Bool) : pu3 i d (.ok ⟨.dat (.int j), fr⟩ ⟨ρ, h⟩) = pu4 i d j (gs ρ i) ⟨ρ, h⟩ := by
  unfold pu3 pu4 gs
  simp only
  split <;> simp_all
theorem q_pu4 (i : Nat) (d : PD) (j : Int) (xs : List PD) : pu4 i d j (some (.own (.list xs))) s = pu5 i d xs (ixAt xs j) s := rfl
theorem q_pu5 (i : Nat) (d : PD) (xs : List PD) (n : Nat) : pu5 i d xs (some n) ⟨ρ, h⟩ = .nxt ⟨ss ρ i (.own (.list (xs.set n d))), h⟩ := rfl
def app1 (i : Nat) (r : Out RV) : SOut := r.bindS fun x s => match x.v, s.ρ[i]? with
      | .dat d, some (.own (.list xs)) => if xs.length < 100000 then .nxt { s with ρ := s.ρ.set i (.own (.list (xs ++ [d]))) } else .bad
      | _, _ => .bad
def app2 (i : Nat) (d : PD) (o : Option Slot) (s : S) : SOut := match o with
      | some (.own (.list xs)) => if xs.length < 100000 then .nxt { s with ρ := s.ρ.set i (.own (.list (xs ++ [d]))) } else .bad
      | _ => .bad
theorem q_xs_app {i : Nat} {e : IE} (k : isOwnL i ⟨ρ, h⟩ = true) : xs N (.app i e) ⟨ρ, h⟩ = app1 i (xe N e ⟨ρ, h⟩) := by
  show evS _ _ _ _ _ _ = _
  rw [evS, if_pos k]; rfl
theorem q_app1 (i : Nat) (d : PD) (fr : Bool) : app1 i (.ok ⟨.dat d, fr⟩ ⟨ρ, h⟩) = app2 i d (gs ρ i) ⟨ρ, h⟩ := by
  unfold app1 app2 gs
  simp only [Out.bindS]
  split <;> simp_all
theorem q_app1x (i : Nat) : app1 i (.exc c h) = .exc c h := rfl
theorem q_app2 {i : Nat} {d : PD} {xs : List PD} (k : xs.length < 100000) : app2 i d (some (.own (.list xs))) ⟨ρ, h⟩ = .nxt ⟨ss ρ i (.own (.list (xs ++ [d]))), h⟩ := by
  show (if _ then _ else _) = _
  rw [if_pos k]; rfl
def ext1 (i : Nat) (r : Out RV) : SOut := r.bindS fun x s => match x.v, s.ρ[i]? with
      | .dat (.list ds), some (.own (.list xs)) => if xs.length + ds.length < 100000 then .nxt { s with ρ := s.ρ.set i (.own (.list (xs ++ ds))) } else .bad
      | _, _ => .bad
def ext2 (i : Nat) (ds : List PD) (o : Option Slot) (s : S) : SOut := match o with
      | some (.own (.list xs)) => if xs.length + ds.length < 100000 then .nxt { s with ρ := s.ρ.set i (.own (.list (xs ++ ds))) } else .bad
      | _ => .bad
theorem q_xs_ext {i : Nat} {e : IE} (k : isOwnL i ⟨ρ, h⟩ = true) : xs N (.ext i e) ⟨ρ, h⟩ = ext1 i (xe N e ⟨ρ, h⟩) := by
  show evS _ _ _ _ _ _ = _
  rw [evS, if_pos k]; rfl
theorem q_ext1 (i : Nat) (ds : List PD) (fr : Bool) : ext1 i (.ok ⟨.dat (.list ds), fr⟩ ⟨ρ, h⟩) = ext2 i ds (gs ρ i) ⟨ρ, h⟩ := by
  unfold ext1 ext2 gs
  simp only [Out.bindS]
  split <;> simp_all
theorem q_ext2 {i : Nat} {ds xs : List PD} (k : xs.length + ds.length < 100000) : ext2 i ds (some (.own (.list xs))) ⟨ρ, h⟩ = .nxt ⟨ss ρ i (.own (.list (xs ++ ds))), h⟩ := by
  show (if _ then _ else _) = _
  rw [if_pos k]; rfl
def exp1 (r : Out RV) : SOut := r.bindS fun _ s => .nxt s
theorem q_xs_exp (e : IE) : xs N (.exp e) s = exp1 (xe N e s) := rfl
theorem q_exp1 (x : RV) : exp1 (.ok x s) = .nxt s := rfl
theorem q_exp1x : exp1 (.exc c h) = .exc c h := rfl
def if1 (N : En) (t e : IB) (r : Out Bool) : SOut := r.bindS fun b s => if b then xb N t s else xb N e s
theorem q_xs_if (b : IT) (t e : IB) : xs N (.ifs b t e) s = if1 N t e (xt N b s) := rfl
theorem q_if1t (t e : IB) : if1 N t e (.ok true s) = xb N t s := rfl
theorem q_if1f (t e : IB) : if1 N t e (.ok false s) = xb N e s := rfl
theorem q_if1x (t e : IB) : if1 N t e (.exc c h) = .exc c h := rfl
/-! loops -/
def fst1 (N : En) (b : IB) (o : Option S) : SOut := match o with
  | some s => xb N b s
  | none => .bad
theorem q_fst1 (b : IB) : fst1 N b (some s) = xb N b s := rfl
/-- one round of a for -/
def fstep (N : En) (b : IB) (tg : Tgt) (d : PD) (s : S) : SOut := fst1 N b (assignT tg d s)
theorem q_fstep (b : IB) (tg : Tgt) (d : PD) : fstep N b tg d s = fst1 N b (assignT tg d s) := rfl
def fl (N : En) (b : IB) (tg : Tgt) (ds : List PD) (s : S) : SOut := forLoop (xb N b) tg ds s
def fl1 (N : En) (b : IB) (tg : Tgt) (ds : List PD) (r : SOut) : SOut := match r with
  | .nxt s => fl N b tg ds s
  | o => o
theorem fl_nil (b : IB) (tg : Tgt) : fl N b tg [] s = .nxt s := rfl
theorem fl_cons (b : IB) (tg : Tgt) (d : PD) (ds : List PD) : fl N b tg (d :: ds) s = fl1 N b tg ds (fstep N b tg d s) := by
  unfold fl fstep fst1
  rw [forLoop]
  cases assignT tg d s with
  | none => rfl
  | some s1 =>
    simp only
    unfold fl1
    cases xb N b s1 <;> rfl
theorem q_fl1n (b : IB) (tg : Tgt) (ds : List PD) : fl1 N b tg ds (.nxt s) = fl N b tg ds s := rfl
theorem q_fl1r (b : IB) (tg : Tgt) (ds : List PD) (x : RV) : fl1 N b tg ds (.ret x s) = .ret x s := rfl
theorem q_fl1x (b : IB) (tg : Tgt) (ds : List PD) : fl1 N b tg ds (.exc c h) = .exc c h := rfl
def for1 (N : En) (b : IB) (tg : Tgt) (r : Out (List PD)) : SOut := r.bindS fun ds s => fl N b tg ds s
theorem q_xs_for (tg : Tgt) (src : IR) (b : IB) : xs N (.fors tg src b) s = for1 N b tg (xw N src s) := rfl
theorem q_for1 (b : IB) (tg : Tgt) (ds : List PD) : for1 N b tg (.ok ds s) = fl N b tg ds s := rfl
theorem q_for1x (b : IB) (tg : Tgt) : for1 N b tg (.exc c h) = .exc c h := rfl
def ff (N : En) (b : IB) (i : Nat) (fs : List Nat) (s : S) : SOut := forfLoop (xb N b) i fs s
def ff1 (N : En) (b : IB) (i : Nat) (fs : List Nat) (r : SOut) : SOut := match r with
  | .nxt s => ff N b i fs s
  | o => o
theorem q_xs_forf (i : Nat) (fs : List Nat) (b : IB) : xs N (.forf i fs b) s = ff N b i fs s := rfl
theorem q_ff0 (b : IB) (i : Nat) : ff N b i [] s = .nxt s := rfl
theorem q_ff (b : IB) (i f : Nat) (fs : List Nat) : ff N b i (f :: fs) ⟨ρ, h⟩ = ff1 N b i fs (xb N b ⟨ss ρ i (.val (.fn f)), h⟩) := by
  unfold ff ff1
  rw [forfLoop]
  show (match xb N b ⟨ss ρ i (.val (.fn f)), h⟩ with | .nxt s2 => _ | o => o) = _
  cases xb N b ⟨ss ρ i (.val (.fn f)), h⟩ <;> rfl
theorem q_ff1n (b : IB) (i : Nat) (fs : List Nat) : ff1 N b i fs (.nxt s) = ff N b i fs s := rfl
theorem q_ff1r (b : IB) (i : Nat) (fs : List Nat) (x : RV) : ff1 N b i fs (.ret x s) = .ret x s := rfl
theorem q_ff1x (b : IB) (i : Nat) (fs : List Nat) : ff1 N b i fs (.exc c h) = .exc c h := rfl
def wl (N : En) (t : IT) (b : IB) (n : Nat) (s : S) : SOut := whlLoop (xt N t) (xb N b) n s
def wl1 (N : En) (t : IT) (b : IB) (n : Nat) (r : Out Bool) : SOut := match r with
    | .ok true s1 => match xb N b s1 with
      | .nxt s2 => wl N t b n s2
      | o => o
    | .ok false s1 => .nxt s1
    | .exc c h => .exc c h
    | .bad => .bad
def wl2 (N : En) (t : IT) (b : IB) (n : Nat) (r : SOut) : SOut := match r with
      | .nxt s2 => wl N t b n s2
      | o => o
theorem q_xs_whl (t : IT) (b : IB) : xs N (.whl t b) s = wl N t b N.wf s := rfl
theorem wl_succ (t : IT) (b : IB) (n : Nat) : wl N t b (n + 1) s = wl1 N t b n (xt N t s) := by
  unfold wl
  rw [whlLoop]
  rfl
theorem q_wl1t (t : IT) (b : IB) (n : Nat) : wl1 N t b n (.ok true s) = wl2 N t b n (xb N b s) := rfl
theorem q_wl1f (t : IT) (b : IB) (n : Nat) : wl1 N t b n (.ok false s) = .nxt s := rfl
theorem q_wl2n (t : IT) (b : IB) (n : Nat) : wl2 N t b n (.nxt s) = wl N t b n s := rfl
theorem q_wl2r (t : IT) (b : IB) (n : Nat) (x : RV) : wl2 N t b n (.ret x s) = .ret x s := rfl
theorem q_wl2x (t : IT) (b : IB) (n : Nat) : wl2 N t b n (.exc c h) = .exc c h := rfl
/-! ends -/
def ret1 (r : Out RV) : SOut := r.bindS fun x s => .ret x s
theorem q_ret1 (x : RV) : ret1 (.ok x s) = .ret x s := rfl
theorem q_ret1x : ret1 (.exc c h) = .exc c h := rfl
def rtv (o : Option Slot) (s : S) : SOut := match o with
    | some (.own d) => .ret (rvD d true) s
    | some (.val v) => .ret ⟨v, false⟩ s
    | _ => .bad
theorem q_xs_retv (i : Nat) : xs N (.ret (.var i)) ⟨ρ, h⟩ = rtv (gs ρ i) ⟨ρ, h⟩ := rfl
theorem q_rtvo (d : PD) : rtv (some (.own d)) s = .ret ⟨.dat d, true⟩ s := rfl
theorem q_rtvv (v : Val) : rtv (some (.val v)) s = .ret ⟨v, false⟩ s := rfl
theorem q_xs_rse (k : Nat) : xs N (.rse k) ⟨ρ, h⟩ = .exc k h := rfl
def try1K (N : En) (ρ : List Slot) (k : Tk) (i : Nat) (hb : IB) (r : Out RV) : SOut := match r with
      | .ok x s1 => match k with
        | .drop => .nxt s1
        | .ret => .ret x s1
        | .set j => .nxt (store j x s1)
      | .exc c' h => match xb N hb ⟨ρ.set i (.val (.exn c')), h⟩ with
        | .nxt s2 => if noExn (s2.ρ.set i .emp) then .nxt { s2 with ρ := s2.ρ.set i .emp } else .bad
        | .ret x s2 => if isExn x.v then .bad else .ret x s2
        | _ => .bad
      | .bad => .bad
def hnd1 (i : Nat) (r : SOut) : SOut := match r with
        | .nxt s2 => if noExn (s2.ρ.set i .emp) then .nxt { s2 with ρ := s2.ρ.set i .emp } else .bad
        | .ret x s2 => if isExn x.v then .bad else .ret x s2
        | _ => .bad
theorem q_xs_try {e : IE} {k : Tk} {i : Nat} {hb : IB} (ho : noOwn ρ = true) : xs N (.try1 e k i hb) ⟨ρ, h⟩ = try1K N ρ k i hb (xe N e ⟨ρ, h⟩) := by
  show evS _ _ _ _ _ _ = _
  rw [evS, if_pos ho]
  unfold try1K
  show (match xe N e ⟨ρ, h⟩ with | .ok x s1 => _ | .exc c' h => _ | .bad => _) = _
  cases xe N e ⟨ρ, h⟩ <;> rfl
theorem q_tryd (ρ0 : List Slot) (i : Nat) (hb : IB) (x : RV) : try1K N ρ0 .drop i hb (.ok x s) = .nxt s := rfl
theorem q_tryr (ρ0 : List Slot) (i : Nat) (hb : IB) (x : RV) : try1K N ρ0 .ret i hb (.ok x s) = .ret x s := rfl
theorem q_trys (ρ0 : List Slot) (j i : Nat) (hb : IB) (x : RV) : try1K N ρ0 (.set j) i hb (.ok x s) = asg1 j (.ok x s) := rfl
theorem q_tryx (k : Tk) (i : Nat) (hb : IB) : try1K N ρ k i hb (.exc c h) = hnd1 i (xb N hb ⟨ss ρ i (.val (.exn c)), h⟩) := by
  unfold try1K hnd1
  show (match xb N hb ⟨ss ρ i (.val (.exn c)), h⟩ with | .nxt s2 => _ | .ret x s2 => _ | _ => _) = _
  cases xb N hb ⟨ss ρ i (.val (.exn c)), h⟩ <;> rfl
theorem q_hndr (i : Nat) (d : PD) (fr : Bool) : hnd1 i (.ret ⟨.dat d, fr⟩ s) = .ret ⟨.dat d, fr⟩ s := rfl
theorem q_hndn {i : Nat} (e : noExn (ss ρ i .emp) = true) : hnd1 i (.nxt ⟨ρ, h⟩) = .nxt ⟨ss ρ i .emp, h⟩ := by
  show (if _ then _ else _) = _
  unfold ss at e
  rw [if_pos e]; rfl
theorem q_no0 : noOwn [] = true := id rfl
theorem q_nov (v : Val) (r : List Slot) : noOwn (.val v :: r) = noOwn r := by simp [noOwn]
theorem q_noe (r : List Slot) : noOwn (.emp :: r) = noOwn r := by simp [noOwn]
theorem q_nx0 : noExn [] = true := id rfl
theorem q_nxd (d : PD) (r : List Slot) : noExn (.val (.dat d) :: r) = noExn r := by simp [noExn, isExn]
theorem q_nxh (r : List Slot) : noExn (.val .hnd :: r) = noExn r := by simp [noExn, isExn]
theorem q_nxl (r : List Slot) : noExn (.val .lmb :: r) = noExn r := by simp [noExn, isExn]
theorem q_nxf (f : Nat) (r : List Slot) : noExn (.val (.fn f) :: r) = noExn r := by simp [noExn, isExn]
theorem q_nxs (f : List Int) (r : List Slot) : noExn (.val (.scr f) :: r) = noExn r := by simp [noExn, isExn]
theorem q_nxe (r : List Slot) : noExn (.emp :: r) = noExn r := by simp [noExn]
theorem q_nxo (d : PD) (r : List Slot) : noExn (.own d :: r) = noExn r := by simp [noExn]
def mkh1 (i : Nat) (r : Out RV) : SOut := r.bindS fun x s => match x.fr, x.v with
      | true, .dat (.list ds) => if noLmb s.ρ then .nxt ⟨s.ρ.set i (.val .hnd), some ds⟩ else .bad
      | _, _ => .bad
theorem q_xs_mkh (i : Nat) (e : IE) : xs N (.mkh i e) ⟨ρ, none⟩ = mkh1 i (xe N e ⟨ρ, none⟩) := rfl
theorem q_mkh1 {i : Nat} {ds : List PD} (e : noLmb ρ = true) : mkh1 i (.ok ⟨.dat (.list ds), true⟩ ⟨ρ, h⟩) = .nxt ⟨ss ρ i (.val .hnd), some ds⟩ := by
  show (if _ then _ else _) = _
  rw [if_pos e]; rfl
theorem q_nl0 : noLmb [] = true := id rfl
theorem q_nld (d : PD) (r : List Slot) : noLmb (.val (.dat d) :: r) = noLmb r := by simp [noLmb, isLmb]
theorem q_nls (d : List Int) (r : List Slot) : noLmb (.val (.scr d) :: r) = noLmb r := by simp [noLmb, isLmb]
theorem q_nle (r : List Slot) : noLmb (.emp :: r) = noLmb r := by simp [noLmb]
theorem q_nlo (d : PD) (r : List Slot) : noLmb (.own d :: r) = noLmb r := by simp [noLmb]
theorem q_tcn : toCall h (.nxt ⟨ρ, h⟩) = .ret (.dat .none) false h := by cases h <;> rfl
theorem q_tcr (d : PD) (fr : Bool) : toCall h (.ret ⟨.dat d, fr⟩ ⟨ρ, h⟩) = .ret (.dat d) fr h := by cases h <;> rfl
theorem q_tcx : toCall h (.exc c h) = .exc c h := by cases h <;> rfl
theorem q_tcnS (h0 : List PD) (h : Hd) : toCall (some h0) (.nxt ⟨ρ, h⟩) = .ret (.dat .none) false h := rfl
theorem q_tcrS (h0 : List PD) (h : Hd) (d : PD) (fr : Bool) : toCall (some h0) (.ret ⟨.dat d, fr⟩ ⟨ρ, h⟩) = .ret (.dat d) fr h := rfl
theorem q_tcxS (h0 : List PD) (h : Hd) : toCall (some h0) (.exc c h) = .exc c h := rfl
theorem q_tcN (h : Hd) : toCall none (.nxt ⟨ρ, h⟩) = .ret (.dat .none) false none := rfl
theorem q_tcrN (h : Hd) (d : PD) (fr : Bool) : toCall none (.ret ⟨.dat d, fr⟩ ⟨ρ, h⟩) = .ret (.dat d) fr none := rfl
theorem q_dro (ρ : List Slot) (d : PD) : (Slot.own d :: ρ).map dropOwn = .emp :: ρ.map dropOwn := rfl
theorem q_drv (ρ : List Slot) (d : Val) : (Slot.val d :: ρ).map dropOwn = .val d :: ρ.map dropOwn := rfl
theorem q_dre (ρ : List Slot) : (Slot.emp :: ρ).map dropOwn = .emp :: ρ.map dropOwn := rfl
theorem q_dr0 : ([] : List Slot).map dropOwn = [] := rfl
/-! operations on data -/
theorem q_add (i j : Int) : binop .add (.int i) (.int j) = some (.int (i + j), false) := rfl
theorem q_sub (i j : Int) : binop .sub (.int i) (.int j) = some (.int (i - j), false) := rfl
theorem mul_ok {i j : Int} (k : mulOk i j = true) : binop .mul (.int i) (.int j) = some (.int (i * j), false) := by
  show (if _ then _ else _) = _
  rw [if_pos k]
theorem q_mulL {i j : Int} (k : -18446744073709551616 < i ∧ i < 18446744073709551616) : binop .mul (.int i) (.int j) = some (.int (i * j), false) := mul_ok (by unfold mulOk; rw [decide_eq_true_eq]; exact .inl k)
theorem q_mulR {i j : Int} (k : -18446744073709551616 < j ∧ j < 18446744073709551616) : binop .mul (.int i) (.int j) = some (.int (i * j), false) := mul_ok (by unfold mulOk; rw [decide_eq_true_eq]; exact .inr (.inl k))
theorem q_fdiv {i j : Int} (k : 0 < j ∧ j < 1606938044258990275541962092341162602522202993782792835301376) : binop .fdiv (.int i) (.int j) = some (.int (i / j), false) := by
  show (if _ then _ else _) = _
  rw [if_pos (by exact k)]
theorem q_mod {i j : Int} (k : 0 < j) : binop .mod (.int i) (.int j) = some (.int (i % j), false) := by
  show (if _ then _ else _) = _
  rw [if_pos k]
theorem q_band (i j : Int) : binop .band (.int i) (.int j) = some (.int (Builtin.bitAnd i j), false) := rfl
theorem q_bor (i j : Int) : binop .bor (.int i) (.int j) = some (.int (Builtin.bitOr i j), false) := rfl
theorem q_bxor (i j : Int) : binop .bxor (.int i) (.int j) = some (.int (Builtin.bitXor i j), false) := rfl
theorem q_addT {ds es : List PD} (k : ds.length + es.length ≤ 100000) : binop .add (.tuple ds) (.tuple es) = some (.tuple (ds ++ es), false) := by
  show (if _ then _ else _) = _
  rw [if_pos k]
theorem q_addL {ds es : List PD} (k : ds.length + es.length ≤ 100000) : binop .add (.list ds) (.list es) = some (.list (ds ++ es), true) := by
  show (if _ then _ else _) = _
  rw [if_pos k]
theorem q_mulT {ds : List PD} {n : Int} (k : ds ≠ [] ∧ ds.length ≤ 1000 ∧ 0 ≤ n ∧ n ≤ 1000) : binop .mul (.tuple ds) (.int n) = some (.tuple (List.replicate n.toNat ds).flatten, false) := by
  show (if _ then _ else _) = _
  rw [if_pos k]
theorem q_mulLs {ds : List PD} {n : Int} (k : ds.length ≤ 1000 ∧ 0 ≤ n ∧ n ≤ 1000) : binop .mul (.list ds) (.int n) = some (.list (List.replicate n.toNat ds).flatten, true) := by
  show (if _ then _ else _) = _
  rw [if_pos k]
theorem q_lt (i j : Int) : cmpop .lt (.int i) (.int j) = some (decide (i < j)) := rfl
theorem q_le (i j : Int) : cmpop .le (.int i) (.int j) = some (decide (i ≤ j)) := rfl
theorem q_gt (i j : Int) : cmpop .gt (.int i) (.int j) = some (decide (j < i)) := rfl
theorem q_ge (i j : Int) : cmpop .ge (.int i) (.int j) = some (decide (j ≤ i)) := rfl
theorem q_eqc (d e : PD) : cmpop .eq d e = eqop d e := rfl
theorem q_eqi (i j : Int) : eqop (.int i) (.int j) = some (decide (i = j)) := by
  show some (PyData.eqv (.int i) (.int j)) = _
  rw [PyData.eqv]; rfl
theorem eq_ok {d e : PD} (k1 : shal 40 d = true) (k2 : shal 40 e = true) : eqop d e = some (PyData.eqv d e) := by
  unfold eqop
  rw [k1, k2]; rfl
theorem q_nec (d e : PD) : cmpop .ne d e = (eqop d e).map fun b => !b := rfl
theorem q_omap (b : Bool) (f : Bool → Bool) : (some b : Option Bool).map f = some (f b) := rfl
theorem q_isc (d e : PD) : cmpop .is d e = isop d e := rfl
theorem q_isnc (d e : PD) : cmpop .isn d e = (isop d e).map fun b => !b := rfl
theorem q_isbb (a b : Bool) : isop (.bool a) (.bool b) = some (a == b) := rfl
theorem q_isnn : isop .none .none = some true := rfl
theorem q_isin (i : Int) : isop (.int i) .none = some false := rfl
theorem q_isbn (i : Bool) : isop (.bool i) .none = some false := rfl
theorem q_istn (i : List PD) : isop (.tuple i) .none = some false := rfl
theorem q_isln (i : List PD) : isop (.list i) .none = some false := rfl
theorem q_inc (d e : PD) : cmpop .inn d e = inop d e := rfl
theorem q_ninc (d e : PD) : cmpop .nin d e = (inop d e).map fun b => !b := rfl
def sub1 (xs : List PD) (o : Option Nat) : Option PD := o.bind fun j => xs[j]?
theorem q_subl (xs : List PD) (i : Int) : subop (.list xs) (.int i) = sub1 xs (ixAt xs i) := rfl
theorem q_subt (xs : List PD) (i : Int) : subop (.tuple xs) (.int i) = sub1 xs (ixAt xs i) := rfl
theorem q_sub1 (xs : List PD) (j : Nat) : sub1 xs (some j) = xs[j]? := rfl
theorem q_lenl (xs : List PD) : bltop .len [.list xs] = some (.int xs.length, false) := rfl
theorem q_lent (xs : List PD) : bltop .len [.tuple xs] = some (.int xs.length, false) := rfl
theorem q_lend {xs : List (PD × PD)} (k : tkeys xs = true) : bltop .len [.dict xs] = some (.int xs.length, false) := if_pos k
theorem q_tupl (xs : List PD) : bltop .tuple [.list xs] = some (.tuple xs, false) := rfl
theorem q_tupt (xs : List PD) : bltop .tuple [.tuple xs] = some (.tuple xs, false) := rfl
theorem q_lstl (xs : List PD) : bltop .list [.list xs] = some (.list xs, true) := rfl
theorem q_lstt (xs : List PD) : bltop .list [.tuple xs] = some (.list xs, true) := rfl
theorem q_lstd {xs : List (PD × PD)} (k : tkeys xs = true) : bltop .list [.dict xs] = some (.list (xs.map (·.1)), true) := if_pos k
theorem q_lrng {n : Int} (k : n ≤ 100000 ∧ -100000 ≤ n) : bltop .lrng [.int n] = some (.list (rngD 0 n.toNat), true) := by
  show (if _ then _ else _) = _
  rw [if_pos k]
theorem asInts_map : ∀ ns : List Int, asInts (ns.map .int) = some ns
  | [] => rfl
  | n :: r => by rw [List.map_cons, asInts, asInts_map r]; rfl
theorem asBools_map : ∀ ns : List Bool, asBools (ns.map .bool) = some ns
  | [] => rfl
  | n :: r => by rw [List.map_cons, asBools, asBools_map r]; rfl
theorem q_suml (ns : List Int) : bltop .sum [.list (ns.map .int)] = some (.int ns.sum, false) := by
  show (asInts _).map _ = _
  rw [asInts_map]; rfl
theorem q_sumt (ns : List Int) : bltop .sum [.tuple (ns.map .int)] = some (.int ns.sum, false) := by
  show (asInts _).map _ = _
  rw [asInts_map]; rfl
theorem bools_all (ns : List Bool) : bltop .all [.list (ns.map .bool)] = some (.bool (ns.all id), false) := by
  show (asBools _).map _ = _
  rw [asBools_map]; rfl
theorem bools_any (ns : List Bool) : bltop .any [.list (ns.map .bool)] = some (.bool (ns.any id), false) := by
  show (asBools _).map _ = _
  rw [asBools_map]; rfl
theorem q_min2 (i j : Int) : bltop .min2 [.int i, .int j] = some (.int (if j < i then j else i), false) := rfl
theorem q_max2 (i j : Int) : bltop .max2 [.int i, .int j] = some (.int (if j > i then j else i), false) := rfl
theorem q_absi (i : Int) : bltop .abs [.int i] = some (.int (if i < 0 then -i else i), false) := rfl
theorem q_inti (i : Int) : bltop .int [.int i] = some (.int i, false) := rfl
theorem q_intb (b : Bool) : bltop .int [.bool b] = some (.int (if b then 1 else 0), false) := rfl
theorem q_isI1 (i : Int) : bltop .isInt [.int i] = some (.bool true, false) := rfl
theorem q_isI2 (i : Bool) : bltop .isInt [.bool i] = some (.bool true, false) := rfl
theorem q_isI3 (i : List PD) : bltop .isInt [.tuple i] = some (.bool false, false) := rfl
theorem q_isI4 (i : List PD) : bltop .isInt [.list i] = some (.bool false, false) := rfl
theorem q_isI5 (i : List (PD × PD)) : bltop .isInt [.dict i] = some (.bool false, false) := rfl
theorem q_isI6 (i : Str) : bltop .isInt [.str i] = some (.bool false, false) := rfl
theorem q_isI7 : bltop .isInt [.none] = some (.bool false, false) := rfl
theorem q_isB1 (i : Int) : bltop .isBool [.int i] = some (.bool false, false) := rfl
theorem q_isB2 (i : Bool) : bltop .isBool [.bool i] = some (.bool true, false) := rfl
theorem q_isB3 (i : List PD) : bltop .isBool [.tuple i] = some (.bool false, false) := rfl
theorem q_isB4 (i : List PD) : bltop .isBool [.list i] = some (.bool false, false) := rfl
theorem q_isB5 (i : List (PD × PD)) : bltop .isBool [.dict i] = some (.bool false, false) := rfl
theorem q_isB6 (i : Str) : bltop .isBool [.str i] = some (.bool false, false) := rfl
theorem q_isB7 : bltop .isBool [.none] = some (.bool false, false) := rfl
theorem q_isT1 (i : Int) : bltop .isTuple [.int i] = some (.bool false, false) := rfl
theorem q_isT2 (i : Bool) : bltop .isTuple [.bool i] = some (.bool false, false) := rfl
theorem q_isT3 (i : List PD) : bltop .isTuple [.tuple i] = some (.bool true, false) := rfl
theorem q_isT4 (i : List PD) : bltop .isTuple [.list i] = some (.bool false, false) := rfl
theorem q_isT5 (i : List (PD × PD)) : bltop .isTuple [.dict i] = some (.bool false, false) := rfl
theorem q_isT6 (i : Str) : bltop .isTuple [.str i] = some (.bool false, false) := rfl
theorem q_isT7 : bltop .isTuple [.none] = some (.bool false, false) := rfl
theorem q_isStr0 (i : Int) : bltop .isStr [(.int i)] = some (.bool false, false) := rfl
theorem q_isStr1 (i : Bool) : bltop .isStr [(.bool i)] = some (.bool false, false) := rfl
theorem q_isStr2 (i : List PD) : bltop .isStr [(.tuple i)] = some (.bool false, false) := rfl
theorem q_isStr3 (i : List PD) : bltop .isStr [(.list i)] = some (.bool false, false) := rfl
theorem q_isStr4 (i : List (PD × PD)) : bltop .isStr [(.dict i)] = some (.bool false, false) := rfl
theorem q_isStr5 (i : Str) : bltop .isStr [(.str i)] = some (.bool true, false) := rfl
theorem q_isStr6  : bltop .isStr [.none] = some (.bool false, false) := rfl
theorem q_isList0 (i : Int) : bltop .isList [(.int i)] = some (.bool false, false) := rfl
theorem q_isList1 (i : Bool) : bltop .isList [(.bool i)] = some (.bool false, false) := rfl
theorem q_isList2 (i : List PD) : bltop .isList [(.tuple i)] = some (.bool false, false) := rfl
theorem q_isList3 (i : List PD) : bltop .isList [(.list i)] = some (.bool true, false) := rfl
theorem q_isList4 (i : List (PD × PD)) : bltop .isList [(.dict i)] = some (.bool false, false) := rfl
theorem q_isList5 (i : Str) : bltop .isList [(.str i)] = some (.bool false, false) := rfl
theorem q_isList6  : bltop .isList [.none] = some (.bool false, false) := rfl
theorem q_isDict0 (i : Int) : bltop .isDict [(.int i)] = some (.bool false, false) := rfl
theorem q_isDict1 (i : Bool) : bltop .isDict [(.bool i)] = some (.bool false, false) := rfl
theorem q_isDict2 (i : List PD) : bltop .isDict [(.tuple i)] = some (.bool false, false) := rfl
theorem q_isDict3 (i : List PD) : bltop .isDict [(.list i)] = some (.bool false, false) := rfl
theorem q_isDict4 (i : List (PD × PD)) : bltop .isDict [(.dict i)] = some (.bool true, false) := rfl
theorem q_isDict5 (i : Str) : bltop .isDict [(.str i)] = some (.bool false, false) := rfl
theorem q_isDict6  : bltop .isDict [.none] = some (.bool false, false) := rfl
theorem q_xo_bin (o : Bo) (a b : IE) : xo N (.bin o a b) s = toK (xe N (.bin o a b) s) := rfl
theorem q_xs_ret_bin (o : Bo) (a b : IE) : xs N (.ret (.bin o a b)) s = ret1 (xe N (.bin o a b) s) := rfl
theorem q_xo_neg (a : IE) : xo N (.neg a) s = toK (xe N (.neg a) s) := rfl
theorem q_xs_ret_neg (a : IE) : xs N (.ret (.neg a)) s = ret1 (xe N (.neg a) s) := rfl
theorem q_xo_cmp (o : Co) (a b : IE) : xo N (.cmp o a b) s = toK (xe N (.cmp o a b) s) := rfl
theorem q_xs_ret_cmp (o : Co) (a b : IE) : xs N (.ret (.cmp o a b)) s = ret1 (xe N (.cmp o a b) s) := rfl
theorem q_xo_chn (o p : Co) (a b d : IE) : xo N (.chn o p a b d) s = toK (xe N (.chn o p a b d) s) := rfl
theorem q_xs_ret_chn (o p : Co) (a b d : IE) : xs N (.ret (.chn o p a b d)) s = ret1 (xe N (.chn o p a b d) s) := rfl
theorem q_xo_and (a b : IE) : xo N (.and a b) s = toK (xe N (.and a b) s) := rfl
theorem q_xs_ret_and (a b : IE) : xs N (.ret (.and a b)) s = ret1 (xe N (.and a b) s) := rfl
theorem q_xo_or (a b : IE) : xo N (.or a b) s = toK (xe N (.or a b) s) := rfl
theorem q_xs_ret_or (a b : IE) : xs N (.ret (.or a b)) s = ret1 (xe N (.or a b) s) := rfl
theorem q_xo_not (a : IE) : xo N (.not a) s = toK (xe N (.not a) s) := rfl
theorem q_xs_ret_not (a : IE) : xs N (.ret (.not a)) s = ret1 (xe N (.not a) s) := rfl
theorem q_xo_ite (t : IT) (a b : IE) : xo N (.ite t a b) s = toK (xe N (.ite t a b) s) := rfl
theorem q_xs_ret_ite (t : IT) (a b : IE) : xs N (.ret (.ite t a b)) s = ret1 (xe N (.ite t a b) s) := rfl
theorem q_xo_tup (es : IEs) : xo N (.tup es) s = toK (xe N (.tup es) s) := rfl
theorem q_xs_ret_tup (es : IEs) : xs N (.ret (.tup es)) s = ret1 (xe N (.tup es) s) := rfl
theorem q_xo_lst (es : IEs) : xo N (.lst es) s = toK (xe N (.lst es) s) := rfl
theorem q_xs_ret_lst (es : IEs) : xs N (.ret (.lst es)) s = ret1 (xe N (.lst es) s) := rfl
theorem q_xo_dnil  : xo N .dnil s = toK (xe N .dnil s) := rfl
theorem q_xs_ret_dnil  : xs N (.ret .dnil) s = ret1 (xe N .dnil s) := rfl
theorem q_xo_dic (a b : IE) : xo N (.dic a b) s = toK (xe N (.dic a b) s) := rfl
theorem q_xs_ret_dic (a b : IE) : xs N (.ret (.dic a b)) s = ret1 (xe N (.dic a b) s) := rfl
theorem q_xo_sub (a b : IE) : xo N (.sub a b) s = toK (xe N (.sub a b) s) := rfl
theorem q_xs_ret_sub (a b : IE) : xs N (.ret (.sub a b)) s = ret1 (xe N (.sub a b) s) := rfl
theorem q_xo_slc (a : IE) (l u : IO) : xo N (.slc a l u) s = toK (xe N (.slc a l u) s) := rfl
theorem q_xs_ret_slc (a : IE) (l u : IO) : xs N (.ret (.slc a l u)) s = ret1 (xe N (.slc a l u) s) := rfl
theorem q_xo_rev (a : IE) : xo N (.rev a) s = toK (xe N (.rev a) s) := rfl
theorem q_xs_ret_rev (a : IE) : xs N (.ret (.rev a)) s = ret1 (xe N (.rev a) s) := rfl
theorem q_xo_call (f : Nat) (es : IEs) : xo N (.call f es) s = toK (xe N (.call f es) s) := rfl
theorem q_xs_ret_call (f : Nat) (es : IEs) : xs N (.ret (.call f es)) s = ret1 (xe N (.call f es) s) := rfl
theorem q_xo_calv (f : Nat) (es : IEs) : xo N (.calv f es) s = toK (xe N (.calv f es) s) := rfl
theorem q_xs_ret_calv (f : Nat) (es : IEs) : xs N (.ret (.calv f es)) s = ret1 (xe N (.calv f es) s) := rfl
theorem q_xo_lam (f : Nat) (b : IE) : xo N (.lam f b) s = toK (xe N (.lam f b) s) := rfl
theorem q_xs_ret_lam (f : Nat) (b : IE) : xs N (.ret (.lam f b)) s = ret1 (xe N (.lam f b) s) := rfl
theorem q_xo_act (i : Nat) : xo N (.act i) s = toK (xe N (.act i) s) := rfl
theorem q_xs_ret_act (i : Nat) : xs N (.ret (.act i)) s = ret1 (xe N (.act i) s) := rfl
theorem q_xo_blt (b : Bf) (es : IEs) : xo N (.blt b es) s = toK (xe N (.blt b es) s) := rfl
theorem q_xs_ret_blt (b : Bf) (es : IEs) : xs N (.ret (.blt b es)) s = ret1 (xe N (.blt b es) s) := rfl
theorem q_xo_mth (m : Mt) (a : IE) (es : IEs) : xo N (.mth m a es) s = toK (xe N (.mth m a es) s) := rfl
theorem q_xs_ret_mth (m : Mt) (a : IE) (es : IEs) : xs N (.ret (.mth m a es)) s = ret1 (xe N (.mth m a es) s) := rfl
theorem q_xo_pop0 (i : Nat) : xo N (.pop0 i) s = toK (xe N (.pop0 i) s) := rfl
theorem q_xs_ret_pop0 (i : Nat) : xs N (.ret (.pop0 i)) s = ret1 (xe N (.pop0 i) s) := rfl
theorem q_xo_pop (i : Nat) (k : IE) : xo N (.pop i k) s = toK (xe N (.pop i k) s) := rfl
theorem q_xs_ret_pop (i : Nat) (k : IE) : xs N (.ret (.pop i k)) s = ret1 (xe N (.pop i k) s) := rfl
theorem q_xo_isx (i : Nat) (cs : List Bool) : xo N (.isx i cs) s = toK (xe N (.isx i cs) s) := rfl
theorem q_xs_ret_isx (i : Nat) (cs : List Bool) : xs N (.ret (.isx i cs)) s = ret1 (xe N (.isx i cs) s) := rfl
theorem q_xo_scut (i n : Nat) : xo N (.scut i n) s = toK (xe N (.scut i n) s) := rfl
theorem q_xs_ret_scut (i n : Nat) : xs N (.ret (.scut i n)) s = ret1 (xe N (.scut i n) s) := rfl
theorem q_xo_lc (e : IE) (tg : Tgt) (src : IR) (ifs : IT) (own : List Nat) : xo N (.lc e tg src ifs own) s = toK (xe N (.lc e tg src ifs own) s) := rfl
theorem q_xs_ret_lc (e : IE) (tg : Tgt) (src : IR) (ifs : IT) (own : List Nat) : xs N (.ret (.lc e tg src ifs own)) s = ret1 (xe N (.lc e tg src ifs own) s) := rfl
theorem q_xs_ret_cst (d : PD) : xs N (.ret (.cst d)) s = ret1 (xe N (.cst d) s) := rfl
theorem q_xs_ret_fn (f : Nat) : xs N (.ret (.fn f)) s = ret1 (xe N (.fn f) s) := rfl
end
/-! ### comprehensions and loops by words -/
inductive F2 {α β : Type} (P : α → β → Prop) : List α → List β → Prop where
  | nil : F2 P [] []
  | cons {a : α} {b : β} {as : List α} {bs : List β} : P a b → F2 P as bs → F2 P (a :: as) (b :: bs)
section
variable {N : En} {α : Type}
theorem lc_fm {elt : IE} {ifs : IT} {tg : Tgt} {own : List Nat} {s : S} {enc : α → PD} {g : α → Option PD} : ∀ {xs : List α} {acc : List PD}, (∀ x ∈ xs, lcS N elt ifs tg own (enc x) s = .ok (g x) s) → lcL N elt ifs tg own (xs.map enc) acc s = .ok (acc ++ xs.filterMap g) s
  | [], acc, _ => by simp [lcL, lcLoop]
  | x :: xs, acc, h => by
    rw [List.map_cons, lcL_cons, h x (.head _)]
    show lcL N elt ifs tg own (xs.map enc) (acc ++ (g x).toList) s = _
    rw [lc_fm fun y hy => h y (.tail _ hy)]
    cases hg : g x <;> simp [List.filterMap_cons, hg]
theorem lc_mp {elt : IE} {ifs : IT} {tg : Tgt} {own : List Nat} {s : S} {enc : α → PD} {g : α → PD} {xs : List α} {acc : List PD} (h : ∀ x ∈ xs, lcS N elt ifs tg own (enc x) s = .ok (some (g x)) s) : lcL N elt ifs tg own (xs.map enc) acc s = .ok (acc ++ xs.map g) s := by
  rw [lc_fm (g := fun x => some (g x)) h]
  simp [List.filterMap_eq_map]
theorem lc_mp0 {elt : IE} {ifs : IT} {tg : Tgt} {own : List Nat} {s : S} {enc : α → PD} (g : α → PD) {xs : List α} (h : ∀ x ∈ xs, lcS N elt ifs tg own (enc x) s = .ok (some (g x)) s) : lcL N elt ifs tg own (xs.map enc) [] s = .ok (xs.map g) s := lc_mp h
theorem lc_fm0 {elt : IE} {ifs : IT} {tg : Tgt} {own : List Nat} {s : S} {enc : α → PD} (g : α → Option PD) {xs : List α} (h : ∀ x ∈ xs, lcS N elt ifs tg own (enc x) s = .ok (g x) s) : lcL N elt ifs tg own (xs.map enc) [] s = .ok (xs.filterMap g) s := lc_fm h
/-- each by another coding -/
theorem lc_to {β : Type} {elt : IE} {ifs : IT} {tg : Tgt} {own : List Nat} {s : S} {enc : α → PD} (g : α → β) (en : β → PD) {xs : List α} (h : ∀ x ∈ xs, lcS N elt ifs tg own (enc x) s = .ok (some (en (g x))) s) : lcL N elt ifs tg own (xs.map enc) [] s = .ok ((xs.map g).map en) s := by
  rw [lc_mp0 (fun x => en (g x)) h, List.map_map]
  rfl
/-- those that pass a test -/
theorem lc_fi {elt : IE} {ifs : IT} {tg : Tgt} {own : List Nat} {s : S} {enc : α → PD} (p : α → Bool) {β : Type} (g : α → β) (en : β → PD) {xs : List α} (h : ∀ x ∈ xs, lcS N elt ifs tg own (enc x) s = .ok (if p x then some (en (g x)) else none) s) : lcL N elt ifs tg own (xs.map enc) [] s = .ok (((xs.filter p).map g).map en) s := by
  rw [lc_fm0 (fun x => if p x then some (en (g x)) else none) h]
  congr 1
  induction xs with
  | nil => rfl
  | cons x xs ih =>
    have ih := ih fun y hy => h y (.tail _ hy)
    rw [List.filterMap_cons, ih, List.filter_cons]
    cases p x <;> rfl
/-- by what holds of each, the frame's state by what was done -/
theorem lc_ex {elt : IE} {ifs : IT} {tg : Tgt} {own : List Nat} {enc : α → PD} (I : S → Prop) (P : α → PD → Prop) : ∀ {xs : List α} {acc : List PD} {s : S}, I s → (∀ x ∈ xs, ∀ s, I s → ∃ y s', lcS N elt ifs tg own (enc x) s = .ok (some y) s' ∧ P x y ∧ I s') → ∃ ys s', lcL N elt ifs tg own (xs.map enc) acc s = .ok (acc ++ ys) s' ∧ I s' ∧ F2 P xs ys
  | [], acc, s, hI, _ => ⟨[], s, by simp [lcL, lcLoop], hI, .nil⟩
  | x :: xs, acc, s, hI, h => by
    obtain ⟨y, s1, e1, p1, i1⟩ := h x (.head _) s hI
    obtain ⟨ys, s2, e2, i2, f2⟩ := lc_ex I P (xs := xs) (acc := acc ++ [y]) i1 fun z hz => h z (.tail _ hz)
    refine ⟨y :: ys, s2, ?_, i2, .cons p1 f2⟩
    rw [List.map_cons, lcL_cons, e1]
    show lcL N elt ifs tg own (xs.map enc) (acc ++ [y]) s1 = _
    rw [e2, List.append_assoc]
    rfl
/-- the same, each coded -/
theorem lc_exT {β : Type} {elt : IE} {ifs : IT} {tg : Tgt} {own : List Nat} {enc : α → PD} (I : S → Prop) (P : β → Prop) (en : β → PD) : ∀ {xs : List α} {acc : List PD} {s : S}, I s → (∀ x ∈ xs, ∀ s, I s → ∃ y s', lcS N elt ifs tg own (enc x) s = .ok (some (en y)) s' ∧ P y ∧ I s') → ∃ (ys : List β) (s' : S), lcL N elt ifs tg own (xs.map enc) acc s = .ok (acc ++ ys.map en) s' ∧ I s' ∧ (∀ y ∈ ys, P y) ∧ ys.length = xs.length
  | [], acc, s, hI, _ => ⟨[], s, by simp [lcL, lcLoop], hI, (fun _ z => by cases z), rfl⟩
  | x :: xs, acc, s, hI, h => by
    obtain ⟨y, s1, e1, p1, i1⟩ := h x (.head _) s hI
    obtain ⟨ys, s2, e2, i2, f2, l2⟩ := lc_exT I P en (xs := xs) (acc := acc ++ [en y]) i1 fun z hz => h z (.tail _ hz)
    refine ⟨y :: ys, s2, ?_, i2, fun z hz => ?_, by simp [l2]⟩
    · rw [List.map_cons, lcL_cons, e1]
      show lcL N elt ifs tg own (xs.map enc) (acc ++ [en y]) s1 = _
      rw [e2, List.append_assoc]
      rfl
    · rcases List.mem_cons.mp hz with e | hz
      · rw [e]; exact p1
      · exact f2 z hz
theorem fl_aux {b : IB} {tg : Tgt} {enc : α → PD} {I : List α → S → Prop} : ∀ {xs pre : List α} {s : S}, I pre s → (∀ (p : List α) (x : α) (q : List α) (s : S), pre ++ xs = p ++ x :: q → I p s → ∃ s', fstep N b tg (enc x) s = .nxt s' ∧ I (p ++ [x]) s') → ∃ s', fl N b tg (xs.map enc) s = .nxt s' ∧ I (pre ++ xs) s'
  | [], pre, s, hI, _ => ⟨s, rfl, by simpa using hI⟩
  | x :: xs, pre, s, hI, h => by
    obtain ⟨s1, e1, i1⟩ := h pre x xs s rfl hI
    obtain ⟨s2, e2, i2⟩ := fl_aux (xs := xs) (pre := pre ++ [x]) i1 fun p y q s e => h p y q s (by simpa using e)
    refine ⟨s2, ?_, by simpa using i2⟩
    rw [List.map_cons, fl_cons, e1]
    exact e2
/-- a for whose rounds go through -/
theorem fl_ex {b : IB} {tg : Tgt} {enc : α → PD} (I : List α → S → Prop) {xs : List α} {s : S} (h0 : I [] s) (h : ∀ (p : List α) (x : α) (q : List α) (s : S), xs = p ++ x :: q → I p s → ∃ s', fstep N b tg (enc x) s = .nxt s' ∧ I (p ++ [x]) s') : ∃ s', fl N b tg (xs.map enc) s = .nxt s' ∧ I xs s' :=
  fl_aux (pre := []) h0 h
/-- .. each the same -/
theorem fl_same {b : IB} {tg : Tgt} {enc : α → PD} (I : S → Prop) {xs : List α} {s : S} (h0 : I s) (h : ∀ (x : α) (s : S), x ∈ xs → I s → ∃ s', fstep N b tg (enc x) s = .nxt s' ∧ I s') : ∃ s', fl N b tg (xs.map enc) s = .nxt s' ∧ I s' :=
  fl_ex (fun _ s => I s) h0 fun p x q s e => h x s (by rw [e]; simp)
theorem fl_by {F : SOut} {b : IB} {tg : Tgt} {enc : α → PD} {xs : List α} {s : S} (hF : fl N b tg (xs.map enc) s = F) (I : List α → S → Prop) (h0 : I [] s) (h : ∀ (p : List α) (x : α) (q : List α) (s : S), xs = p ++ x :: q → I p s → ∃ s', fstep N b tg (enc x) s = .nxt s' ∧ I (p ++ [x]) s') : ∃ s', F = .nxt s' ∧ I xs s' :=
  hF ▸ fl_ex I h0 h
theorem fl_by1 {F : SOut} {b : IB} {tg : Tgt} {enc : α → PD} {xs : List α} {s : S} (hF : fl N b tg (xs.map enc) s = F) (I : S → Prop) (h0 : I s) (h : ∀ (x : α) (s : S), x ∈ xs → I s → ∃ s', fstep N b tg (enc x) s = .nxt s' ∧ I s') : ∃ s', F = .nxt s' ∧ I s' :=
  hF ▸ fl_same I h0 h
/-- a for over anything, its rounds the same -/
theorem fl_any {F : SOut} {b : IB} {tg : Tgt} : ∀ {ds : List PD} {s : S}, fl N b tg ds s = F → ∀ (I : S → Prop), I s → (∀ (d : PD) (s : S), d ∈ ds → I s → ∃ s', fstep N b tg d s = .nxt s' ∧ I s') → ∃ s', F = .nxt s' ∧ I s' := by
  intro ds s hF I h0 h
  exact fl_by1 (F := F) (enc := id) (xs := ds) ((by rw [List.map_id] : fl N b tg (ds.map id) s = fl N b tg ds s).trans hF) I h0 h
/-- a for that may return -/
theorem fl_auxR {b : IB} {tg : Tgt} {enc : α → PD} {I : List α → S → Prop} {R : List α → α → RV → S → Prop} : ∀ {xs pre : List α} {s : S}, I pre s → (∀ (p : List α) (x : α) (q : List α) (s : S), pre ++ xs = p ++ x :: q → I p s → (∃ s', fstep N b tg (enc x) s = .nxt s' ∧ I (p ++ [x]) s') ∨ ∃ v s', fstep N b tg (enc x) s = .ret v s' ∧ R p x v s') →
    (∃ s', fl N b tg (xs.map enc) s = .nxt s' ∧ I (pre ++ xs) s') ∨ ∃ p x q v s', pre ++ xs = p ++ x :: q ∧ fl N b tg (xs.map enc) s = .ret v s' ∧ R p x v s'
  | [], pre, s, hI, _ => .inl ⟨s, rfl, by simpa using hI⟩
  | x :: xs, pre, s, hI, h => by
    rcases h pre x xs s rfl hI with ⟨s1, e1, i1⟩ | ⟨v, s1, e1, r1⟩
    · rcases fl_auxR (xs := xs) (pre := pre ++ [x]) i1 fun p y q s e => h p y q s (by simpa using e) with ⟨s2, e2, i2⟩ | ⟨p, y, q, v, s2, e, e2, r2⟩
      · refine .inl ⟨s2, ?_, by simpa using i2⟩
        rw [List.map_cons, fl_cons, e1]
        exact e2
      · refine .inr ⟨p, y, q, v, s2, by simpa using e, ?_, r2⟩
        rw [List.map_cons, fl_cons, e1]
        exact e2
    · refine .inr ⟨pre, x, xs, v, s1, rfl, ?_, r1⟩
      rw [List.map_cons, fl_cons, e1]
      rfl
theorem fl_byR {F : SOut} {b : IB} {tg : Tgt} {enc : α → PD} {xs : List α} {s : S} (hF : fl N b tg (xs.map enc) s = F) (I : List α → S → Prop) (R : List α → α → RV → S → Prop) (h0 : I [] s) (h : ∀ (p : List α) (x : α) (q : List α) (s : S), xs = p ++ x :: q → I p s → (∃ s', fstep N b tg (enc x) s = .nxt s' ∧ I (p ++ [x]) s') ∨ ∃ v s', fstep N b tg (enc x) s = .ret v s' ∧ R p x v s') :
    (∃ s', F = .nxt s' ∧ I xs s') ∨ ∃ p x q v s', xs = p ++ x :: q ∧ F = .ret v s' ∧ R p x v s' :=
  hF ▸ fl_auxR (pre := []) h0 h
theorem lc_by {β : Type} {L : Out (List PD)} {elt : IE} {ifs : IT} {tg : Tgt} {own : List Nat} {enc : α → PD} {xs : List α} {s : S} (hL : lcL N elt ifs tg own (xs.map enc) [] s = L) (I : S → Prop) (P : β → Prop) (en : β → PD) (h0 : I s) (h : ∀ x ∈ xs, ∀ s, I s → ∃ y s', lcS N elt ifs tg own (enc x) s = .ok (some (en y)) s' ∧ P y ∧ I s') : ∃ (ys : List β) (s' : S), L = .ok (ys.map en) s' ∧ I s' ∧ (∀ y ∈ ys, P y) ∧ ys.length = xs.length := by
  obtain ⟨ys, s', e, r⟩ := lc_exT I P en (acc := []) h0 h
  exact ⟨ys, s', hL ▸ e, r⟩
end
/-! PevDat: calls, data. -/
open PySem Pev
def nB : Hd → FO := fun _ => .bad
def EN (T : Nat → Option FDef) (wf n : Nat) (act : Hd → FO) : En := ⟨callF T wf n, fun f a h => Pev.run T wf n a f [.lmb] h, act, wf⟩
section
variable {T : Nat → Option FDef} {wf n : Nat} {act : Hd → FO}
theorem q_ENc (f : Nat) (vs : List Val) (h : Hd) : (EN T wf n act).call f vs h = callF T wf n f vs h := rfl
theorem q_ENl (f : Nat) (a : Hd → FO) (h : Hd) : (EN T wf n act).lamc f a h = Pev.run T wf n a f [.lmb] h := rfl
theorem q_ENa (h : Hd) : (EN T wf n act).actf h = act h := rfl
theorem q_ENw : (EN T wf n act).wf = wf := rfl
theorem callF_run {f : Nat} {d : FDef} {vs : List Val} {h : Hd} (e : T f = some d) (k : vs.length = d.np) : callF T wf (n + 1) f vs h = toCall h (xb (EN T wf n nB) d.body ⟨frame0 d vs, h⟩) := by
  unfold callF
  rw [e]
  simp only [if_pos k]
  rw [Pev.run, e]
  rfl
theorem lam_run {f : Nat} {d : FDef} {vs : List Val} {h : Hd} (e : T f = some d) : Pev.run T wf (n + 1) act f vs h = toCall h (xb (EN T wf n act) d.body ⟨frame0 d vs, h⟩) := by
  rw [Pev.run, e]
  rfl
end
/-! ### walks -/
theorem rng_map : ∀ (n : Nat) (lo : Int), rngD lo n = (List.range n).map fun (i : Nat) => PyData.int (lo + (i : Int))
  | 0, _ => rfl
  | n + 1, lo => by
    rw [rngD, rng_map n, List.range_succ_eq_map, List.map_cons, List.map_map]
    congr 1
    · simp
    · apply List.map_congr_left
      intro i _
      simp only [Function.comp, Nat.succ_eq_add_one]
      congr 1
      omega
theorem zip_map {α β : Type} (f : α → PD) (g : β → PD) : ∀ (xs : List α) (ys : List β), zipD (xs.map f) (ys.map g) = (xs.zip ys).map fun p => .tuple [f p.1, g p.2]
  | [], _ => by simp [zipD]
  | _ :: _, [] => by simp [zipD]
  | x :: xs, y :: ys => by simp [zipD, zip_map f g xs ys]
theorem enum_map {α : Type} (f : α → PD) : ∀ (xs : List α) (k : Nat), enumD k (xs.map f) = (xs.zipIdx k).map fun p => .tuple [.int p.2, f p.1]
  | [], _ => by simp [enumD]
  | x :: xs, k => by simp [enumD, enum_map f xs (k + 1)]
/-! ### places -/
theorem ix_nat {α : Type} {xs : List α} {i : Nat} (h : i < xs.length) : ixAt xs (i : Int) = some i := by
  unfold ixAt
  simp; omega
theorem ix_lit {α : Type} {xs : List α} {i : Int} (h0 : 0 ≤ i) (h : i < xs.length) : ixAt xs i = some i.toNat := by
  unfold ixAt
  simp [h0, h]
theorem ix_neg {α : Type} {xs : List α} {i : Int} (h0 : i < 0) (h : -(xs.length : Int) ≤ i) : ixAt xs i = some (i + xs.length).toNat := by
  unfold ixAt
  simp [h, show ¬ (0 ≤ i) by omega]
theorem q_ix0 {α : Type} (a : α) (r : List α) : ixAt (a :: r) 0 = some 0 := ix_nat (i := 0) (by simp)
theorem q_ix1 {α : Type} (a b : α) (r : List α) : ixAt (a :: b :: r) 1 = some 1 := ix_nat (i := 1) (by simp)
theorem q_ix2 {α : Type} (a b c : α) (r : List α) : ixAt (a :: b :: c :: r) 2 = some 2 := ix_nat (i := 2) (by simp)
theorem q_ix3 {α : Type} (a b c d : α) (r : List α) : ixAt (a :: b :: c :: d :: r) 3 = some 3 := ix_nat (i := 3) (by simp)
theorem q_ix4 {α : Type} (a b c d e : α) (r : List α) : ixAt (a :: b :: c :: d :: e :: r) 4 = some 4 := ix_nat (i := 4) (by simp)
theorem q_ix5 {α : Type} (a b c d e f : α) (r : List α) : ixAt (a :: b :: c :: d :: e :: f :: r) 5 = some 5 := ix_nat (i := 5) (by simp)
/-! ### equality -/
theorem eqv_int (i j : Int) : PyData.eqv (.int i) (.int j) = decide (i = j) := by rw [PyData.eqv]; rfl
theorem eqvAll_map {α : Type} [DecidableEq α] {f : α → PD} (hf : ∀ a b, PyData.eqv (f a) (f b) = decide (a = b)) : ∀ xs ys : List α, PyData.eqvAll (xs.map f) (ys.map f) = decide (xs = ys)
  | [], [] => by simp [PyData.eqvAll]
  | [], _ :: _ => by simp [PyData.eqvAll]
  | _ :: _, [] => by simp [PyData.eqvAll]
  | x :: xs, y :: ys => by
    rw [List.map_cons, List.map_cons, PyData.eqvAll, hf, eqvAll_map hf]
    by_cases h1 : x = y <;> by_cases h2 : xs = ys <;> simp [h1, h2]
theorem eqv_tup {α : Type} [DecidableEq α] {f : α → PD} (hf : ∀ a b, PyData.eqv (f a) (f b) = decide (a = b)) (xs ys : List α) : PyData.eqv (.tuple (xs.map f)) (.tuple (ys.map f)) = decide (xs = ys) := by
  rw [PyData.eqv, eqvAll_map hf]
theorem eqv_lst {α : Type} [DecidableEq α] {f : α → PD} (hf : ∀ a b, PyData.eqv (f a) (f b) = decide (a = b)) (xs ys : List α) : PyData.eqv (.list (xs.map f)) (.list (ys.map f)) = decide (xs = ys) := by
  rw [PyData.eqv, eqvAll_map hf]
theorem shal_int (n : Nat) (i : Int) : shal n (.int i) = true := by cases n <;> rfl
theorem shal_tup {α : Type} {f : α → PD} {n : Nat} (xs : List α) (hf : ∀ a ∈ xs, shal n (f a) = true) : shal (n + 1) (.tuple (xs.map f)) = true := by
  rw [shal, List.all_map, List.all_eq_true]
  exact fun a ha => hf a ha
theorem shal_lst {α : Type} {f : α → PD} {n : Nat} (xs : List α) (hf : ∀ a ∈ xs, shal n (f a) = true) : shal (n + 1) (.list (xs.map f)) = true := by
  rw [shal, List.all_map, List.all_eq_true]
  exact fun a ha => hf a ha
/-! ### order -/
theorem dlt_ints (xs ys : List Int) : W.dataLt (.tuple (xs.map .int)) (.tuple (ys.map .int)) = decide (xs < ys) := (W.dataLt_tuple _ _).trans (W.dataLt_ints xs ys)
theorem alike_ints (xs ys : List Int) : W.alike (.tuple (xs.map .int)) (.tuple (ys.map .int)) = true := by
  rw [W.alike]
  exact W.alikeAll_map (α := Int) xs ys
section
variable {α : Type} {enc : α → PD} {lt : α → α → Bool}
def insG (lt : α → α → Bool) (x : α) : List α → List α
  | [] => [x]
  | y :: ys => if !lt y x then x :: y :: ys else y :: insG lt x ys
def sortG (lt : α → α → Bool) : List α → List α
  | [] => []
  | x :: xs => insG lt x (sortG lt xs)
def minG (lt : α → α → Bool) (x : α) (xs : List α) : α := xs.foldl (fun a y => if lt y a then y else a) x
def maxG (lt : α → α → Bool) (x : α) (xs : List α) : α := xs.foldl (fun a y => if lt a y then y else a) x
theorem ins_map (h : ∀ a b, W.dataLt (enc a) (enc b) = lt a b) (x : α) : ∀ xs : List α, insD (enc x) (xs.map enc) = (insG lt x xs).map enc
  | [] => rfl
  | y :: ys => by
    rw [List.map_cons, insD, insG, h, ins_map h x ys]
    cases lt y x <;> rfl
theorem sort_map (h : ∀ a b, W.dataLt (enc a) (enc b) = lt a b) : ∀ xs : List α, sortD (xs.map enc) = (sortG lt xs).map enc
  | [] => rfl
  | x :: xs => by rw [List.map_cons, sortD, sort_map h xs, ins_map h, sortG]
theorem min_map (h : ∀ a b, W.dataLt (enc a) (enc b) = lt a b) : ∀ (xs : List α) (x : α), W.minD (enc x) (xs.map enc) = enc (minG lt x xs)
  | [], _ => rfl
  | y :: ys, x => by
    unfold W.minD minG
    rw [List.map_cons, List.foldl_cons, List.foldl_cons, h]
    cases lt y x
    · exact min_map h ys x
    · exact min_map h ys y
theorem max_map (h : ∀ a b, W.dataLt (enc a) (enc b) = lt a b) : ∀ (xs : List α) (x : α), W.maxD (enc x) (xs.map enc) = enc (maxG lt x xs)
  | [], _ => rfl
  | y :: ys, x => by
    unfold W.maxD maxG
    rw [List.map_cons, List.foldl_cons, List.foldl_cons, h]
    cases lt x y
    · exact max_map h ys x
    · exact max_map h ys y
theorem alikeB_map (h : ∀ a b, W.alike (enc a) (enc b) = true) (xs : List α) : alikeB (xs.map enc) = true := by
  unfold alikeB
  rw [List.all_map, List.all_eq_true]
  intro a _
  show (xs.map enc).all _ = true
  rw [List.all_map, List.all_eq_true]
  exact fun b _ => h a b
theorem all_map_t {f : PD → Bool} {xs : List α} (h : ∀ a ∈ xs, f (enc a) = true) : (xs.map enc).all f = true := by
  rw [List.all_map, List.all_eq_true]
  exact h
/-- sorted(..) of things coded alike -/
theorem sorted_map {xs : List α} (hl : ∀ a b, W.dataLt (enc a) (enc b) = lt a b) (ha : ∀ a b, W.alike (enc a) (enc b) = true) (ht : (∀ a ∈ xs, allTup1 [enc a] = true) ∨ ∀ a ∈ xs, noTup [enc a] = true) (hs : ∀ a ∈ xs, shal 39 (enc a) = true) (hn : xs.length ≤ 100000) : sortOk (xs.map enc) = true ∧ sortD (xs.map enc) = (sortG lt xs).map enc := by
  refine ⟨?_, sort_map hl xs⟩
  unfold sortOk
  rw [alikeB_map ha, all_map_t hs, List.length_map, decide_eq_true hn]
  have : (allTup1 (xs.map enc) || noTup (xs.map enc)) = true := by
    rw [Bool.or_eq_true]
    rcases ht with ht | ht
    · refine .inl (all_map_t fun a ha => ?_)
      have := ht a ha
      simpa [allTup1] using this
    · refine .inr (all_map_t fun a ha => ?_)
      have := ht a ha
      simpa [noTup] using this
  rw [this]; rfl
theorem minOk_map (ha : ∀ a b, W.alike (enc a) (enc b) = true) (hn : ∀ a, enc a ≠ .none) {xs : List α} (hs : ∀ a ∈ xs, shal 39 (enc a) = true) : (alikeB (xs.map enc) && noNone (xs.map enc) && (xs.map enc).all (shal 39)) = true := by
  rw [alikeB_map ha, all_map_t hs]
  have : noNone (xs.map enc) = true := by
    refine all_map_t fun a _ => ?_
    have := hn a
    cases e : enc a <;> simp_all
  rw [this]; rfl
theorem min1l_map (hl : ∀ a b, W.dataLt (enc a) (enc b) = lt a b) (ha : ∀ a b, W.alike (enc a) (enc b) = true) (hn : ∀ a, enc a ≠ .none) {x : α} {xs : List α} (hs : ∀ a ∈ x :: xs, shal 39 (enc a) = true) : bltop .min1 [.list ((x :: xs).map enc)] = some (enc (minG lt x xs), false) := by
  have := minOk_map ha hn hs
  rw [List.map_cons] at this ⊢
  show (if _ then _ else _) = _
  rw [if_pos this, min_map hl]
theorem max1l_map (hl : ∀ a b, W.dataLt (enc a) (enc b) = lt a b) (ha : ∀ a b, W.alike (enc a) (enc b) = true) (hn : ∀ a, enc a ≠ .none) {x : α} {xs : List α} (hs : ∀ a ∈ x :: xs, shal 39 (enc a) = true) : bltop .max1 [.list ((x :: xs).map enc)] = some (enc (maxG lt x xs), false) := by
  have := minOk_map ha hn hs
  rw [List.map_cons] at this ⊢
  show (if _ then _ else _) = _
  rw [if_pos this, max_map hl]
end
def ltI (a b : Int) : Bool := decide (a < b)
theorem min1_ints (x : Int) (xs : List Int) : bltop .min1 [.list ((x :: xs).map .int)] = some (.int (minG ltI x xs), false) :=
  min1l_map (enc := PyData.int) W.dataLt_int (fun a b => by rw [W.alike]) (fun _ e => by cases e) fun _ _ => shal_int _ _
/-! ### the least -/
theorem minG_mem {α : Type} (lt : α → α → Bool) : ∀ (xs : List α) (x : α), minG lt x xs ∈ x :: xs
  | [], x => .head _
  | y :: ys, x => by
    unfold minG
    rw [List.foldl_cons]
    have := minG_mem lt ys (if lt y x then y else x)
    unfold minG at this
    cases h : lt y x <;> simp only [h] at this ⊢ <;> rcases List.mem_cons.mp this with e | m <;> simp_all
theorem minG_not {α : Type} {lt : α → α → Bool} (asy : ∀ a b, lt a b = true → lt b a = false) (tr : ∀ a b c, lt b a = false → lt c b = false → lt c a = false) : ∀ (xs : List α) (x : α), ∀ y ∈ x :: xs, lt y (minG lt x xs) = false := by
  have ir : ∀ a, lt a a = false := fun a => by
    cases h : lt a a with
    | false => rfl
    | true => exact absurd h (by rw [asy a a h]; simp)
  intro xs
  induction xs with
  | nil =>
    intro x y hy
    simp at hy
    subst hy
    exact ir _
  | cons z zs ih =>
    intro x y hy
    show lt y (minG lt (if lt z x then z else x) zs) = false
    cases h : lt z x with
    | false =>
      have ih := ih x
      rcases List.mem_cons.mp hy with e | hy
      · exact e ▸ ih x (.head _)
      · rcases List.mem_cons.mp hy with e | hy
        · rw [e]; exact tr _ _ _ (ih x (.head _)) h
        · exact ih y (.tail _ hy)
    | true =>
      have ih := ih z
      rcases List.mem_cons.mp hy with e | hy
      · rw [e]; exact tr _ _ _ (ih z (.head _)) (asy _ _ h)
      · exact ih y hy
theorem minI_le (x : Int) (xs : List Int) : ∀ y ∈ x :: xs, minG ltI x xs ≤ y := fun y hy => by
  have := minG_not (lt := ltI) (fun a b => by unfold ltI; simp; omega) (fun a b c => by unfold ltI; simp; omega) xs x y hy
  have e : decide (y < minG ltI x xs) = false := this
  simpa using e
/-! ### places of what is coded -/
section
variable {α : Type} {enc : α → PD}
theorem subT_at {xs : List α} {i : Nat} {a : α} (h : xs[i]? = some a) : subop (.tuple (xs.map enc)) (.int (i : Int)) = some (enc a) := by
  have hl : i < xs.length := (List.getElem?_eq_some_iff.mp h).1
  rw [q_subt, ix_nat (by simpa using hl), q_sub1, List.getElem?_map, h]
  rfl
theorem subL_at {xs : List α} {i : Nat} {a : α} (h : xs[i]? = some a) : subop (.list (xs.map enc)) (.int (i : Int)) = some (enc a) := by
  have hl : i < xs.length := (List.getElem?_eq_some_iff.mp h).1
  rw [q_subl, ix_nat (by simpa using hl), q_sub1, List.getElem?_map, h]
  rfl
theorem subT_0 (x : α) (xs : List α) : subop (.tuple ((x :: xs).map enc)) (.int 0) = some (enc x) := subT_at (i := 0) rfl
theorem subL_0 (x : α) (xs : List α) : subop (.list ((x :: xs).map enc)) (.int 0) = some (enc x) := subL_at (i := 0) rfl
end
/-! ### bits -/
def bI (b : Bool) : Int := if b then 1 else 0
abbrev bP (b : Bool) : PD := .int (bI b)
abbrev lnP (l : List Bool) : PD := .tuple (l.map bP)
abbrev lnsT (c : List (List Bool)) : PD := .tuple (c.map lnP)
abbrev lnsL (c : List (List Bool)) : PD := .list (c.map lnP)
theorem bI_inj {a b : Bool} : bI a = bI b ↔ a = b := by cases a <;> cases b <;> simp [bI]
theorem lnP_eq (l : List Bool) : lnP l = .tuple ((l.map bI).map PyData.int) := by unfold lnP; rw [List.map_map]; rfl
theorem eqv_b (a b : Bool) : PyData.eqv (bP a) (bP b) = decide (a = b) := (eqv_int _ _).trans (decide_eq_decide.mpr bI_inj)
theorem eqv_ln (a b : List Bool) : PyData.eqv (lnP a) (lnP b) = decide (a = b) := eqv_tup eqv_b a b
theorem shal_ln (n : Nat) (a : List Bool) : shal (n + 1) (lnP a) = true := shal_tup _ fun _ _ => shal_int _ _
theorem shal_lns (n : Nat) (c : List (List Bool)) : shal (n + 2) (lnsT c) = true := shal_tup _ fun _ _ => shal_ln _ _
theorem shal_lnsL (n : Nat) (c : List (List Bool)) : shal (n + 2) (lnsL c) = true := shal_lst _ fun _ _ => shal_ln _ _
theorem eqv_lns (a b : List (List Bool)) : PyData.eqv (lnsT a) (lnsT b) = decide (a = b) := eqv_tup eqv_ln a b
theorem eqv_lnsL (a b : List (List Bool)) : PyData.eqv (lnsL a) (lnsL b) = decide (a = b) := eqv_lst eqv_ln a b
theorem alike_ln (a b : List Bool) : W.alike (lnP a) (lnP b) = true := by rw [lnP_eq, lnP_eq]; exact alike_ints _ _
theorem keyItems_int : ∀ ns : List Int, keyItems (ns.map .int) = some (ns.map .inl)
  | [] => rfl
  | n :: r => by
    rw [List.map_cons, keyItems, keyItems_int r]; rfl
theorem isKey_ints (ns : List Int) : isKey (.tuple (ns.map .int)) = true := by
  unfold isKey keyD
  simp only [keyItems_int]
  rfl
theorem isKey_ln (a : List Bool) : isKey (lnP a) = true := by rw [lnP_eq]; exact isKey_ints _
/-! ### all, any, sum of what is coded -/
theorem all_tt {α : Type} (xs : List α) : xs.all (fun _ => true) = true := List.all_eq_true.mpr fun _ _ => rfl
theorem all_map {α : Type} (g : α → Bool) (xs : List α) : bltop .all [.list ((xs.map g).map .bool)] = some (.bool (xs.all g), false) := by
  rw [bools_all, List.all_map]; rfl
theorem any_map {α : Type} (g : α → Bool) (xs : List α) : bltop .any [.list ((xs.map g).map .bool)] = some (.bool (xs.any g), false) := by
  rw [bools_any, List.any_map]; rfl
theorem suml_map {α : Type} (g : α → Int) (xs : List α) : bltop .sum [.list (xs.map fun x => .int (g x))] = some (.int (xs.map g).sum, false) := by
  rw [← q_suml, List.map_map]; rfl
theorem sumt_map {α : Type} (g : α → Int) (xs : List α) : bltop .sum [.tuple (xs.map fun x => .int (g x))] = some (.int (xs.map g).sum, false) := by
  rw [← q_sumt, List.map_map]; rfl
theorem sum_ln (l : List Bool) : bltop .sum [lnP l] = some (.int (l.map bI).sum, false) := sumt_map bI l
/-! the IR of the text, printed by gen.py -/
open PySem Pev
/- is_integer ['thing'] -/
def b_is_integer : IB := (.cons (.ret (.and (.blt .isInt (.cons (.var 0) .nil)) (.not (.blt .isBool (.cons (.var 0) .nil))))) .nil)
def d_is_integer : FDef := ⟨1, 1, b_is_integer⟩
/- is_within ['thing', 'low', 'high'] -/
def b_is_within : IB := (.cons (.ret (.and (.call 0 (.cons (.var 0) .nil)) (.chn .le .le (.var 1) (.var 0) (.var 2)))) .nil)
def d_is_within : FDef := ⟨3, 3, b_is_within⟩
/- is_tuple ['thing', 'least', 'most'] -/
def b_is_tuple : IB := (.cons (.ret (.and (.blt .isTuple (.cons (.var 0) .nil)) (.chn .le .le (.var 1) (.blt .len (.cons (.var 0) .nil)) (.var 2)))) .nil)
def d_is_tuple : FDef := ⟨3, 3, b_is_tuple⟩
/- back_number ['one', 'p', 'other'] -/
def b_back_number : IB := (.cons (.ret (.sub (.lc (.var 2) (.nm 2) (.rng2 (.cst (.int 1)) (.var 1)) (.val (.cmp .eq (.bin .mod (.bin .mul (.var 0) (.var 2)) (.var 1)) (.cst (.int 1)))) [2]) (.cst (.int 0)))) .nil)
def d_back_number : FDef := ⟨2, 3, b_back_number⟩
/- echelon_by ['rows', 'p', 'left', 'found', 'one', 'row', 'at', 'good', 'number', 'by', 'other'] -/
def b_echelon_by : IB := (.cons (.par [2, 3] (.cons (.lc (.lc (.bin .mod (.var 4) (.var 1)) (.nm 4) (.seq (.var 5)) .yes [4]) (.nm 5) (.seq (.var 0)) .yes [5]) (.cons (.lst .nil) .nil))) (.cons (.fors (.nm 6) (.rng1 (.blt .len (.cons (.sub (.var 0) (.cst (.int 0))) .nil))) (.cons (.asg (.nm 7) (.lc (.var 8) (.tp [8, 5]) (.enm (.var 2)) (.val (.cmp .ne (.sub (.var 5) (.var 6)) (.cst (.int 0)))) [8, 5])) (.cons (.ifs (.val (.cmp .gt (.blt .len (.cons (.var 7) .nil)) (.cst (.int 0)))) (.cons (.asg (.nm 5) (.sub (.var 2) (.sub (.var 7) (.cst (.int 0))))) (.cons (.asg (.nm 9) (.call 3 (.cons (.sub (.var 5) (.var 6)) (.cons (.var 1) .nil)))) (.cons (.asg (.nm 5) (.lc (.bin .mod (.bin .mul (.var 4) (.var 9)) (.var 1)) (.nm 4) (.seq (.var 5)) .yes [4])) (.cons (.asg (.nm 2) (.lc (.var 10) (.tp [8, 10]) (.enm (.var 2)) (.val (.cmp .ne (.var 8) (.sub (.var 7) (.cst (.int 0))))) [8, 10])) (.cons (.asg (.nm 2) (.lc (.call 5 (.cons (.var 10) (.cons (.var 5) (.cons (.var 6) (.cons (.var 1) .nil))))) (.nm 10) (.seq (.var 2)) .yes [10])) (.cons (.asg (.nm 3) (.bin .add (.lc (.call 5 (.cons (.var 10) (.cons (.var 5) (.cons (.var 6) (.cons (.var 1) .nil))))) (.nm 10) (.seq (.var 3)) .yes [10]) (.lst (.cons (.var 5) .nil)))) .nil)))))) .nil) .nil))) (.cons (.ret (.var 3)) .nil)))
def d_echelon_by : FDef := ⟨2, 11, b_echelon_by⟩
/- cleared_by ['line', 'row', 'at', 'p', 'one', 'other'] -/
def b_cleared_by : IB := (.cons (.ret (.lc (.bin .mod (.bin .sub (.var 4) (.bin .mul (.sub (.var 0) (.var 2)) (.var 5))) (.var 3)) (.tp [4, 5]) (.zip (.var 0) (.var 1)) .yes [4, 5])) .nil)
def d_cleared_by : FDef := ⟨4, 6, b_cleared_by⟩
/- rank_by ['rows', 'p'] -/
def b_rank_by : IB := (.cons (.ret (.blt .len (.cons (.call 4 (.cons (.var 0) (.cons (.var 1) .nil))) .nil))) .nil)
def d_rank_by : FDef := ⟨2, 2, b_rank_by⟩
/- is_bits ['thing', 'many', 'one'] -/
def b_is_bits : IB := (.cons (.ret (.and (.call 2 (.cons (.var 0) (.cons (.var 1) (.cons (.var 1) .nil)))) (.blt .all (.cons (.lc (.call 1 (.cons (.var 2) (.cons (.cst (.int 0)) (.cons (.cst (.int 1)) .nil)))) (.nm 2) (.seq (.var 0)) .yes [2]) .nil)))) .nil)
def d_is_bits : FDef := ⟨2, 3, b_is_bits⟩
/- is_bit_square ['thing', 'many', 'row'] -/
def b_is_bit_square : IB := (.cons (.ret (.and (.call 2 (.cons (.var 0) (.cons (.var 1) (.cons (.var 1) .nil)))) (.blt .all (.cons (.lc (.call 7 (.cons (.var 2) (.cons (.var 1) .nil))) (.nm 2) (.seq (.var 0)) .yes [2]) .nil)))) .nil)
def d_is_bit_square : FDef := ⟨2, 3, b_is_bit_square⟩
/- check_q ['rows', 'at', 'row'] -/
def b_check_q : IB := (.cons (.ifs (.or (.not (.val (.call 2 (.cons (.var 0) (.cons (.cst (.int 1)) (.cons (.cst (.int 4)) .nil)))))) (.not (.val (.call 8 (.cons (.var 0) (.cons (.blt .len (.cons (.var 0) .nil)) .nil)))))) (.cons (.rse 1) .nil) .nil) (.cons (.ifs (.val (.blt .any (.cons (.lc (.blt .any (.cons (.slc (.var 2) .no (.yes (.var 1))) .nil)) (.tp [1, 2]) (.enm (.var 0)) .yes [1, 2]) .nil))) (.cons (.rse 1) .nil) .nil) .nil))
def d_check_q : FDef := ⟨1, 3, b_check_q⟩
/- worth_of ['rows', 'line', 'size', 'j', 'i'] -/
def b_worth_of : IB := (.cons (.asg (.nm 2) (.blt .lrng (.cons (.blt .len (.cons (.var 0) .nil)) .nil))) (.cons (.ret (.bin .mod (.blt .sum (.cons (.lc (.blt .sum (.cons (.lc (.bin .mul (.bin .mul (.sub (.sub (.var 0) (.var 4)) (.var 3)) (.sub (.var 1) (.var 4))) (.sub (.var 1) (.var 3))) (.nm 3) (.seq (.var 2)) (.val (.cmp .ge (.var 3) (.var 4))) [3]) .nil)) (.nm 4) (.seq (.var 2)) .yes [4]) .nil)) (.cst (.int 2)))) .nil))
def d_worth_of : FDef := ⟨2, 5, b_worth_of⟩
/- q_worth ['rows', 'line'] -/
def b_q_worth : IB := (.cons (.exp (.call 9 (.cons (.var 0) .nil))) (.cons (.ifs (.not (.val (.call 7 (.cons (.var 1) (.cons (.blt .len (.cons (.var 0) .nil)) .nil))))) (.cons (.rse 0) .nil) .nil) (.cons (.ret (.call 10 (.cons (.var 0) (.cons (.var 1) .nil)))) .nil)))
def d_q_worth : FDef := ⟨2, 2, b_q_worth⟩
/- pairs_of ['rows', 'size', 'j', 'i'] -/
def b_pairs_of : IB := (.cons (.asg (.nm 1) (.blt .lrng (.cons (.blt .len (.cons (.var 0) .nil)) .nil))) (.cons (.ret (.blt .tuple (.cons (.lc (.blt .tuple (.cons (.lc (.ite (.val (.cmp .eq (.var 3) (.var 2))) (.cst (.int 0)) (.bin .mod (.bin .add (.sub (.sub (.var 0) (.var 3)) (.var 2)) (.sub (.sub (.var 0) (.var 2)) (.var 3))) (.cst (.int 2)))) (.nm 2) (.seq (.var 1)) .yes [2]) .nil)) (.nm 3) (.seq (.var 1)) .yes [3]) .nil))) .nil))
def d_pairs_of : FDef := ⟨1, 4, b_pairs_of⟩
/- q_pairs ['rows'] -/
def b_q_pairs : IB := (.cons (.exp (.call 9 (.cons (.var 0) .nil))) (.cons (.ret (.call 12 (.cons (.var 0) .nil))) .nil))
def d_q_pairs : FDef := ⟨1, 1, b_q_pairs⟩
/- all_bits ['many', 'found', 'turn', 'longer', 'line'] -/
def b_all_bits : IB := (.cons (.asg (.nm 1) (.lst (.cons (.tup .nil) .nil))) (.cons (.fors (.nm 2) (.rng1 (.var 0)) (.cons (.asg (.nm 3) (.lst .nil)) (.cons (.fors (.nm 4) (.seq (.var 1)) (.cons (.ext 3 (.lst (.cons (.bin .add (.var 4) (.tup (.cons (.cst (.int 0)) .nil))) (.cons (.bin .add (.var 4) (.tup (.cons (.cst (.int 1)) .nil))) .nil)))) .nil)) (.cons (.asg (.nm 1) (.var 3)) .nil)))) (.cons (.ret (.var 1)) .nil)))
def d_all_bits : FDef := ⟨1, 5, b_all_bits⟩
/- counts_of ['rows', 'some', 'line'] -/
def b_counts_of : IB := (.cons (.asg (.nm 1) (.lc (.call 10 (.cons (.var 0) (.cons (.var 2) .nil))) (.nm 2) (.seq (.call 14 (.cons (.blt .len (.cons (.var 0) .nil)) .nil))) .yes [2])) (.cons (.ret (.tup (.cons (.mth .count (.var 1) (.cons (.cst (.int 0)) .nil)) (.cons (.mth .count (.var 1) (.cons (.cst (.int 1)) .nil)) .nil)))) .nil))
def d_counts_of : FDef := ⟨1, 3, b_counts_of⟩
/- q_counts ['rows'] -/
def b_q_counts : IB := (.cons (.exp (.call 9 (.cons (.var 0) .nil))) (.cons (.ret (.call 15 (.cons (.var 0) .nil))) .nil))
def d_q_counts : FDef := ⟨1, 1, b_q_counts⟩
/- marks_of ['rows'] -/
def b_marks_of : IB := (.cons (.ret (.tup (.cons (.call 6 (.cons (.call 12 (.cons (.var 0) .nil)) (.cons (.cst (.int 2)) .nil))) (.cons (.sub (.call 15 (.cons (.var 0) .nil)) (.cst (.int 0))) .nil)))) .nil)
def d_marks_of : FDef := ⟨1, 1, b_marks_of⟩
/- q_marks ['rows'] -/
def b_q_marks : IB := (.cons (.exp (.call 9 (.cons (.var 0) .nil))) (.cons (.ret (.call 17 (.cons (.var 0) .nil))) .nil))
def d_q_marks : FDef := ⟨1, 1, b_q_marks⟩
/- paired ['pairs', 'one', 'other', 'size', 'j', 'i'] -/
def b_paired : IB := (.cons (.asg (.nm 3) (.blt .lrng (.cons (.blt .len (.cons (.var 0) .nil)) .nil))) (.cons (.ret (.bin .mod (.blt .sum (.cons (.lc (.blt .sum (.cons (.lc (.bin .mul (.bin .mul (.sub (.sub (.var 0) (.var 5)) (.var 4)) (.sub (.var 1) (.var 5))) (.sub (.var 2) (.var 4))) (.nm 4) (.seq (.var 3)) .yes [4]) .nil)) (.nm 5) (.seq (.var 3)) .yes [5]) .nil)) (.cst (.int 2)))) .nil))
def d_paired : FDef := ⟨3, 6, b_paired⟩
/- by_columns ['rows', 'columns', 'pairs', 'size', 'found', 'i', 'row', 'j'] -/
def b_by_columns : IB := (.cons (.par [2, 3] (.cons (.call 12 (.cons (.var 0) .nil)) (.cons (.blt .len (.cons (.var 0) .nil)) .nil))) (.cons (.asg (.nm 4) (.lst .nil)) (.cons (.fors (.nm 5) (.rng1 (.var 3)) (.cons (.asg (.nm 6) (.lc (.ite (.val (.cmp .gt (.var 7) (.var 5))) (.call 19 (.cons (.var 2) (.cons (.sub (.var 1) (.var 5)) (.cons (.sub (.var 1) (.var 7)) .nil)))) (.cst (.int 0))) (.nm 7) (.rng1 (.var 3)) .yes [7])) (.cons (.sset 6 (.var 5) (.call 10 (.cons (.var 0) (.cons (.sub (.var 1) (.var 5)) .nil)))) (.cons (.app 4 (.blt .tuple (.cons (.var 6) .nil))) .nil)))) (.cons (.ret (.blt .tuple (.cons (.var 4) .nil))) .nil))))
def d_by_columns : FDef := ⟨2, 8, b_by_columns⟩
/- columns_of ['turn', 'row', 'j'] -/
def b_columns_of : IB := (.cons (.ret (.lc (.blt .tuple (.cons (.lc (.sub (.var 1) (.var 2)) (.nm 1) (.seq (.var 0)) .yes [1]) .nil)) (.nm 2) (.rng1 (.blt .len (.cons (.var 0) .nil))) .yes [2])) .nil)
def d_columns_of : FDef := ⟨1, 3, b_columns_of⟩
/- q_by ['rows', 'turn'] -/
def b_q_by : IB := (.cons (.exp (.call 9 (.cons (.var 0) .nil))) (.cons (.ifs (.not (.val (.call 8 (.cons (.var 1) (.cons (.blt .len (.cons (.var 0) .nil)) .nil))))) (.cons (.rse 2) .nil) .nil) (.cons (.ret (.call 20 (.cons (.var 0) (.cons (.call 21 (.cons (.var 1) .nil)) .nil)))) .nil)))
def d_q_by : FDef := ⟨2, 2, b_q_by⟩
/- law_hand ['script', 'cells', 'cell'] -/
def b_law_hand : IB := (.cons (.asg (.nm 1) (.lc (.blt .abs (.cons (.blt .int (.cons (.var 2) .nil)) .nil)) (.nm 2) (.seq (.scut 0 63)) .yes [2])) (.cons (.ret (.lst (.cons (.var 1) (.cons (.cst (.int 0)) (.cons (.cst (.int 0)) (.cons (.bin .add (.cst (.int 1493)) (.bin .mul (.cst (.int 79)) (.blt .len (.cons (.var 1) .nil)))) (.cons (.cst (.int 0)) .nil))))))) .nil))
def d_law_hand : FDef := ⟨1, 3, b_law_hand⟩
/- law_draw ['hand', 'many', 'cell', 'digit', 'number'] -/
def b_law_draw : IB := (.cons (.ifs (.and (.val (.cmp .eq (.sub (.var 0) (.cst (.int 2))) (.cst (.int 0)))) (.val (.cmp .lt (.sub (.var 0) (.cst (.int 1))) (.blt .len (.cons (.sub (.var 0) (.cst (.int 0))) .nil))))) (.cons (.asg (.nm 2) (.sub (.sub (.var 0) (.cst (.int 0))) (.sub (.var 0) (.cst (.int 1))))) (.cons (.sset 0 (.cst (.int 1)) (.bin .add (.sub (.var 0) (.cst (.int 1))) (.cst (.int 1)))) (.cons (.sset 0 (.cst (.int 3)) (.bin .mod (.blt .int (.cons (.bin .add (.bin .add (.bin .mul (.sub (.var 0) (.cst (.int 3))) (.cst (.int 48271))) (.bin .mul (.var 2) (.cst (.int 5)))) (.cst (.int 29))) .nil)) (.cst (.int 2147483587)))) (.cons (.sset 0 (.cst (.int 2)) (.ite (.val (.cmp .ge (.var 2) (.bin .pow (.cst (.int 10)) (.cst (.int 18))))) (.var 2) (.cst (.int 0)))) .nil)))) .nil) (.cons (.ifs (.val (.cmp .gt (.sub (.var 0) (.cst (.int 2))) (.cst (.int 0)))) (.cons (.asg (.nm 3) (.bin .mod (.blt .int (.cons (.sub (.var 0) (.cst (.int 2))) .nil)) (.var 1))) (.cons (.sset 0 (.cst (.int 2)) (.bin .fdiv (.sub (.var 0) (.cst (.int 2))) (.var 1))) (.cons (.ret (.var 3)) .nil))) .nil) (.cons (.sset 0 (.cst (.int 4)) (.bin .add (.sub (.var 0) (.cst (.int 4))) (.cst (.int 1)))) (.cons (.asg (.nm 4) (.bin .mod (.blt .int (.cons (.bin .mul (.blt .int (.cons (.bin .add (.sub (.var 0) (.cst (.int 3))) (.bin .mul (.cst (.int 7877)) (.sub (.var 0) (.cst (.int 4))))) .nil)) (.cst (.int 69621))) .nil)) (.cst (.int 2147483647)))) (.cons (.asg (.nm 4) (.bin .mod (.blt .int (.cons (.bin .mul (.var 4) (.bin .add (.bin .fdiv (.var 4) (.cst (.int 1103))) (.cst (.int 40692)))) .nil)) (.cst (.int 2147483399)))) (.cons (.asg (.nm 4) (.bin .mod (.blt .int (.cons (.bin .mul (.var 4) (.bin .add (.bin .fdiv (.var 4) (.cst (.int 2311))) (.cst (.int 48271)))) .nil)) (.cst (.int 2147483629)))) (.cons (.ret (.bin .mod (.blt .int (.cons (.bin .fdiv (.var 4) (.cst (.int 16))) .nil)) (.var 1))) .nil)))))))
def d_law_draw : FDef := ⟨2, 5, b_law_draw⟩
/- law_some ['hand', 'things'] -/
def b_law_some : IB := (.cons (.ret (.sub (.var 1) (.call 24 (.cons (.var 0) (.cons (.blt .len (.cons (.var 1) .nil)) .nil))))) .nil)
def d_law_some : FDef := ⟨2, 2, b_law_some⟩
/- law_rows ['hand', 'high', 'wide', 'numbers', 'place', 'row'] -/
def b_law_rows : IB := (.cons (.ret (.blt .tuple (.cons (.lc (.blt .tuple (.cons (.lc (.call 25 (.cons (.var 0) (.cons (.var 3) .nil))) (.nm 4) (.rng1 (.var 2)) .yes [4]) .nil)) (.nm 5) (.rng1 (.var 1)) .yes [5]) .nil))) .nil)
def d_law_rows : FDef := ⟨4, 6, b_law_rows⟩
/- law_turned ['rows', 'row', 'place'] -/
def b_law_turned : IB := (.cons (.ret (.blt .tuple (.cons (.lc (.blt .tuple (.cons (.lc (.sub (.var 1) (.var 2)) (.nm 1) (.seq (.var 0)) .yes [1]) .nil)) (.nm 2) (.rng1 (.blt .len (.cons (.sub (.var 0) (.cst (.int 0))) .nil))) .yes [2]) .nil))) .nil)
def d_law_turned : FDef := ⟨1, 3, b_law_turned⟩
/- law_product ['one', 'other', 'its', 'a', 'b', 'column', 'row'] -/
def b_law_product : IB := (.cons (.asg (.nm 2) (.call 27 (.cons (.var 1) .nil))) (.cons (.ret (.blt .tuple (.cons (.lc (.blt .tuple (.cons (.lc (.blt .sum (.cons (.lc (.bin .mul (.var 3) (.var 4)) (.tp [3, 4]) (.zip (.var 6) (.var 5)) .yes [3, 4]) .nil)) (.nm 5) (.seq (.var 2)) .yes [5]) .nil)) (.nm 6) (.seq (.var 0)) .yes [6]) .nil))) .nil))
def d_law_product : FDef := ⟨2, 7, b_law_product⟩
/- law_led ['rows', 'line', 'a', 'b', 'row'] -/
def b_law_led : IB := (.cons (.ret (.blt .tuple (.cons (.lc (.blt .sum (.cons (.lc (.bin .mul (.var 2) (.var 3)) (.tp [2, 3]) (.zip (.var 4) (.var 1)) .yes [2, 3]) .nil)) (.nm 4) (.seq (.var 0)) .yes [4]) .nil))) .nil)
def d_law_led : FDef := ⟨2, 5, b_law_led⟩
/- law_lines ['size', 'found', 'place', 'line'] -/
def b_law_lines : IB := (.cons (.asg (.nm 1) (.lst (.cons (.tup .nil) .nil))) (.cons (.fors (.nm 2) (.rng1 (.var 0)) (.cons (.asg (.nm 1) (.bin .add (.lc (.bin .add (.var 3) (.tup (.cons (.cst (.int 0)) .nil))) (.nm 3) (.seq (.var 1)) .yes [3]) (.lc (.bin .add (.var 3) (.tup (.cons (.cst (.int 1)) .nil))) (.nm 3) (.seq (.var 1)) .yes [3]))) .nil)) (.cons (.ret (.blt .sorted (.cons (.var 1) .nil))) .nil)))
def d_law_lines : FDef := ⟨1, 4, b_law_lines⟩
/- law_q ['hand', 'most', 'size', 'rows', 'at', 'row'] -/
def b_law_q : IB := (.cons (.asg (.nm 2) (.bin .add (.cst (.int 1)) (.call 24 (.cons (.var 0) (.cons (.var 1) .nil))))) (.cons (.asg (.nm 3) (.call 26 (.cons (.var 0) (.cons (.var 2) (.cons (.var 2) (.cons (.call 25 (.cons (.var 0) (.cons (.lst (.cons (.lst (.cons (.cst (.int 0)) (.cons (.cst (.int 1)) .nil))) (.cons (.lst (.cons (.cst (.int 0)) (.cons (.cst (.int 0)) (.cons (.cst (.int 1)) .nil)))) (.cons (.lst (.cons (.cst (.int 1)) .nil)) .nil)))) .nil))) .nil)))))) (.cons (.ret (.blt .tuple (.cons (.lc (.bin .add (.bin .mul (.tup (.cons (.cst (.int 0)) .nil)) (.var 4)) (.slc (.var 5) (.yes (.var 4)) .no)) (.tp [4, 5]) (.enm (.var 3)) .yes [4, 5]) .nil))) .nil)))
def d_law_q : FDef := ⟨2, 6, b_law_q⟩
/- law_worth ['rows', 'line', 'total', 'a', 'row', 'b'] -/
def b_law_worth : IB := (.cons (.asg (.nm 2) (.cst (.int 0))) (.cons (.fors (.tp [3, 4]) (.enm (.var 0)) (.cons (.asg (.nm 2) (.bin .add (.var 2) (.blt .sum (.cons (.lc (.bin .mul (.bin .mul (.sub (.var 4) (.var 5)) (.sub (.var 1) (.var 3))) (.sub (.var 1) (.var 5))) (.nm 5) (.rng1 (.blt .len (.cons (.var 4) .nil))) .yes [5]) .nil)))) .nil)) (.cons (.ret (.bin .mod (.blt .int (.cons (.var 2) .nil)) (.cst (.int 2)))) .nil)))
def d_law_worth : FDef := ⟨2, 6, b_law_worth⟩
/- law_mod ['rows', 'one', 'row'] -/
def b_law_mod : IB := (.cons (.ret (.blt .tuple (.cons (.lc (.blt .tuple (.cons (.lc (.bin .mod (.blt .int (.cons (.var 1) .nil)) (.cst (.int 2))) (.nm 1) (.seq (.var 2)) .yes [1]) .nil)) (.nm 2) (.seq (.var 0)) .yes [2]) .nil))) .nil)
def d_law_mod : FDef := ⟨1, 3, b_law_mod⟩
/- law_rank_two ['rows', 'left', 'found', 'row', 'heads', 'place', 'one', 'head', 'its', 'other'] -/
def b_law_rank_two : IB := (.cons (.par [1, 2] (.cons (.lc (.blt .list (.cons (.var 3) .nil)) (.nm 3) (.seq (.var 0)) .yes [3]) (.cons (.cst (.int 0)) .nil))) (.cons (.whl (.val (.cmp .gt (.blt .len (.cons (.var 1) .nil)) (.cst (.int 0)))) (.cons (.asg (.nm 3) (.pop0 1)) (.cons (.asg (.nm 4) (.lc (.var 5) (.tp [5, 6]) (.enm (.var 3)) (.val (.cmp .eq (.var 6) (.cst (.int 1)))) [5, 6])) (.cons (.ifs (.val (.cmp .gt (.blt .len (.cons (.var 4) .nil)) (.cst (.int 0)))) (.cons (.par [2, 7] (.cons (.bin .add (.var 2) (.cst (.int 1))) (.cons (.sub (.var 4) (.cst (.int 0))) .nil))) (.cons (.asg (.nm 1) (.lc (.lc (.bin .mod (.blt .int (.cons (.bin .add (.var 6) (.bin .mul (.sub (.var 9) (.var 7)) (.var 8))) .nil)) (.cst (.int 2))) (.tp [6, 8]) (.zip (.var 9) (.var 3)) .yes [6, 8]) (.nm 9) (.seq (.var 1)) .yes [9])) .nil)) .nil) .nil)))) (.cons (.ret (.var 2)) .nil)))
def d_law_rank_two : FDef := ⟨1, 10, b_law_rank_two⟩
/- law_pairs_of ['rows', 'a', 'b', 'row', 'its'] -/
def b_law_pairs_of : IB := (.cons (.ret (.call 33 (.cons (.lc (.lc (.bin .add (.var 1) (.var 2)) (.tp [1, 2]) (.zip (.var 3) (.var 4)) .yes [1, 2]) (.tp [3, 4]) (.zip (.var 0) (.call 27 (.cons (.var 0) .nil))) .yes [3, 4]) .nil))) .nil)
def d_law_pairs_of : FDef := ⟨1, 5, b_law_pairs_of⟩
/- law_q_by ['rows', 'turn', 'size', 'units', 'place', 'at', 'led', 'one', 'unit', 'found', 'a', 'row', 'b', 'both', 'other'] -/
def b_law_q_by : IB := (.cons (.asg (.nm 2) (.blt .len (.cons (.var 0) .nil))) (.cons (.asg (.nm 3) (.lc (.blt .tuple (.cons (.lc (.blt .int (.cons (.cmp .eq (.var 4) (.var 5)) .nil)) (.nm 4) (.rng1 (.var 2)) .yes [4]) .nil)) (.nm 5) (.rng1 (.var 2)) .yes [5])) (.cons (.asg (.nm 6) (.lc (.blt .tuple (.cons (.lc (.bin .mod (.blt .int (.cons (.var 7) .nil)) (.cst (.int 2))) (.nm 7) (.seq (.call 29 (.cons (.var 1) (.cons (.var 8) .nil)))) .yes [7]) .nil)) (.nm 8) (.seq (.var 3)) .yes [8])) (.cons (.asg (.nm 9) (.lst .nil)) (.cons (.fors (.nm 10) (.rng1 (.var 2)) (.cons (.asg (.nm 11) (.bin .add (.bin .mul (.lst (.cons (.cst (.int 0)) .nil)) (.var 10)) (.lst (.cons (.call 32 (.cons (.var 0) (.cons (.sub (.var 6) (.var 10)) .nil))) .nil)))) (.cons (.fors (.nm 12) (.rng2 (.bin .add (.var 10) (.cst (.int 1))) (.var 2)) (.cons (.asg (.nm 13) (.blt .tuple (.cons (.lc (.bin .mod (.blt .int (.cons (.bin .add (.var 7) (.var 14)) .nil)) (.cst (.int 2))) (.tp [7, 14]) (.zip (.sub (.var 6) (.var 10)) (.sub (.var 6) (.var 12))) .yes [7, 14]) .nil))) (.cons (.app 11 (.bin .mod (.blt .int (.cons (.bin .add (.bin .add (.call 32 (.cons (.var 0) (.cons (.var 13) .nil))) (.call 32 (.cons (.var 0) (.cons (.sub (.var 6) (.var 10)) .nil)))) (.call 32 (.cons (.var 0) (.cons (.sub (.var 6) (.var 12)) .nil)))) .nil)) (.cst (.int 2)))) .nil))) (.cons (.app 9 (.blt .tuple (.cons (.var 11) .nil))) .nil)))) (.cons (.ret (.blt .tuple (.cons (.var 9) .nil))) .nil))))))
def d_law_q_by : FDef := ⟨2, 15, b_law_q_by⟩
/- law_marks ['rows', 'noughts', 'line'] -/
def b_law_marks : IB := (.cons (.asg (.nm 1) (.lc (.var 2) (.nm 2) (.seq (.call 30 (.cons (.blt .len (.cons (.var 0) .nil)) .nil))) (.val (.cmp .eq (.call 32 (.cons (.var 0) (.cons (.var 2) .nil))) (.cst (.int 0)))) [2])) (.cons (.ret (.tup (.cons (.call 34 (.cons (.call 35 (.cons (.var 0) .nil)) .nil)) (.cons (.blt .len (.cons (.var 1) .nil)) .nil)))) .nil))
def d_law_marks : FDef := ⟨1, 3, b_law_marks⟩
/- law_deep ['hand', 'found', 'turn'] -/
def b_law_deep : IB := (.cons (.asg (.nm 1) (.tup (.cons (.cst (.str (PySem.Str.ofString "deep"))) .nil))) (.cons (.fors (.nm 2) (.rng1 (.call 24 (.cons (.var 0) (.cons (.cst (.int 30)) .nil)))) (.cons (.asg (.nm 1) (.call 25 (.cons (.var 0) (.cons (.lst (.cons (.tup (.cons (.var 1) .nil)) (.cons (.lst (.cons (.var 1) .nil)) (.cons (.dic (.cst (.int 0)) (.var 1)) .nil)))) .nil)))) .nil)) (.cons (.ret (.var 1)) .nil)))
def d_law_deep : FDef := ⟨1, 3, b_law_deep⟩
/- law_caught ['call', 'found', 'e', 'flags'] -/
def b_law_caught : IB := (.cons (.asg (.nm 1) (.tup (.cons (.cst (.str (PySem.Str.ofString "told"))) (.cons (.cst .none) .nil)))) (.cons (.try1 (.act 0) .drop 2 (.cons (.asg (.nm 3) (.lst (.cons (.isx 2 [true, false, false]) (.cons (.isx 2 [false, true, false]) (.cons (.isx 2 [false, false, true]) .nil))))) (.cons (.asg (.nm 1) (.tup (.cons (.cst (.str (PySem.Str.ofString "other"))) (.cons (.cst .none) .nil)))) (.cons (.ifs (.and (.val (.cmp .eq (.mth .count (.var 3) (.cons (.cst (.bool true)) .nil)) (.cst (.int 1)))) (.val (.isx 2 [true, true, true]))) (.cons (.asg (.nm 1) (.tup (.cons (.sub (.lst (.cons (.cst (.str (PySem.Str.ofString "line"))) (.cons (.cst (.str (PySem.Str.ofString "q"))) (.cons (.cst (.str (PySem.Str.ofString "turn"))) .nil)))) (.mth .index (.var 3) (.cons (.cst (.bool true)) .nil))) (.cons (.cst .none) .nil)))) .nil) .nil) .nil)))) (.cons (.ret (.var 1)) .nil)))
def d_law_caught : FDef := ⟨1, 4, b_law_caught⟩
/- law_right ['hand', 'rows', 'size', 'lines', 'pairs', 'worths', 'line', 'one', 'other', 'both', 'a', 'b', 'bent', 'turn', 'second', 'told', 'unit'] -/
def b_law_right : IB := (.cons (.asg (.nm 1) (.call 31 (.cons (.var 0) (.cons (.cst (.int 4)) .nil)))) (.cons (.asg (.nm 2) (.blt .len (.cons (.var 1) .nil))) (.cons (.par [3, 4] (.cons (.call 30 (.cons (.var 2) .nil)) (.cons (.call 35 (.cons (.var 1) .nil)) .nil))) (.cons (.asg (.nm 5) (.lc (.call 11 (.cons (.var 1) (.cons (.var 6) .nil))) (.nm 6) (.seq (.var 3)) .yes [6])) (.cons (.ifs (.or (.val (.cmp .ne (.blt .repr (.cons (.var 5) .nil)) (.blt .repr (.cons (.lc (.call 32 (.cons (.var 1) (.cons (.var 6) .nil))) (.nm 6) (.seq (.var 3)) .yes [6]) .nil)))) (.val (.cmp .ne (.blt .repr (.cons (.call 13 (.cons (.var 1) .nil)) .nil)) (.blt .repr (.cons (.var 4) .nil))))) (.cons (.ret (.cst (.bool false))) .nil) .nil) (.cons (.ifs (.val (.cmp .ne (.blt .repr (.cons (.call 16 (.cons (.var 1) .nil)) .nil)) (.blt .repr (.cons (.tup (.cons (.mth .count (.var 5) (.cons (.cst (.int 0)) .nil)) (.cons (.mth .count (.var 5) (.cons (.cst (.int 1)) .nil)) .nil))) .nil)))) (.cons (.ret (.cst (.bool false))) .nil) .nil) (.cons (.ifs (.val (.cmp .ne (.blt .repr (.cons (.call 18 (.cons (.var 1) .nil)) .nil)) (.blt .repr (.cons (.call 37 (.cons (.var 1) .nil)) .nil)))) (.cons (.ret (.cst (.bool false))) .nil) .nil) (.cons (.par [7, 8] (.cons (.call 25 (.cons (.var 0) (.cons (.var 3) .nil))) (.cons (.call 25 (.cons (.var 0) (.cons (.var 3) .nil))) .nil))) (.cons (.asg (.nm 9) (.blt .tuple (.cons (.lc (.bin .mod (.blt .int (.cons (.bin .add (.var 10) (.var 11)) .nil)) (.cst (.int 2))) (.tp [10, 11]) (.zip (.var 7) (.var 8)) .yes [10, 11]) .nil))) (.cons (.asg (.nm 12) (.bin .mod (.blt .int (.cons (.blt .sum (.cons (.lc (.bin .mul (.var 10) (.var 11)) (.tp [10, 11]) (.zip (.var 7) (.call 29 (.cons (.var 4) (.cons (.var 8) .nil)))) .yes [10, 11]) .nil)) .nil)) (.cst (.int 2)))) (.cons (.ifs (.val (.cmp .ne (.bin .mod (.blt .int (.cons (.bin .add (.bin .add (.call 11 (.cons (.var 1) (.cons (.var 9) .nil))) (.call 11 (.cons (.var 1) (.cons (.var 7) .nil)))) (.call 11 (.cons (.var 1) (.cons (.var 8) .nil)))) .nil)) (.cst (.int 2))) (.var 12))) (.cons (.ret (.cst (.bool false))) .nil) .nil) (.cons (.par [13, 14] (.cons (.call 26 (.cons (.var 0) (.cons (.var 2) (.cons (.var 2) (.cons (.lst (.cons (.cst (.int 0)) (.cons (.cst (.int 1)) .nil))) .nil))))) (.cons (.call 26 (.cons (.var 0) (.cons (.var 2) (.cons (.var 2) (.cons (.lst (.cons (.cst (.int 0)) (.cons (.cst (.int 1)) .nil))) .nil))))) .nil))) (.cons (.asg (.nm 15) (.call 22 (.cons (.var 1) (.cons (.var 13) .nil)))) (.cons (.ifs (.val (.cmp .ne (.blt .repr (.cons (.var 15) .nil)) (.blt .repr (.cons (.call 36 (.cons (.var 1) (.cons (.var 13) .nil))) .nil)))) (.cons (.ret (.cst (.bool false))) .nil) .nil) (.cons (.ifs (.val (.cmp .ne (.call 11 (.cons (.var 15) (.cons (.var 7) .nil))) (.call 11 (.cons (.var 1) (.cons (.blt .tuple (.cons (.lc (.bin .mod (.blt .int (.cons (.var 10) .nil)) (.cst (.int 2))) (.nm 10) (.seq (.call 29 (.cons (.var 13) (.cons (.var 7) .nil)))) .yes [10]) .nil)) .nil))))) (.cons (.ret (.cst (.bool false))) .nil) .nil) (.cons (.ifs (.val (.cmp .ne (.call 22 (.cons (.var 15) (.cons (.var 14) .nil))) (.call 22 (.cons (.var 1) (.cons (.call 33 (.cons (.call 28 (.cons (.var 13) (.cons (.var 14) .nil))) .nil)) .nil))))) (.cons (.ret (.cst (.bool false))) .nil) .nil) (.cons (.ifs (.and (.val (.cmp .eq (.call 34 (.cons (.var 13) .nil)) (.var 2))) (.val (.cmp .ne (.call 18 (.cons (.var 15) .nil)) (.call 18 (.cons (.var 1) .nil))))) (.cons (.ret (.cst (.bool false))) .nil) .nil) (.cons (.asg (.nm 16) (.blt .tuple (.cons (.lc (.blt .tuple (.cons (.lc (.blt .int (.cons (.cmp .eq (.var 10) (.var 11)) .nil)) (.nm 11) (.rng1 (.var 2)) .yes [11]) .nil)) (.nm 10) (.rng1 (.var 2)) .yes [10]) .nil))) (.cons (.ret (.cmp .eq (.call 22 (.cons (.var 1) (.cons (.var 16) .nil))) (.var 1))) .nil)))))))))))))))))))
def d_law_right : FDef := ⟨1, 17, b_law_right⟩
/- law_refused_right ['hand', 'some', 'bad', 'line', 'turn', 'right', 'words'] -/
def b_law_refused_right : IB := (.cons (.asg (.nm 1) (.lst (.cons (.cst .none) (.cons (.tup .nil) (.cons (.tup (.cons (.tup .nil) .nil)) (.cons (.lst (.cons (.tup (.cons (.cst (.int 1)) .nil)) .nil)) (.cons (.tup (.cons (.tup (.cons (.cst (.int 2)) .nil)) .nil)) (.cons (.tup (.cons (.tup (.cons (.neg (.cst (.int 1))) .nil)) .nil)) (.cons (.tup (.cons (.tup (.cons (.cst (.int 1)) (.cons (.cst (.int 0)) .nil))) .nil)) (.cons (.tup (.cons (.tup (.cons (.cst (.int 1)) (.cons (.cst (.int 0)) .nil))) (.cons (.tup (.cons (.cst (.int 1)) (.cons (.cst (.int 0)) .nil))) .nil))) (.cons (.tup (.cons (.tup (.cons (.cst (.bool true)) .nil)) .nil)) (.cons (.tup (.cons (.tup (.cons (.lst (.cons (.cst (.int 1)) .nil)) .nil)) .nil)) (.cons (.cst (.int 0)) (.cons .dnil .nil)))))))))))))) (.cons (.asg (.nm 2) (.call 25 (.cons (.var 0) (.cons (.bin .add (.var 1) (.lst (.cons (.bin .mul (.tup (.cons (.bin .mul (.tup (.cons (.cst (.int 0)) .nil)) (.cst (.int 5))) .nil)) (.cst (.int 5))) (.cons (.tup (.cons (.tup (.cons (.cst .none) .nil)) .nil)) (.cons (.tup (.cons (.tup (.cons (.cst (.str (PySem.Str.ofString "1"))) .nil)) .nil)) (.cons (.call 38 (.cons (.var 0) .nil)) .nil)))))) .nil)))) (.cons (.asg (.nm 1) (.lst (.cons (.cst .none) (.cons (.tup .nil) (.cons (.lst (.cons (.cst (.int 1)) (.cons (.cst (.int 0)) .nil))) (.cons (.tup (.cons (.cst (.int 1)) .nil)) (.cons (.tup (.cons (.cst (.int 1)) (.cons (.cst (.int 0)) (.cons (.cst (.int 0)) .nil)))) (.cons (.tup (.cons (.cst (.int 2)) (.cons (.cst (.int 0)) .nil))) .nil)))))))) (.cons (.asg (.nm 3) (.call 25 (.cons (.var 0) (.cons (.bin .add (.var 1) (.lst (.cons (.tup (.cons (.neg (.cst (.int 1))) (.cons (.cst (.int 0)) .nil))) (.cons (.tup (.cons (.cst (.bool true)) (.cons (.cst (.int 0)) .nil))) (.cons (.tup (.cons (.cst (.str (PySem.Str.ofString "1"))) (.cons (.cst (.int 0)) .nil))) (.cons (.cst (.int 0)) (.cons .dnil (.cons (.call 38 (.cons (.var 0) .nil)) .nil)))))))) .nil)))) (.cons (.asg (.nm 1) (.lst (.cons (.cst .none) (.cons (.tup .nil) (.cons (.lst (.cons (.tup (.cons (.cst (.int 1)) (.cons (.cst (.int 0)) .nil))) (.cons (.tup (.cons (.cst (.int 0)) (.cons (.cst (.int 1)) .nil))) .nil))) (.cons (.tup (.cons (.tup (.cons (.cst (.int 1)) (.cons (.cst (.int 0)) .nil))) .nil)) (.cons (.tup (.cons (.tup (.cons (.cst (.int 1)) (.cons (.cst (.int 0)) .nil))) (.cons (.tup (.cons (.cst (.int 2)) (.cons (.cst (.int 1)) .nil))) .nil))) (.cons (.tup (.cons (.tup (.cons (.cst (.int 1)) .nil)) .nil)) (.cons (.tup (.cons (.tup (.cons (.cst (.int 1)) (.cons (.cst (.int 0)) .nil))) (.cons (.tup (.cons (.cst (.int 0)) (.cons (.neg (.cst (.int 1))) .nil))) .nil))) .nil))))))))) (.cons (.asg (.nm 1) (.bin .add (.var 1) (.lst (.cons (.tup (.cons (.tup (.cons (.cst (.bool true)) (.cons (.cst (.int 0)) .nil))) (.cons (.tup (.cons (.cst (.int 0)) (.cons (.cst (.int 1)) .nil))) .nil))) (.cons (.cst (.int 0)) (.cons .dnil .nil)))))) (.cons (.asg (.nm 4) (.call 25 (.cons (.var 0) (.cons (.bin .add (.var 1) (.lst (.cons (.bin .mul (.tup (.cons (.tup (.cons (.cst (.int 1)) (.cons (.cst (.int 0)) (.cons (.cst (.int 0)) .nil)))) .nil)) (.cst (.int 3))) (.cons (.call 38 (.cons (.var 0) .nil)) .nil)))) .nil)))) (.cons (.asg (.nm 5) (.tup (.cons (.tup (.cons (.cst (.int 1)) (.cons (.cst (.int 1)) .nil))) (.cons (.tup (.cons (.cst (.int 0)) (.cons (.cst (.int 1)) .nil))) .nil)))) (.cons (.asg (.nm 6) (.lst (.cons (.lam 39 (.call 11 (.cons (.var 2) (.cons (.var 3) .nil)))) .nil))) (.cons (.app 6 (.lam 39 (.call 13 (.cons (.var 2) .nil)))) (.cons (.app 6 (.lam 39 (.call 16 (.cons (.var 2) .nil)))) (.cons (.app 6 (.lam 39 (.call 18 (.cons (.var 2) .nil)))) (.cons (.app 6 (.lam 39 (.call 22 (.cons (.var 2) (.cons (.var 4) .nil))))) (.cons (.app 6 (.lam 39 (.call 11 (.cons (.var 5) (.cons (.var 3) .nil))))) (.cons (.app 6 (.lam 39 (.call 22 (.cons (.var 5) (.cons (.var 4) .nil))))) (.cons (.ret (.cmp .eq (.var 6) (.bin .add (.bin .mul (.lst (.cons (.tup (.cons (.cst (.str (PySem.Str.ofString "q"))) (.cons (.cst .none) .nil))) .nil)) (.cst (.int 5))) (.lst (.cons (.tup (.cons (.cst (.str (PySem.Str.ofString "line"))) (.cons (.cst .none) .nil))) (.cons (.tup (.cons (.cst (.str (PySem.Str.ofString "turn"))) (.cons (.cst .none) .nil))) .nil)))))) .nil))))))))))))))))
def d_law_refused_right : FDef := ⟨1, 7, b_law_refused_right⟩
/- law ['script', 'hand', 'turn'] -/
def b_law : IB := (.cons (.mkh 1 (.call 23 (.cons (.var 0) .nil))) (.cons (.ifs (.or (.val (.cmp .ne (.call 16 (.cons (.tup (.cons (.tup (.cons (.cst (.int 0)) (.cons (.cst (.int 1)) .nil))) (.cons (.tup (.cons (.cst (.int 0)) (.cons (.cst (.int 0)) .nil))) .nil))) .nil)) (.tup (.cons (.cst (.int 3)) (.cons (.cst (.int 1)) .nil))))) (.val (.cmp .ne (.call 18 (.cons (.tup (.cons (.tup (.cons (.cst (.int 1)) (.cons (.cst (.int 1)) .nil))) (.cons (.tup (.cons (.cst (.int 0)) (.cons (.cst (.int 1)) .nil))) .nil))) .nil)) (.tup (.cons (.cst (.int 2)) (.cons (.cst (.int 1)) .nil)))))) (.cons (.ret (.cst (.bool false))) .nil) .nil) (.cons (.ifs (.val (.cmp .ne (.call 22 (.cons (.tup (.cons (.tup (.cons (.cst (.int 1)) (.cons (.cst (.int 0)) .nil))) (.cons (.tup (.cons (.cst (.int 0)) (.cons (.cst (.int 0)) .nil))) .nil))) (.cons (.tup (.cons (.tup (.cons (.cst (.int 1)) (.cons (.cst (.int 1)) .nil))) (.cons (.tup (.cons (.cst (.int 0)) (.cons (.cst (.int 1)) .nil))) .nil))) .nil))) (.tup (.cons (.tup (.cons (.cst (.int 1)) (.cons (.cst (.int 0)) .nil))) (.cons (.tup (.cons (.cst (.int 0)) (.cons (.cst (.int 1)) .nil))) .nil))))) (.cons (.ret (.cst (.bool false))) .nil) .nil) (.cons (.ret (.blt .all (.cons (.lc (.and (.call 40 (.cons (.var 1) .nil)) (.call 41 (.cons (.var 1) .nil))) (.nm 2) (.rng1 (.cst (.int 4))) .yes [2]) .nil))) .nil))))
def d_law : FDef := ⟨1, 3, b_law⟩
def tbl : List FDef := [d_is_integer, d_is_within, d_is_tuple, d_back_number, d_echelon_by, d_cleared_by, d_rank_by, d_is_bits, d_is_bit_square, d_check_q, d_worth_of, d_q_worth, d_pairs_of, d_q_pairs, d_all_bits, d_counts_of, d_q_counts, d_marks_of, d_q_marks, d_paired, d_by_columns, d_columns_of, d_q_by, d_law_hand, d_law_draw, d_law_some, d_law_rows, d_law_turned, d_law_product, d_law_led, d_law_lines, d_law_q, d_law_worth, d_law_mod, d_law_rank_two, d_law_pairs_of, d_law_q_by, d_law_marks, d_law_deep, d_law_caught, d_law_right, d_law_refused_right, d_law]
def tb (i : Nat) : Option FDef := tbl[i]?
section
variable (wf n : Nat) (h : Hd)
theorem e_is_integer (u0 : Val) : callF tb wf (n + 1) 0 [u0] h = toCall h (xb (EN tb wf n nB) b_is_integer ⟨[.val u0], h⟩) := callF_run (T := tb) (f := 0) (d := d_is_integer) rfl rfl
theorem e_is_within (u0 u1 u2 : Val) : callF tb wf (n + 1) 1 [u0, u1, u2] h = toCall h (xb (EN tb wf n nB) b_is_within ⟨[.val u0, .val u1, .val u2], h⟩) := callF_run (T := tb) (f := 1) (d := d_is_within) rfl rfl
theorem e_is_tuple (u0 u1 u2 : Val) : callF tb wf (n + 1) 2 [u0, u1, u2] h = toCall h (xb (EN tb wf n nB) b_is_tuple ⟨[.val u0, .val u1, .val u2], h⟩) := callF_run (T := tb) (f := 2) (d := d_is_tuple) rfl rfl
theorem e_back_number (u0 u1 : Val) : callF tb wf (n + 1) 3 [u0, u1] h = toCall h (xb (EN tb wf n nB) b_back_number ⟨[.val u0, .val u1, .emp], h⟩) := callF_run (T := tb) (f := 3) (d := d_back_number) rfl rfl
theorem e_echelon_by (u0 u1 : Val) : callF tb wf (n + 1) 4 [u0, u1] h = toCall h (xb (EN tb wf n nB) b_echelon_by ⟨[.val u0, .val u1, .emp, .emp, .emp, .emp, .emp, .emp, .emp, .emp, .emp], h⟩) := callF_run (T := tb) (f := 4) (d := d_echelon_by) rfl rfl
theorem e_cleared_by (u0 u1 u2 u3 : Val) : callF tb wf (n + 1) 5 [u0, u1, u2, u3] h = toCall h (xb (EN tb wf n nB) b_cleared_by ⟨[.val u0, .val u1, .val u2, .val u3, .emp, .emp], h⟩) := callF_run (T := tb) (f := 5) (d := d_cleared_by) rfl rfl
theorem e_rank_by (u0 u1 : Val) : callF tb wf (n + 1) 6 [u0, u1] h = toCall h (xb (EN tb wf n nB) b_rank_by ⟨[.val u0, .val u1], h⟩) := callF_run (T := tb) (f := 6) (d := d_rank_by) rfl rfl
theorem e_is_bits (u0 u1 : Val) : callF tb wf (n + 1) 7 [u0, u1] h = toCall h (xb (EN tb wf n nB) b_is_bits ⟨[.val u0, .val u1, .emp], h⟩) := callF_run (T := tb) (f := 7) (d := d_is_bits) rfl rfl
theorem e_is_bit_square (u0 u1 : Val) : callF tb wf (n + 1) 8 [u0, u1] h = toCall h (xb (EN tb wf n nB) b_is_bit_square ⟨[.val u0, .val u1, .emp], h⟩) := callF_run (T := tb) (f := 8) (d := d_is_bit_square) rfl rfl
theorem e_check_q (u0 : Val) : callF tb wf (n + 1) 9 [u0] h = toCall h (xb (EN tb wf n nB) b_check_q ⟨[.val u0, .emp, .emp], h⟩) := callF_run (T := tb) (f := 9) (d := d_check_q) rfl rfl
theorem e_worth_of (u0 u1 : Val) : callF tb wf (n + 1) 10 [u0, u1] h = toCall h (xb (EN tb wf n nB) b_worth_of ⟨[.val u0, .val u1, .emp, .emp, .emp], h⟩) := callF_run (T := tb) (f := 10) (d := d_worth_of) rfl rfl
theorem e_q_worth (u0 u1 : Val) : callF tb wf (n + 1) 11 [u0, u1] h = toCall h (xb (EN tb wf n nB) b_q_worth ⟨[.val u0, .val u1], h⟩) := callF_run (T := tb) (f := 11) (d := d_q_worth) rfl rfl
theorem e_pairs_of (u0 : Val) : callF tb wf (n + 1) 12 [u0] h = toCall h (xb (EN tb wf n nB) b_pairs_of ⟨[.val u0, .emp, .emp, .emp], h⟩) := callF_run (T := tb) (f := 12) (d := d_pairs_of) rfl rfl
theorem e_q_pairs (u0 : Val) : callF tb wf (n + 1) 13 [u0] h = toCall h (xb (EN tb wf n nB) b_q_pairs ⟨[.val u0], h⟩) := callF_run (T := tb) (f := 13) (d := d_q_pairs) rfl rfl
theorem e_all_bits (u0 : Val) : callF tb wf (n + 1) 14 [u0] h = toCall h (xb (EN tb wf n nB) b_all_bits ⟨[.val u0, .emp, .emp, .emp, .emp], h⟩) := callF_run (T := tb) (f := 14) (d := d_all_bits) rfl rfl
theorem e_counts_of (u0 : Val) : callF tb wf (n + 1) 15 [u0] h = toCall h (xb (EN tb wf n nB) b_counts_of ⟨[.val u0, .emp, .emp], h⟩) := callF_run (T := tb) (f := 15) (d := d_counts_of) rfl rfl
theorem e_q_counts (u0 : Val) : callF tb wf (n + 1) 16 [u0] h = toCall h (xb (EN tb wf n nB) b_q_counts ⟨[.val u0], h⟩) := callF_run (T := tb) (f := 16) (d := d_q_counts) rfl rfl
theorem e_marks_of (u0 : Val) : callF tb wf (n + 1) 17 [u0] h = toCall h (xb (EN tb wf n nB) b_marks_of ⟨[.val u0], h⟩) := callF_run (T := tb) (f := 17) (d := d_marks_of) rfl rfl
theorem e_q_marks (u0 : Val) : callF tb wf (n + 1) 18 [u0] h = toCall h (xb (EN tb wf n nB) b_q_marks ⟨[.val u0], h⟩) := callF_run (T := tb) (f := 18) (d := d_q_marks) rfl rfl
theorem e_paired (u0 u1 u2 : Val) : callF tb wf (n + 1) 19 [u0, u1, u2] h = toCall h (xb (EN tb wf n nB) b_paired ⟨[.val u0, .val u1, .val u2, .emp, .emp, .emp], h⟩) := callF_run (T := tb) (f := 19) (d := d_paired) rfl rfl
theorem e_by_columns (u0 u1 : Val) : callF tb wf (n + 1) 20 [u0, u1] h = toCall h (xb (EN tb wf n nB) b_by_columns ⟨[.val u0, .val u1, .emp, .emp, .emp, .emp, .emp, .emp], h⟩) := callF_run (T := tb) (f := 20) (d := d_by_columns) rfl rfl
theorem e_columns_of (u0 : Val) : callF tb wf (n + 1) 21 [u0] h = toCall h (xb (EN tb wf n nB) b_columns_of ⟨[.val u0, .emp, .emp], h⟩) := callF_run (T := tb) (f := 21) (d := d_columns_of) rfl rfl
theorem e_q_by (u0 u1 : Val) : callF tb wf (n + 1) 22 [u0, u1] h = toCall h (xb (EN tb wf n nB) b_q_by ⟨[.val u0, .val u1], h⟩) := callF_run (T := tb) (f := 22) (d := d_q_by) rfl rfl
theorem e_law_hand (u0 : Val) : callF tb wf (n + 1) 23 [u0] h = toCall h (xb (EN tb wf n nB) b_law_hand ⟨[.val u0, .emp, .emp], h⟩) := callF_run (T := tb) (f := 23) (d := d_law_hand) rfl rfl
theorem e_law_draw (u0 u1 : Val) : callF tb wf (n + 1) 24 [u0, u1] h = toCall h (xb (EN tb wf n nB) b_law_draw ⟨[.val u0, .val u1, .emp, .emp, .emp], h⟩) := callF_run (T := tb) (f := 24) (d := d_law_draw) rfl rfl
theorem e_law_some (u0 u1 : Val) : callF tb wf (n + 1) 25 [u0, u1] h = toCall h (xb (EN tb wf n nB) b_law_some ⟨[.val u0, .val u1], h⟩) := callF_run (T := tb) (f := 25) (d := d_law_some) rfl rfl
theorem e_law_rows (u0 u1 u2 u3 : Val) : callF tb wf (n + 1) 26 [u0, u1, u2, u3] h = toCall h (xb (EN tb wf n nB) b_law_rows ⟨[.val u0, .val u1, .val u2, .val u3, .emp, .emp], h⟩) := callF_run (T := tb) (f := 26) (d := d_law_rows) rfl rfl
theorem e_law_turned (u0 : Val) : callF tb wf (n + 1) 27 [u0] h = toCall h (xb (EN tb wf n nB) b_law_turned ⟨[.val u0, .emp, .emp], h⟩) := callF_run (T := tb) (f := 27) (d := d_law_turned) rfl rfl
theorem e_law_product (u0 u1 : Val) : callF tb wf (n + 1) 28 [u0, u1] h = toCall h (xb (EN tb wf n nB) b_law_product ⟨[.val u0, .val u1, .emp, .emp, .emp, .emp, .emp], h⟩) := callF_run (T := tb) (f := 28) (d := d_law_product) rfl rfl
theorem e_law_led (u0 u1 : Val) : callF tb wf (n + 1) 29 [u0, u1] h = toCall h (xb (EN tb wf n nB) b_law_led ⟨[.val u0, .val u1, .emp, .emp, .emp], h⟩) := callF_run (T := tb) (f := 29) (d := d_law_led) rfl rfl
theorem e_law_lines (u0 : Val) : callF tb wf (n + 1) 30 [u0] h = toCall h (xb (EN tb wf n nB) b_law_lines ⟨[.val u0, .emp, .emp, .emp], h⟩) := callF_run (T := tb) (f := 30) (d := d_law_lines) rfl rfl
theorem e_law_q (u0 u1 : Val) : callF tb wf (n + 1) 31 [u0, u1] h = toCall h (xb (EN tb wf n nB) b_law_q ⟨[.val u0, .val u1, .emp, .emp, .emp, .emp], h⟩) := callF_run (T := tb) (f := 31) (d := d_law_q) rfl rfl
theorem e_law_worth (u0 u1 : Val) : callF tb wf (n + 1) 32 [u0, u1] h = toCall h (xb (EN tb wf n nB) b_law_worth ⟨[.val u0, .val u1, .emp, .emp, .emp, .emp], h⟩) := callF_run (T := tb) (f := 32) (d := d_law_worth) rfl rfl
theorem e_law_mod (u0 : Val) : callF tb wf (n + 1) 33 [u0] h = toCall h (xb (EN tb wf n nB) b_law_mod ⟨[.val u0, .emp, .emp], h⟩) := callF_run (T := tb) (f := 33) (d := d_law_mod) rfl rfl
theorem e_law_rank_two (u0 : Val) : callF tb wf (n + 1) 34 [u0] h = toCall h (xb (EN tb wf n nB) b_law_rank_two ⟨[.val u0, .emp, .emp, .emp, .emp, .emp, .emp, .emp, .emp, .emp], h⟩) := callF_run (T := tb) (f := 34) (d := d_law_rank_two) rfl rfl
theorem e_law_pairs_of (u0 : Val) : callF tb wf (n + 1) 35 [u0] h = toCall h (xb (EN tb wf n nB) b_law_pairs_of ⟨[.val u0, .emp, .emp, .emp, .emp], h⟩) := callF_run (T := tb) (f := 35) (d := d_law_pairs_of) rfl rfl
theorem e_law_q_by (u0 u1 : Val) : callF tb wf (n + 1) 36 [u0, u1] h = toCall h (xb (EN tb wf n nB) b_law_q_by ⟨[.val u0, .val u1, .emp, .emp, .emp, .emp, .emp, .emp, .emp, .emp, .emp, .emp, .emp, .emp, .emp], h⟩) := callF_run (T := tb) (f := 36) (d := d_law_q_by) rfl rfl
theorem e_law_marks (u0 : Val) : callF tb wf (n + 1) 37 [u0] h = toCall h (xb (EN tb wf n nB) b_law_marks ⟨[.val u0, .emp, .emp], h⟩) := callF_run (T := tb) (f := 37) (d := d_law_marks) rfl rfl
theorem e_law_deep (u0 : Val) : callF tb wf (n + 1) 38 [u0] h = toCall h (xb (EN tb wf n nB) b_law_deep ⟨[.val u0, .emp, .emp], h⟩) := callF_run (T := tb) (f := 38) (d := d_law_deep) rfl rfl
theorem e_law_caught (u0 : Val) : callF tb wf (n + 1) 39 [u0] h = toCall h (xb (EN tb wf n nB) b_law_caught ⟨[.val u0, .emp, .emp, .emp], h⟩) := callF_run (T := tb) (f := 39) (d := d_law_caught) rfl rfl
theorem l_law_caught (act : Hd → FO) : Pev.run tb wf (n + 1) act 39 [.lmb] h = toCall h (xb (EN tb wf n act) b_law_caught ⟨[.val .lmb, .emp, .emp, .emp], h⟩) := lam_run (T := tb) (f := 39) (d := d_law_caught) rfl
theorem e_law_right (u0 : Val) : callF tb wf (n + 1) 40 [u0] h = toCall h (xb (EN tb wf n nB) b_law_right ⟨[.val u0, .emp, .emp, .emp, .emp, .emp, .emp, .emp, .emp, .emp, .emp, .emp, .emp, .emp, .emp, .emp, .emp], h⟩) := callF_run (T := tb) (f := 40) (d := d_law_right) rfl rfl
theorem e_law_refused_right (u0 : Val) : callF tb wf (n + 1) 41 [u0] h = toCall h (xb (EN tb wf n nB) b_law_refused_right ⟨[.val u0, .emp, .emp, .emp, .emp, .emp, .emp], h⟩) := callF_run (T := tb) (f := 41) (d := d_law_refused_right) rfl rfl
theorem e_law (u0 : Val) : callF tb wf (n + 1) 42 [u0] h = toCall h (xb (EN tb wf n nB) b_law ⟨[.val u0, .emp, .emp], h⟩) := callF_run (T := tb) (f := 42) (d := d_law) rfl rfl
end
/-! CodeM: lines of bits, words of codes: plain Lean. -/
abbrev Ln := List Bool
def xorL (a b : Ln) : Ln := List.zipWith Bool.xor a b
def zeroL (n : Nat) : Ln := List.replicate n false
def wt (a : Ln) : Nat := a.count true
def dist (a b : Ln) : Nat := wt (xorL a b)
theorem xorL_len (a b : Ln) : (xorL a b).length = min a.length b.length := List.length_zipWith
theorem xorL_cons (x y : Bool) (a b : Ln) : xorL (x :: a) (y :: b) = (x ^^ y) :: xorL a b := rfl
theorem xorL_nil (b : Ln) : xorL [] b = [] := rfl
theorem xorL_nil' (b : Ln) : xorL b [] = [] := by cases b <;> rfl
theorem xorL_comm : ∀ (a b : Ln), xorL a b = xorL b a
  | [], b => by rw [xorL_nil, xorL_nil']
  | x :: a, [] => rfl
  | x :: a, y :: b => by rw [xorL_cons, xorL_cons, xorL_comm a b, Bool.xor_comm]
theorem xorL_assoc : ∀ (a b c : Ln), xorL (xorL a b) c = xorL a (xorL b c)
  | [], b, c => by simp [xorL_nil]
  | x :: a, [], c => by simp [xorL_nil, xorL_nil']
  | x :: a, y :: b, [] => by simp [xorL_nil']
  | x :: a, y :: b, z :: c => by simp [xorL_cons, xorL_assoc a b c]
theorem zeroL_succ (n : Nat) : zeroL (n + 1) = false :: zeroL n := rfl
theorem zeroL_len (n : Nat) : (zeroL n).length = n := List.length_replicate
theorem xorL_zero : ∀ (a : Ln), xorL a (zeroL a.length) = a
  | [] => rfl
  | x :: a => by rw [List.length_cons, zeroL_succ, xorL_cons, xorL_zero a, Bool.xor_false]
theorem xorL_self : ∀ (a : Ln), xorL a a = zeroL a.length
  | [] => rfl
  | x :: a => by rw [List.length_cons, zeroL_succ, xorL_cons, xorL_self a, Bool.xor_self]
theorem xorL_zero' {a : Ln} {n : Nat} (h : a.length = n) : xorL a (zeroL n) = a := by rw [← h, xorL_zero]
theorem zero_xorL {a : Ln} {n : Nat} (h : a.length = n) : xorL (zeroL n) a = a := by rw [xorL_comm, xorL_zero' h]
theorem xorL_xorL {a b : Ln} (h : a.length = b.length) : xorL (xorL a b) b = a := by
  rw [xorL_assoc, xorL_self, ← h, xorL_zero]
theorem xorL_inj {a b c : Ln} (h1 : a.length = c.length) (h2 : b.length = c.length) (e : xorL a c = xorL b c) : a = b := by
  rw [← xorL_xorL h1, e, xorL_xorL h2]
theorem wt_zero (n : Nat) : wt (zeroL n) = 0 := by
  unfold wt zeroL
  rw [List.count_replicate]; rfl
theorem wt_cons (x : Bool) (a : Ln) : wt (x :: a) = wt a + (if x then 1 else 0) := by
  unfold wt
  cases x <;> simp
theorem wt_eq_zero : ∀ {a : Ln}, wt a = 0 → a = zeroL a.length
  | [], _ => rfl
  | x :: a, h => by
    rw [wt_cons] at h
    cases x with
    | true => simp at h
    | false => rw [List.length_cons, zeroL_succ, ← wt_eq_zero (a := a) (by simpa using h)]
theorem wt_le (a : Ln) : wt a ≤ a.length := List.count_le_length
theorem dist_comm (a b : Ln) : dist a b = dist b a := by unfold dist; rw [xorL_comm]
theorem dist_self (a : Ln) : dist a a = 0 := by unfold dist; rw [xorL_self, wt_zero]
theorem dist_eq {a b : Ln} (hl : a.length = b.length) (h : dist a b = 0) : a = b := by
  have := wt_eq_zero h
  rw [xorL_len, hl, Nat.min_self] at this
  have e := congrArg (fun z => xorL z b) this
  simp only [xorL_xorL hl] at e
  rw [e, zero_xorL rfl]
theorem dist_tri : ∀ {a b c : Ln}, a.length = b.length → b.length = c.length → dist a c ≤ dist a b + dist b c
  | [], [], [], _, _ => Nat.zero_le _
  | x :: a, y :: b, z :: c, h1, h2 => by
    have ih := dist_tri (a := a) (b := b) (c := c) (by simpa using h1) (by simpa using h2)
    unfold dist at *
    rw [xorL_cons, xorL_cons, xorL_cons, wt_cons, wt_cons, wt_cons]
    cases x <;> cases y <;> cases z <;> simp <;> omega
theorem dist_xor {a b m : Ln} (h1 : a.length = b.length) (h2 : b.length = m.length) : dist (xorL a m) (xorL b m) = dist a b := by
  unfold dist
  rw [xorL_comm b m, xorL_assoc, ← xorL_assoc m m b, xorL_self, zero_xorL h2]
/-! ### all sums of rows -/
def insL (f : List Ln) (k : Ln) : List Ln := if k ∈ f then f else f ++ [k]
def addRow (f : List Ln) (row : Ln) : List Ln := f.foldl (fun g w => insL g (xorL w row)) f
def spanL (n : Nat) (code : List Ln) : List Ln := code.foldl addRow [zeroL n]
theorem mem_insL {f : List Ln} {k x : Ln} : x ∈ insL f k ↔ x ∈ f ∨ x = k := by
  unfold insL
  split
  · rename_i h
    exact ⟨.inl, fun z => z.elim id fun e => e ▸ h⟩
  · simp
theorem nodup_insL {f : List Ln} {k : Ln} (h : f.Nodup) : (insL f k).Nodup := by
  unfold insL
  split
  · exact h
  · rename_i hk
    rw [List.nodup_append]
    refine ⟨h, by simp, ?_⟩
    intro a ha b hb
    simp at hb
    subst hb
    exact fun e => hk (e ▸ ha)
theorem len_insL (f : List Ln) (k : Ln) : (insL f k).length ≤ f.length + 1 := by
  unfold insL
  split <;> simp
theorem mem_insAll (row x : Ln) : ∀ (ws f : List Ln), x ∈ ws.foldl (fun g w => insL g (xorL w row)) f ↔ x ∈ f ∨ ∃ w ∈ ws, x = xorL w row
  | [], f => by simp
  | w :: ws, f => by
    rw [List.foldl_cons, mem_insAll row x ws, mem_insL]
    simp [or_assoc]
theorem nodup_insAll (row : Ln) : ∀ (ws : List Ln) {f : List Ln}, f.Nodup → (ws.foldl (fun g w => insL g (xorL w row)) f).Nodup
  | [], _, h => h
  | w :: ws, f, h => nodup_insAll row ws (nodup_insL h)
theorem len_insAll (row : Ln) : ∀ (ws f : List Ln), (ws.foldl (fun g w => insL g (xorL w row)) f).length ≤ f.length + ws.length
  | [], _ => by simp
  | w :: ws, f => by
    have := len_insAll row ws (insL f (xorL w row))
    have h2 := len_insL f (xorL w row)
    rw [List.foldl_cons, List.length_cons]
    omega
theorem mem_addRow {f : List Ln} {row x : Ln} : x ∈ addRow f row ↔ x ∈ f ∨ ∃ w ∈ f, x = xorL w row := mem_insAll row x f f
/-- closed under sums, all of one length -/
structure Shut (n : Nat) (f : List Ln) : Prop where
  len : ∀ w ∈ f, w.length = n
  zero : zeroL n ∈ f
  sum : ∀ a ∈ f, ∀ b ∈ f, xorL a b ∈ f
theorem shut_zero (n : Nat) : Shut n [zeroL n] := by
  refine ⟨fun w h => ?_, by simp, fun a ha b hb => ?_⟩
  · simp at h; rw [h, zeroL_len]
  · simp at ha hb; subst ha hb; rw [xorL_zero' (zeroL_len n)]; simp
theorem shut_addRow {n : Nat} {f : List Ln} {row : Ln} (h : Shut n f) (hr : row.length = n) : Shut n (addRow f row) := by
  refine ⟨fun w hw => ?_, mem_addRow.mpr (.inl h.zero), fun a ha b hb => ?_⟩
  · rcases mem_addRow.mp hw with h1 | ⟨v, hv, rfl⟩
    · exact h.len w h1
    · rw [xorL_len, h.len v hv, hr, Nat.min_self]
  · rw [mem_addRow] at *
    rcases ha with ha | ⟨a', ha, rfl⟩ <;> rcases hb with hb | ⟨b', hb, rfl⟩
    · exact .inl (h.sum a ha b hb)
    · exact .inr ⟨xorL a b', h.sum a ha b' hb, (xorL_assoc _ _ _).symm⟩
    · refine .inr ⟨xorL a' b, h.sum a' ha b hb, ?_⟩
      rw [xorL_assoc, xorL_comm row b, ← xorL_assoc]
    · refine .inl ?_
      have e : xorL (xorL a' row) (xorL b' row) = xorL a' b' := by
        rw [xorL_comm b' row, xorL_assoc, ← xorL_assoc row row b', xorL_self, zero_xorL (by rw [h.len b' hb, hr])]
      rw [e]
      exact h.sum a' ha b' hb
theorem shut_fold {n : Nat} : ∀ {code f : List Ln}, Shut n f → (∀ r ∈ code, r.length = n) → Shut n (code.foldl addRow f)
  | [], _, h, _ => h
  | r :: code, f, h, hr => shut_fold (code := code) (f := addRow f r) (shut_addRow h (hr r (.head _))) fun x hx => hr x (.tail _ hx)
theorem shut_span {n : Nat} {code : List Ln} (h : ∀ r ∈ code, r.length = n) : Shut n (spanL n code) := shut_fold (shut_zero n) h
theorem nodup_fold : ∀ {code f : List Ln}, f.Nodup → (code.foldl addRow f).Nodup
  | [], _, h => h
  | r :: code, f, h => nodup_fold (code := code) (f := addRow f r) (nodup_insAll r f h)
theorem nodup_span (n : Nat) (code : List Ln) : (spanL n code).Nodup := nodup_fold (by simp)
theorem len_fold : ∀ (code f : List Ln), (code.foldl addRow f).length ≤ f.length * 2 ^ code.length
  | [], f => by simp
  | r :: code, f => by
    have h1 := len_fold code (addRow f r)
    have h2 : (addRow f r).length ≤ f.length + f.length := len_insAll r f f
    rw [List.foldl_cons, List.length_cons, Nat.pow_succ]
    calc _ ≤ (addRow f r).length * 2 ^ code.length := h1
      _ ≤ (f.length + f.length) * 2 ^ code.length := Nat.mul_le_mul_right _ h2
      _ = f.length * (2 ^ code.length * 2) := by rw [← Nat.two_mul, Nat.mul_comm 2, Nat.mul_assoc, Nat.mul_comm 2]
theorem len_span (n : Nat) (code : List Ln) : (spanL n code).length ≤ 2 ^ code.length := by
  have := len_fold code [zeroL n]
  simpa [spanL] using this
theorem mem_fold_of {x : Ln} : ∀ {code f : List Ln}, x ∈ f → x ∈ code.foldl addRow f
  | [], _, h => h
  | r :: code, f, h => mem_fold_of (code := code) (f := addRow f r) (mem_addRow.mpr (.inl h))
theorem row_mem_fold {n : Nat} {x : Ln} : ∀ {code f : List Ln}, Shut n f → (∀ r ∈ code, r.length = n) → x ∈ code → x ∈ code.foldl addRow f
  | r :: code, f, h, hr, hx => by
    rw [List.foldl_cons]
    rcases List.mem_cons.mp hx with e | hx
    · subst e
      refine mem_fold_of (mem_addRow.mpr (.inr ⟨_, h.zero, ?_⟩))
      rw [zero_xorL (hr x (.head _))]
    · exact row_mem_fold (shut_addRow h (hr r (.head _))) (fun y hy => hr y (.tail _ hy)) hx
theorem row_mem_span {n : Nat} {x : Ln} {code : List Ln} (h : ∀ r ∈ code, r.length = n) (hx : x ∈ code) : x ∈ spanL n code := row_mem_fold (shut_zero n) h hx
/-- the least of what is closed -/
theorem fold_least {n : Nat} {g : List Ln} (G : Shut n g) : ∀ {code f : List Ln}, (∀ x ∈ f, x ∈ g) → (∀ r ∈ code, r ∈ g) → ∀ x ∈ code.foldl addRow f, x ∈ g
  | [], _, h, _, x, hx => h x hx
  | r :: code, f, h, hr, x, hx => by
    refine fold_least G (f := addRow f r) (fun y hy => ?_) (fun y hy => hr y (.tail _ hy)) x hx
    rcases mem_addRow.mp hy with h1 | ⟨w, hw, rfl⟩
    · exact h y h1
    · exact G.sum w (h w hw) r (hr r (.head _))
theorem span_least {n : Nat} {g code : List Ln} (G : Shut n g) (h : ∀ r ∈ code, r ∈ g) {x : Ln} (hx : x ∈ spanL n code) : x ∈ g :=
  fold_least G (fun y hy => by simp at hy; rw [hy]; exact G.zero) h x hx
/-! ### ascending lists -/
def ltL : Ln → Ln → Bool
  | [], [] => false
  | [], _ :: _ => true
  | _ :: _, [] => false
  | x :: a, y :: b => if x = y then ltL a b else (!x && y)
theorem ltL_irrefl : ∀ a : Ln, ltL a a = false
  | [] => rfl
  | x :: a => by rw [ltL, if_pos rfl, ltL_irrefl a]
theorem ltL_trans : ∀ {a b c : Ln}, ltL a b = true → ltL b c = true → ltL a c = true
  | [], [], c, h, _ => by cases h
  | [], _ :: _, [], _, h => by cases h
  | [], _ :: _, _ :: _, _, _ => rfl
  | _ :: _, [], _, h, _ => by cases h
  | _ :: _, _ :: _, [], _, h => by cases h
  | x :: a, y :: b, z :: c, h1, h2 => by
    rw [ltL] at *
    revert h1 h2
    cases x <;> cases y <;> cases z <;> simp <;> exact ltL_trans
theorem ltL_total : ∀ {a b : Ln}, ltL a b = false → ltL b a = false → a = b
  | [], [], _, _ => rfl
  | [], _ :: _, h, _ => by cases h
  | _ :: _, [], _, h => by cases h
  | x :: a, y :: b, h1, h2 => by
    rw [ltL] at *
    revert h1 h2
    cases x <;> cases y <;> simp <;> exact ltL_total
theorem ltL_asymm {a b : Ln} (h : ltL a b = true) : ltL b a = false := by
  cases e : ltL b a with
  | false => rfl
  | true => have := ltL_trans h e; rw [ltL_irrefl] at this; cases this
abbrev Asc (l : List Ln) : Prop := l.Pairwise fun a b => ltL a b = true
theorem asc_ext : ∀ {l m : List Ln}, Asc l → Asc m → (∀ x, x ∈ l ↔ x ∈ m) → l = m
  | [], [], _, _, _ => rfl
  | [], y :: m, _, _, h => by have := (h y).mpr (.head _); cases this
  | x :: l, [], _, _, h => by have := (h x).mp (.head _); cases this
  | x :: l, y :: m, h1, h2, h => by
    rw [Asc, List.pairwise_cons] at h1 h2
    have e : x = y := by
      rcases List.mem_cons.mp ((h x).mp (.head _)) with e | hx
      · exact e
      · rcases List.mem_cons.mp ((h y).mpr (.head _)) with e | hy
        · exact e.symm
        · have a := h2.1 x hx
          have b := h1.1 y hy
          rw [ltL_asymm a] at b; cases b
    subst e
    refine congrArg _ (asc_ext h1.2 h2.2 fun z => ?_)
    have hz := h z
    constructor
    · intro hz1
      rcases List.mem_cons.mp (hz.mp (.tail _ hz1)) with e | w
      · subst e
        have := h1.1 z hz1
        rw [ltL_irrefl] at this; cases this
      · exact w
    · intro hz1
      rcases List.mem_cons.mp (hz.mpr (.tail _ hz1)) with e | w
      · subst e
        have := h2.1 z hz1
        rw [ltL_irrefl] at this; cases this
      · exact w
/-- put in its place; the sorted list -/
def insS (x : Ln) : List Ln → List Ln
  | [] => [x]
  | y :: ys => if !ltL y x then x :: y :: ys else y :: insS x ys
def sortL : List Ln → List Ln
  | [] => []
  | x :: xs => insS x (sortL xs)
theorem mem_insS {x z : Ln} : ∀ {l : List Ln}, z ∈ insS x l ↔ z = x ∨ z ∈ l
  | [] => by simp [insS]
  | y :: ys => by
    rw [insS]
    split
    · simp
    · simp only [List.mem_cons, mem_insS (l := ys)]
      constructor
      · rintro (h | h | h) <;> simp [h]
      · rintro (h | h | h) <;> simp [h]
theorem mem_sortL {z : Ln} : ∀ {l : List Ln}, z ∈ sortL l ↔ z ∈ l
  | [] => by simp [sortL]
  | x :: xs => by rw [sortL, mem_insS, mem_sortL (l := xs), List.mem_cons]
theorem asc_insS {x : Ln} : ∀ {l : List Ln}, Asc l → x ∉ l → Asc (insS x l)
  | [], _, _ => by simp [insS, Asc]
  | y :: ys, h, hx => by
    rw [insS]
    have hyx : y ≠ x := fun e => hx (e ▸ .head _)
    split
    · rename_i h1
      have h1 : ltL y x = false := by simpa using h1
      have h2 : ltL x y = true := by
        cases e : ltL x y with
        | true => rfl
        | false => exact (hyx (ltL_total h1 e)).elim
      rw [Asc, List.pairwise_cons]
      refine ⟨fun z hz => ?_, h⟩
      rcases List.mem_cons.mp hz with e | hz
      · rw [e]; exact h2
      · exact ltL_trans h2 ((List.pairwise_cons.mp h).1 z hz)
    · rename_i h1
      have h1 : ltL y x = true := by simpa using h1
      rw [Asc, List.pairwise_cons] at h ⊢
      refine ⟨fun z hz => ?_, asc_insS h.2 fun z => hx (.tail _ z)⟩
      rcases mem_insS.mp hz with e | hz
      · rw [e]; exact h1
      · exact h.1 z hz
theorem asc_sortL : ∀ {l : List Ln}, l.Nodup → Asc (sortL l)
  | [], _ => List.Pairwise.nil
  | x :: xs, h => by
    rw [List.nodup_cons] at h
    exact asc_insS (asc_sortL h.2) fun z => h.1 (mem_sortL.mp z)
theorem len_insS (x : Ln) : ∀ l : List Ln, (insS x l).length = l.length + 1
  | [] => rfl
  | y :: ys => by
    rw [insS]
    split
    · rfl
    · rw [List.length_cons, len_insS x ys]; rfl
theorem len_sortL : ∀ l : List Ln, (sortL l).length = l.length
  | [] => rfl
  | x :: xs => by rw [sortL, len_insS, len_sortL xs]; rfl
theorem asc_nodup {l : List Ln} (h : Asc l) : l.Nodup := by
  refine List.Pairwise.imp ?_ h
  intro a b hab e
  subst e
  rw [ltL_irrefl] at hab; cases hab
/-- the words of a code, ascending -/
def wordsL (n : Nat) (code : List Ln) : List Ln := sortL (spanL n code)
theorem asc_words (n : Nat) (code : List Ln) : Asc (wordsL n code) := asc_sortL (nodup_span n code)
theorem shut_words {n : Nat} {code : List Ln} (h : ∀ r ∈ code, r.length = n) : Shut n (wordsL n code) := by
  have S := shut_span h
  exact ⟨fun w hw => S.len w (mem_sortL.mp hw), mem_sortL.mpr S.zero, fun a ha b hb => mem_sortL.mpr (S.sum a (mem_sortL.mp ha) b (mem_sortL.mp hb))⟩
theorem len_words (n : Nat) (code : List Ln) : (wordsL n code).length ≤ 2 ^ code.length := by
  unfold wordsL
  rw [len_sortL]
  exact len_span n code
/-! CodeM2: nearest words. -/
def ltP (p q : Int × Ln) : Bool := if p.1 = q.1 then ltL p.2 q.2 else decide (p.1 < q.1)
theorem ltP_asy (a b : Int × Ln) (h : ltP a b = true) : ltP b a = false := by
  unfold ltP at *
  split at h
  · rename_i e
    rw [if_pos e.symm]
    exact ltL_asymm h
  · rename_i e
    rw [if_neg (fun z => e z.symm)]
    simp at h ⊢
    omega
theorem ltL_neg {a b c : Ln} (h1 : ltL b a = false) (h2 : ltL c b = false) : ltL c a = false := by
  cases h3 : ltL c a with
  | false => rfl
  | true =>
    cases h4 : ltL a b with
    | true => have := ltL_trans h3 h4; rw [h2] at this; cases this
    | false =>
      have := ltL_total h4 h1
      subst this
      rw [h2] at h3; cases h3
theorem ltP_neg (a b c : Int × Ln) (h1 : ltP b a = false) (h2 : ltP c b = false) : ltP c a = false := by
  unfold ltP at *
  by_cases e1 : b.1 = a.1
  · by_cases e2 : c.1 = b.1
    · rw [if_pos e1] at h1
      rw [if_pos e2] at h2
      rw [if_pos (e2.trans e1)]
      exact ltL_neg h1 h2
    · rw [if_neg e2] at h2
      rw [if_neg (fun z => e2 (z.trans e1.symm))]
      simp at h2 ⊢
      omega
  · rw [if_neg e1] at h1
    simp at h1
    by_cases e2 : c.1 = b.1
    · rw [if_neg (fun z => e1 (e2.symm.trans z))]
      simp
      omega
    · rw [if_neg e2] at h2
      simp at h2
      rw [if_neg (by omega)]
      simp
      omega
/-- how far a line is from each -/
def dI (line w : Ln) : Int := (dist w line : Int)
def minD (ws : List Ln) (line : Ln) : Int := match ws.map (dI line) with
  | [] => 0
  | x :: xs => minG ltI x xs
def nearL (ws : List Ln) (line : Ln) : List Ln := ws.filter fun w => decide (dI line w = minD ws line)
def headL (ws : List Ln) (line : Ln) : Ln := match ws.map (fun w => (dI line w, w)) with
  | [] => []
  | x :: xs => (minG ltP x xs).2
theorem minD_le {ws : List Ln} {line w : Ln} (h : w ∈ ws) : minD ws line ≤ dI line w := by
  unfold minD
  cases ws with
  | nil => cases h
  | cons x xs => exact minI_le _ _ _ (List.mem_map.mpr ⟨w, h, rfl⟩)
theorem minD_mem {ws : List Ln} (line : Ln) (h : ws ≠ []) : ∃ w ∈ ws, dI line w = minD ws line := by
  unfold minD
  cases ws with
  | nil => exact (h rfl).elim
  | cons x xs =>
    have := minG_mem ltI (xs.map (dI line)) (dI line x)
    obtain ⟨w, hw, e⟩ := List.mem_map.mp (show _ ∈ (x :: xs).map (dI line) from this)
    exact ⟨w, hw, e⟩
theorem near_ne {ws : List Ln} (line : Ln) (h : ws ≠ []) : nearL ws line ≠ [] := by
  obtain ⟨w, hw, e⟩ := minD_mem line h
  exact List.ne_nil_of_mem (List.mem_filter.mpr ⟨hw, decide_eq_true e⟩)
theorem mem_near {ws : List Ln} {line w : Ln} : w ∈ nearL ws line ↔ w ∈ ws ∧ dI line w = minD ws line := by
  unfold nearL
  rw [List.mem_filter, decide_eq_true_eq]
/-- the least of the pairs is the first of the nearest -/
theorem headL_near {ws : List Ln} (line : Ln) (ha : Asc ws) : ∀ {x : Ln} {xs : List Ln}, nearL ws line = x :: xs → headL ws line = x := by
  intro x xs e
  have hx : x ∈ nearL ws line := by rw [e]; exact .head _
  have hx := mem_near.mp hx
  cases ws with
  | nil => cases hx.1
  | cons w0 ws =>
  have hm := minG_mem ltP (ws.map fun w => (dI line w, w)) (dI line w0, w0)
  have hn := minG_not ltP_asy ltP_neg (ws.map fun w => (dI line w, w)) (dI line w0, w0)
  have hh : headL (w0 :: ws) line = (minG ltP (dI line w0, w0) (ws.map fun w => (dI line w, w))).2 := rfl
  rw [hh]
  generalize minG ltP (dI line w0, w0) (ws.map fun w => (dI line w, w)) = r at hm hn
  obtain ⟨v, hv, rfl⟩ := List.mem_map.mp (show r ∈ (w0 :: ws).map fun w => (dI line w, w) from hm)
  have h1 := hn (dI line x, x) (show _ ∈ (w0 :: ws).map (fun w => (dI line w, w)) from List.mem_map.mpr ⟨x, hx.1, rfl⟩)
  unfold ltP at h1
  have hle := minD_le (line := line) hv
  rw [← hx.2] at hle
  split at h1
  · rename_i e1
    have hv2 : v ∈ nearL (w0 :: ws) line := mem_near.mpr ⟨hv, by rw [← hx.2]; exact e1.symm⟩
    have ha2 : Asc (nearL (w0 :: ws) line) := List.Pairwise.filter _ ha
    rw [e] at hv2 ha2
    rcases List.mem_cons.mp hv2 with e2 | hv2
    · exact e2
    · have := (List.pairwise_cons.mp ha2).1 v hv2
      have h1 : ltL x v = false := h1
      rw [this] at h1; cases h1
  · rename_i e1
    have h1 : decide (dI line x < dI line v) = false := h1
    simp at h1
    exact (e1 (by show dI line x = dI line v; omega)).elim
theorem countP_near (ws : List Ln) (line : Ln) : (ws.map (dI line)).countP (fun x => decide (x = minD ws line)) = (nearL ws line).length := by
  rw [List.countP_map, List.countP_eq_length_filter]
  rfl
/-- one alone at its own -/
theorem near_one {ws : List Ln} {line w : Ln} (nd : ws.Nodup) (hw : w ∈ ws) (h : ∀ v ∈ ws, v ≠ w → dI line w < dI line v) : nearL ws line = [w] := by
  have hm : dI line w = minD ws line := by
    obtain ⟨v, hv, e⟩ := minD_mem line (List.ne_nil_of_mem hw)
    by_cases q : v = w
    · rw [← q]; exact e
    · have h1 := h v hv q
      have h2 := minD_le (line := line) hw
      omega
  have hs : ∀ v, v ∈ nearL ws line ↔ v = w := fun v => by
    rw [mem_near]
    constructor
    · rintro ⟨a, b⟩
      by_cases q : v = w
      · exact q
      · have := h v a q
        omega
    · rintro rfl
      exact ⟨hw, hm⟩
  have hp : (nearL ws line).Perm [w] := (List.perm_ext_iff_of_nodup (List.Pairwise.filter _ nd) (by simp)).mpr fun v => (hs v).trans (by simp)
  exact List.perm_singleton.mp hp
/-! ### words of a code -/
section
variable {n : Nat} {ws : List Ln} (S : Shut n ws)
include S
theorem near_word (nd : ws.Nodup) {w : Ln} (hw : w ∈ ws) : nearL ws w = [w] := near_one nd hw fun v hv ne => by
  have h0 : dI w w = 0 := by unfold dI; rw [dist_self]; rfl
  have h1 : dist v w ≠ 0 := fun e => ne (dist_eq (by rw [S.len v hv, S.len w hw]) e)
  rw [h0]
  unfold dI
  omega
/-- fewer places otherwise than half of the least -/
theorem near_mend (nd : ws.Nodup) {w line : Ln} {k least : Nat} (hw : w ∈ ws) (hl : line.length = n) (hd : dist w line ≤ k) (hk : 2 * k < least) (hle : ∀ v ∈ ws, v ≠ zeroL n → least ≤ wt v) : nearL ws line = [w] := near_one nd hw fun v hv ne => by
  have lw := S.len w hw
  have lv := S.len v hv
  have h1 : least ≤ dist v w := by
    refine hle _ (S.sum v hv w hw) fun e => ne ?_
    refine dist_eq (by rw [lv, lw]) ?_
    unfold dist
    rw [e, wt_zero]
  have h2 := dist_tri (a := v) (b := line) (c := w) (by rw [lv, hl]) (by rw [hl, lw])
  rw [dist_comm line w] at h2
  unfold dI
  omega
/-- a line and a word added to it -/
theorem minD_add {line m : Ln} (hl : line.length = n) (hm : m ∈ ws) : minD ws (xorL line m) = minD ws line := by
  have lm := S.len m hm
  have ne : ws ≠ [] := List.ne_nil_of_mem hm
  have key : ∀ l : Ln, l.length = n → minD ws (xorL l m) ≤ minD ws l := fun l hl => by
    obtain ⟨w, hw, e⟩ := minD_mem l ne
    rw [← e]
    have h1 := minD_le (line := xorL l m) (S.sum w hw m hm)
    have h2 : dI (xorL l m) (xorL w m) = dI l w := by
      unfold dI
      rw [dist_xor (by rw [S.len w hw, hl]) (by rw [hl, lm])]
    omega
  have h1 := key line hl
  have h2 := key (xorL line m) (by rw [xorL_len, hl, lm, Nat.min_self])
  rw [xorL_xorL (by rw [hl, lm])] at h2
  omega
theorem mem_near_add {line m w : Ln} (hl : line.length = n) (hm : m ∈ ws) (hw : w.length = n) : xorL w m ∈ nearL ws (xorL line m) ↔ w ∈ nearL ws line := by
  have lm := S.len m hm
  rw [mem_near, mem_near, minD_add S hl hm]
  have h2 : dI (xorL line m) (xorL w m) = dI line w := by
    unfold dI
    rw [dist_xor (by rw [hw, hl]) (by rw [hl, lm])]
  rw [h2]
  refine and_congr_left fun _ => ⟨fun h => ?_, fun h => S.sum w h m hm⟩
  have := S.sum _ h m hm
  rwa [xorL_xorL (by rw [hw, lm])] at this
theorem near_add (nd : ws.Nodup) {line m : Ln} (hl : line.length = n) (hm : m ∈ ws) : ((nearL ws line).map fun w => xorL w m).Perm (nearL ws (xorL line m)) := by
  have lm := S.len m hm
  have nd1 : (nearL ws line).Nodup := List.Pairwise.filter _ nd
  have ln : ∀ w ∈ nearL ws line, w.length = n := fun w hw => S.len w (mem_near.mp hw).1
  refine (List.perm_ext_iff_of_nodup ?_ (List.Pairwise.filter _ nd)).mpr fun v => ?_
  · refine List.pairwise_map.mpr ?_
    refine List.Pairwise.imp_of_mem ?_ nd1
    intro a b ha hb hab e
    exact hab (xorL_inj (by rw [ln a ha, lm]) (by rw [ln b hb, lm]) e)
  · rw [List.mem_map]
    constructor
    · rintro ⟨w, hw, rfl⟩
      exact (mem_near_add S hl hm (ln w hw)).mpr hw
    · intro hv
      have lv := S.len v (mem_near.mp hv).1
      refine ⟨xorL v m, ?_, xorL_xorL (by rw [lv, lm])⟩
      have : xorL (xorL v m) m = v := xorL_xorL (by rw [lv, lm])
      rw [← this] at hv
      exact (mem_near_add S hl hm (by rw [xorL_len, lv, lm, Nat.min_self])).mp hv
theorem near_add_len (nd : ws.Nodup) {line m : Ln} (hl : line.length = n) (hm : m ∈ ws) : (nearL ws (xorL line m)).length = (nearL ws line).length := by
  rw [← (near_add S nd hl hm).length_eq, List.length_map]
theorem near_add_one (nd : ws.Nodup) {line m w : Ln} (hl : line.length = n) (hm : m ∈ ws) (h : nearL ws line = [w]) : nearL ws (xorL line m) = [xorL w m] := by
  have := near_add S nd hl hm
  rw [h] at this
  exact List.singleton_perm.mp this |>.symm
end
/-! CodeM3: the other code, weights. -/
/-- whether the product of two lines is odd -/
def dotL : Ln → Ln → Bool
  | x :: a, y :: b => (x && y) ^^ dotL a b
  | _, _ => false
theorem dotL_comm : ∀ (a b : Ln), dotL a b = dotL b a
  | [], [] => rfl
  | [], _ :: _ => rfl
  | _ :: _, [] => rfl
  | x :: a, y :: b => by rw [dotL, dotL, dotL_comm a b, Bool.and_comm]
theorem dotL_xor : ∀ {a b : Ln} (v : Ln), a.length = b.length → dotL (xorL a b) v = (dotL a v ^^ dotL b v)
  | [], [], v, _ => by cases v <;> rfl
  | x :: a, y :: b, [], _ => rfl
  | x :: a, y :: b, z :: v, h => by
    rw [xorL_cons, dotL, dotL, dotL, dotL_xor v (by simpa using h)]
    cases x <;> cases y <;> cases z <;> simp
theorem dotL_zero : ∀ (n : Nat) (v : Ln), dotL (zeroL n) v = false
  | 0, v => by cases v <;> rfl
  | n + 1, [] => rfl
  | n + 1, z :: v => by rw [zeroL_succ, dotL, dotL_zero n v]; rfl
/-- all lines, ascending -/
def linesL : Nat → List Ln
  | 0 => [[]]
  | n + 1 => (linesL n).map (fun l => false :: l) ++ (linesL n).map (fun l => true :: l)
theorem mem_lines : ∀ {n : Nat} {l : Ln}, l ∈ linesL n ↔ l.length = n
  | 0, l => by simp [linesL]
  | n + 1, l => by
    simp only [linesL, List.mem_append, List.mem_map]
    constructor
    · rintro (⟨a, ha, rfl⟩ | ⟨a, ha, rfl⟩) <;> simp [mem_lines.mp ha]
    · intro h
      cases l with
      | nil => simp at h
      | cons x l =>
        have hl := mem_lines.mpr (by simpa using h : l.length = n)
        cases x
        · exact .inl ⟨l, hl, rfl⟩
        · exact .inr ⟨l, hl, rfl⟩
theorem asc_lines : ∀ n, Asc (linesL n)
  | 0 => by simp [linesL, Asc]
  | n + 1 => by
    have ih := asc_lines n
    rw [linesL, Asc, List.pairwise_append]
    refine ⟨?_, ?_, ?_⟩
    · rw [List.pairwise_map]
      exact List.Pairwise.imp (fun h => by rw [ltL, if_pos rfl]; exact h) ih
    · rw [List.pairwise_map]
      exact List.Pairwise.imp (fun h => by rw [ltL, if_pos rfl]; exact h) ih
    · intro a ha b hb
      obtain ⟨a', _, rfl⟩ := List.mem_map.mp ha
      obtain ⟨b', _, rfl⟩ := List.mem_map.mp hb
      rfl
theorem len_lines : ∀ n, (linesL n).length = 2 ^ n
  | 0 => rfl
  | n + 1 => by rw [linesL, List.length_append, List.length_map, List.length_map, len_lines n, Nat.pow_succ]; omega
/-- the lines whose products with all are even -/
def othersL (n : Nat) (code : List Ln) : List Ln := (linesL n).filter fun l => code.all fun r => !dotL l r
theorem mem_others {n : Nat} {code : List Ln} {l : Ln} : l ∈ othersL n code ↔ l.length = n ∧ ∀ r ∈ code, dotL l r = false := by
  unfold othersL
  rw [List.mem_filter, mem_lines, List.all_eq_true]
  simp
theorem asc_others (n : Nat) (code : List Ln) : Asc (othersL n code) := List.Pairwise.filter _ (asc_lines n)
theorem shut_others {n : Nat} {code : List Ln} : Shut n (othersL n code) := by
  refine ⟨fun w h => (mem_others.mp h).1, mem_others.mpr ⟨zeroL_len n, fun r _ => dotL_zero n r⟩, fun a ha b hb => ?_⟩
  obtain ⟨la, ea⟩ := mem_others.mp ha
  obtain ⟨lb, eb⟩ := mem_others.mp hb
  refine mem_others.mpr ⟨by rw [xorL_len, la, lb, Nat.min_self], fun r hr => ?_⟩
  rw [dotL_xor r (by rw [la, lb]), ea r hr, eb r hr]
  rfl
/-- all words do as the rows -/
theorem others_words {n : Nat} {code : List Ln} (h : ∀ r ∈ code, r.length = n) : othersL n (wordsL n code) = othersL n code := by
  refine asc_ext (asc_others n _) (asc_others n _) fun l => ?_
  rw [mem_others, mem_others]
  refine and_congr_right fun hl => ⟨fun e r hr => e r (mem_sortL.mpr (row_mem_span h hr)), fun e w hw => ?_⟩
  have hw := mem_sortL.mp hw
  have S : Shut n ((linesL n).filter fun w => !dotL l w) := by
    refine ⟨fun w hw => mem_lines.mp (List.mem_filter.mp hw).1, List.mem_filter.mpr ⟨mem_lines.mpr (zeroL_len n), ?_⟩, fun a ha b hb => ?_⟩
    · rw [dotL_comm, dotL_zero]; rfl
    · rw [List.mem_filter, mem_lines] at *
      refine ⟨by rw [xorL_len, ha.1, hb.1, Nat.min_self], ?_⟩
      have h1 := ha.2
      have h2 := hb.2
      simp only [Bool.not_eq_true'] at h1 h2 ⊢
      rw [dotL_comm, dotL_xor l (by rw [ha.1, hb.1]), dotL_comm a, dotL_comm b, h1, h2]
      rfl
  have := span_least S (fun r hr => List.mem_filter.mpr ⟨mem_lines.mpr (h r hr), by rw [e r hr]; rfl⟩) hw
  simpa using (List.mem_filter.mp this).2
/-! ### sums of signs -/
def sg (b : Bool) : Int := if b then -1 else 1
theorem sg_xor (a b : Bool) : sg (a ^^ b) = sg a * sg b := by cases a <;> cases b <;> rfl
theorem sum_perm {l m : List Int} (h : l.Perm m) : l.sum = m.sum := by
  induction h with
  | nil => rfl
  | cons x _ ih => simp [ih]
  | swap x y l => simp; omega
  | trans _ _ h1 h2 => rw [h1, h2]
theorem sum_neg {α : Type} (f : α → Int) : ∀ l : List α, (l.map fun x => -f x).sum = -(l.map f).sum
  | [] => rfl
  | x :: l => by rw [List.map_cons, List.sum_cons, sum_neg f l, List.map_cons, List.sum_cons]; omega
theorem sum_add {α : Type} (f g : α → Int) : ∀ l : List α, (l.map fun x => f x + g x).sum = (l.map f).sum + (l.map g).sum
  | [] => rfl
  | x :: l => by rw [List.map_cons, List.sum_cons, sum_add f g l, List.map_cons, List.sum_cons, List.map_cons, List.sum_cons]; omega
theorem sum_zero {α : Type} : ∀ l : List α, (l.map fun _ => (0 : Int)).sum = 0
  | [] => rfl
  | x :: l => by rw [List.map_cons, List.sum_cons, sum_zero l]; rfl
theorem sum_mul {α : Type} (c : Int) (f : α → Int) : ∀ l : List α, (l.map fun x => c * f x).sum = c * (l.map f).sum
  | [] => by simp
  | x :: l => by rw [List.map_cons, List.sum_cons, sum_mul c f l, List.map_cons, List.sum_cons, Int.mul_add]
theorem sum_const {α : Type} (c : Int) : ∀ l : List α, (l.map fun _ => c).sum = (l.length : Int) * c
  | [] => by simp
  | x :: l => by
    rw [List.map_cons, List.sum_cons, sum_const c l, List.length_cons]
    have : ((l.length + 1 : Nat) : Int) * c = (l.length : Int) * c + c := by rw [Int.natCast_add, Int.add_mul]; simp
    omega
/-- sums over two lists, either way round -/
theorem sum_swap {α β : Type} (f : α → β → Int) (m : List β) : ∀ l : List α, (l.map fun x => (m.map fun y => f x y).sum).sum = (m.map fun y => (l.map fun x => f x y).sum).sum
  | [] => by simp [sum_zero]
  | x :: l => by
    rw [List.map_cons, List.sum_cons, sum_swap f m l]
    simp only [List.map_cons, List.sum_cons]
    rw [sum_add]
theorem sum_filter {α : Type} (p : α → Bool) (f : α → Int) : ∀ l : List α, ((l.filter p).map f).sum = (l.map fun x => if p x then f x else 0).sum
  | [] => rfl
  | x :: l => by
    rw [List.filter_cons, List.map_cons, List.sum_cons, ← sum_filter p f l]
    cases p x <;> simp
theorem sum_congr {α : Type} {f g : α → Int} {l : List α} (h : ∀ x ∈ l, f x = g x) : (l.map f).sum = (l.map g).sum := by rw [List.map_congr_left h]
/-- the signs of a line's products with a closed lot -/
theorem sum_signs {n : Nat} {W : List Ln} (S : Shut n W) (nd : W.Nodup) {v : Ln} (hv : v.length = n) : (W.map fun w => sg (dotL v w)).sum = if W.all (fun w => !dotL v w) then (W.length : Int) else 0 := by
  split
  · rename_i h
    rw [sum_congr (g := fun _ => 1), sum_const]
    · omega
    · intro w hw
      have := List.all_eq_true.mp h w hw
      simp at this
      rw [this]; rfl
  · rename_i h
    have : ∃ u ∈ W, dotL v u = true := by
      have h : W.all (fun w => !dotL v w) = false := by simpa using h
      rw [List.all_eq_false] at h
      obtain ⟨u, hu, e⟩ := h
      exact ⟨u, hu, by simpa using e⟩
    obtain ⟨u, hu, e⟩ := this
    have lu := S.len u hu
    have hp : (W.map fun w => xorL w u).Perm W := by
      refine (List.perm_ext_iff_of_nodup ?_ nd).mpr fun x => ?_
      · refine List.pairwise_map.mpr (List.Pairwise.imp_of_mem ?_ nd)
        intro a b ha hb hab q
        exact hab (xorL_inj (by rw [S.len a ha, lu]) (by rw [S.len b hb, lu]) q)
      · rw [List.mem_map]
        constructor
        · rintro ⟨w, hw, rfl⟩
          exact S.sum w hw u hu
        · intro hx
          exact ⟨xorL x u, S.sum x hx u hu, xorL_xorL (by rw [S.len x hx, lu])⟩
    have h1 := sum_perm (hp.map fun w => sg (dotL v w))
    rw [List.map_map] at h1
    have h2 : ((W.map ((fun w => sg (dotL v w)) ∘ fun w => xorL w u))).sum = -(W.map fun w => sg (dotL v w)).sum := by
      rw [← sum_neg]
      refine sum_congr fun w hw => ?_
      simp only [Function.comp]
      rw [dotL_comm, dotL_xor v (by rw [S.len w hw, lu]), sg_xor, dotL_comm u, e, dotL_comm w]
      show sg (dotL v w) * -1 = _
      omega
    omega
theorem all_comm {W : List Ln} {v : Ln} : (W.all fun r => !dotL v r) = true ↔ ∀ r ∈ W, dotL v r = false := by
  rw [List.all_eq_true]
  simp
/-- the lot times its other lot is all lines -/
theorem card_others {n : Nat} {W : List Ln} (S : Shut n W) (nd : W.Nodup) : W.length * (othersL n W).length = 2 ^ n := by
  have nl := asc_nodup (asc_lines n)
  have Sl : Shut n (linesL n) := ⟨fun w h => mem_lines.mp h, mem_lines.mpr (zeroL_len n), fun a ha b hb => mem_lines.mpr (by rw [xorL_len, mem_lines.mp ha, mem_lines.mp hb, Nat.min_self])⟩
  have h1 : ((linesL n).map fun v => (W.map fun w => sg (dotL v w)).sum).sum = ((othersL n W).length : Int) * (W.length : Int) := by
    rw [sum_congr (g := fun v => if (W.all fun w => !dotL v w) then (W.length : Int) else 0) fun v hv => sum_signs S nd (mem_lines.mp hv)]
    rw [← sum_filter (fun v => W.all fun w => !dotL v w) (fun _ => (W.length : Int)), sum_const]
    rfl
  have h2 : ((linesL n).map fun v => (W.map fun w => sg (dotL v w)).sum).sum = (2 ^ n : Nat) := by
    rw [sum_swap]
    have h3 : ∀ w ∈ W, ((linesL n).map fun v => sg (dotL v w)).sum = if w = zeroL n then ((2 ^ n : Nat) : Int) else 0 := fun w hw => by
      have := sum_signs Sl nl (S.len w hw)
      rw [sum_congr (f := fun v => sg (dotL v w)) (g := fun v => sg (dotL w v)) fun v _ => by rw [dotL_comm], this, len_lines]
      by_cases e : w = zeroL n
      · rw [if_pos e, if_pos]
        rw [List.all_eq_true]
        intro v _
        rw [e, dotL_zero]; rfl
      · rw [if_neg e, if_neg]
        intro q
        apply e
        have q := all_comm.mp q
        have key : ∀ (w : Ln), (∀ v : Ln, v.length = w.length → dotL w v = false) → w = zeroL w.length := by
          intro w
          induction w with
          | nil => intro _; rfl
          | cons x w ih =>
            intro h
            have hx := h (true :: zeroL w.length) (by simp [zeroL])
            rw [dotL, dotL_comm, dotL_zero] at hx
            have hx : x = false := by simpa using hx
            rw [List.length_cons, zeroL_succ, hx, ← ih fun v hv => ?_]
            have := h (false :: v) (by simp [hv])
            rw [dotL] at this
            simpa using this
        have := key w fun v hv => q v (mem_lines.mpr (by rw [hv, S.len w hw]))
        rwa [S.len w hw] at this
    rw [sum_congr h3]
    have hz := S.zero
    have : ∀ (W : List Ln), W.Nodup → zeroL n ∈ W → (W.map fun w => if w = zeroL n then ((2 ^ n : Nat) : Int) else 0).sum = (2 ^ n : Nat) := by
      intro W
      induction W with
      | nil => intro _ h; cases h
      | cons a W ih =>
        intro nd h
        rw [List.nodup_cons] at nd
        rw [List.map_cons, List.sum_cons]
        by_cases e : a = zeroL n
        · rw [if_pos e, sum_congr (g := fun _ => 0), sum_zero]
          · simp
          · intro w hw
            rw [if_neg]
            intro q
            subst e
            exact nd.1 (q ▸ hw)
        · rw [if_neg e, ih nd.2]
          · simp
          · rcases List.mem_cons.mp h with q | q
            · exact (e q.symm).elim
            · exact q
    exact this W nd hz
  have : ((othersL n W).length : Int) * (W.length : Int) = ((2 ^ n : Nat) : Int) := h1.symm.trans h2
  rw [← Int.natCast_mul] at this
  have := Int.ofNat.inj this
  rw [Nat.mul_comm]
  exact this
/-- the other lot of the other lot -/
theorem others_others {n : Nat} {W : List Ln} (S : Shut n W) (nd : W.Nodup) : (othersL n (othersL n W)).Perm W := by
  have nd2 := asc_nodup (asc_others n (othersL n W))
  have h1 := card_others S nd
  have h2 := card_others (shut_others (n := n) (code := W)) (asc_nodup (asc_others n W))
  have hsub : ∀ w ∈ W, w ∈ othersL n (othersL n W) := fun w hw => mem_others.mpr ⟨S.len w hw, fun r hr => by rw [dotL_comm]; exact (mem_others.mp hr).2 w hw⟩
  have hl : W.length = (othersL n (othersL n W)).length := by
    have hp : 0 < (othersL n W).length := by
      cases h : (othersL n W).length with
      | zero =>
        rw [h] at h1
        have := Nat.two_pow_pos n
        omega
      | succ k => omega
    rw [Nat.mul_comm] at h1
    exact Nat.eq_of_mul_eq_mul_left hp (h1.trans h2.symm)
  refine (List.perm_ext_iff_of_nodup nd2 nd).mpr fun x => ⟨fun hx => ?_, hsub x⟩
  by_cases q : x ∈ W
  · exact q
  · have nd3 : (x :: W).Nodup := List.nodup_cons.mpr ⟨q, nd⟩
    have := nd3.length_le_of_subset (l₂ := othersL n (othersL n W)) fun y hy => by
      rcases List.mem_cons.mp hy with e | hy
      · rw [e]; exact hx
      · exact hsub y hy
    rw [List.length_cons] at this
    omega
theorem others_others_words {n : Nat} {code : List Ln} (h : ∀ r ∈ code, r.length = n) : othersL n (othersL n code) = wordsL n code := by
  rw [← others_words h]
  refine asc_ext (asc_others n _) (asc_words n code) fun x => ?_
  exact (others_others (shut_words h) (asc_nodup (asc_words n code))).mem_iff
/-! CodeM4: the weights of the other code (MacWilliams). -/
/-- the sum of the signs of the products with the lines of so many ones -/
def pS : Ln → Nat → Int
  | [], 0 => 1
  | [], _ + 1 => 0
  | _ :: w, 0 => pS w 0
  | x :: w, j + 1 => pS w (j + 1) + sg x * pS w j
theorem pS_sum : ∀ (w : Ln) (j : Nat), (((linesL w.length).filter fun v => decide (wt v = j)).map fun v => sg (dotL w v)).sum = pS w j
  | [], 0 => by decide
  | [], j + 1 => by simp [linesL, wt, pS]
  | x :: w, j => by
    have split : ∀ (b : Bool), (((linesL w.length).map fun l => b :: l).filter fun v => decide (wt v = j)) = ((linesL w.length).filter fun l => decide (wt l + (if b then 1 else 0) = j)).map fun l => b :: l := fun b => by
      rw [List.filter_map]
      congr 1
      apply List.filter_congr
      intro l _
      simp only [Function.comp, wt_cons]
    rw [List.length_cons, linesL, List.filter_append, List.map_append, List.sum_append, split, split, List.map_map, List.map_map]
    have e0 : ((fun v => sg (dotL (x :: w) v)) ∘ fun l => false :: l) = fun v => sg (dotL w v) := by
      funext v
      simp only [Function.comp, dotL]
      cases x <;> simp
    have e1 : ((fun v => sg (dotL (x :: w) v)) ∘ fun l => true :: l) = fun v => sg x * sg (dotL w v) := by
      funext v
      simp only [Function.comp, dotL, Bool.and_true, sg_xor]
    rw [e0, e1, sum_mul]
    cases j with
    | zero =>
      have : ((linesL w.length).filter fun l => decide (wt l + (if true = true then 1 else 0) = 0)) = [] := by
        rw [List.filter_eq_nil_iff]
        intro l _
        simp
      rw [this]
      have := pS_sum w 0
      simp only [pS] at this ⊢
      simpa using this
    | succ j =>
      have h0 := pS_sum w (j + 1)
      have h1 := pS_sum w j
      simp only [pS]
      rw [← h0, ← h1]
      simp
theorem pS_perm {v w : Ln} (h : v.Perm w) : ∀ j, pS v j = pS w j := by
  induction h with
  | nil => exact fun _ => rfl
  | cons x _ ih =>
    intro j
    cases j with
    | zero => simp only [pS, ih]
    | succ j => simp only [pS, ih]
  | swap x y l =>
    intro j
    match j with
    | 0 => simp only [pS]
    | 1 => simp only [pS]; omega
    | j + 2 =>
      simp only [pS]
      cases x <;> cases y <;> simp [sg] <;> omega
  | trans _ _ h1 h2 => exact fun j => (h1 j).trans (h2 j)
/-- by how many ones the line has -/
def Kt (n i j : Nat) : Int := pS (List.replicate i true ++ List.replicate (n - i) false) j
theorem pS_Kt (w : Ln) (j : Nat) : pS w j = Kt w.length (wt w) j := by
  refine pS_perm (List.perm_iff_count.mpr fun b => ?_) j
  have h : ∀ w : Ln, w.count false + wt w = w.length := fun w => by
    induction w with
    | nil => rfl
    | cons x w ih =>
      rw [wt_cons, List.length_cons]
      cases x <;> simp <;> omega
  have := h w
  cases b with
  | true =>
    rw [List.count_append, List.count_replicate, List.count_replicate]
    simp [wt]
  | false =>
    rw [List.count_append, List.count_replicate, List.count_replicate]
    simp
    omega
/-- how many have so many ones -/
def cntW (W : List Ln) (k : Nat) : Int := ((W.countP fun w => decide (wt w = k) : Nat) : Int)
theorem sum_cnt (f : Nat → Int) (n : Nat) : ∀ W : List Ln, (∀ w ∈ W, wt w ≤ n) → ((List.range (n + 1)).map fun k => cntW W k * f k).sum = (W.map fun w => f (wt w)).sum
  | [], _ => by simp [cntW, sum_zero]
  | w :: W, h => by
    have ih := sum_cnt f n W fun v hv => h v (.tail _ hv)
    rw [List.map_cons, List.sum_cons, ← ih]
    have hw := h w (.head _)
    have e : ∀ k, cntW (w :: W) k * f k = (if wt w = k then f k else 0) + cntW W k * f k := fun k => by
      unfold cntW
      rw [List.countP_cons]
      by_cases q : wt w = k
      · simp [q]
        rw [Int.add_mul]
        omega
      · simp [q]
    rw [sum_congr fun k _ => e k, sum_add]
    congr 1
    have one : ∀ (m k : Nat), k < m → ((List.range m).map fun j => if k = j then f j else 0).sum = f k := by
      intro m
      induction m with
      | zero => intro k hk; omega
      | succ m ih =>
        intro k hk
        rw [List.range_succ, List.map_append, List.sum_append]
        by_cases q : k = m
        · subst q
          rw [sum_congr (g := fun _ => 0), sum_zero]
          · simp
          · intro j hj
            rw [List.mem_range] at hj
            rw [if_neg (by omega)]
        · rw [ih k (by omega)]
          simp [q]
    exact one (n + 1) (wt w) (by omega)
theorem wt_le_n {n : Nat} {W : List Ln} (S : Shut n W) : ∀ w ∈ W, wt w ≤ n := fun w hw => by
  have := wt_le w
  rwa [S.len w hw] at this
/-- MacWilliams -/
theorem macw {n : Nat} {W : List Ln} (S : Shut n W) (nd : W.Nodup) (j : Nat) : ((List.range (n + 1)).map fun k => cntW W k * Kt n k j).sum = (W.length : Int) * cntW (othersL n W) j := by
  rw [sum_cnt (fun k => Kt n k j) n W (wt_le_n S)]
  have e : ∀ w ∈ W, Kt n (wt w) j = (((linesL n).filter fun v => decide (wt v = j)).map fun v => sg (dotL v w)).sum := fun w hw => by
    rw [← S.len w hw, ← pS_Kt, ← pS_sum]
    exact sum_congr fun v _ => by rw [dotL_comm]
  rw [sum_congr e, sum_swap]
  rw [sum_congr (g := fun v => if (W.all fun w => !dotL v w) then (W.length : Int) else 0) fun v hv => sum_signs S nd (mem_lines.mp (List.mem_filter.mp hv).1)]
  rw [← sum_filter (fun v => W.all fun w => !dotL v w) (fun _ => (W.length : Int)), sum_const]
  rw [Int.mul_comm]
  congr 1
  unfold cntW othersL
  rw [List.countP_eq_length_filter, List.filter_filter, List.filter_filter]
  congr 2
  apply List.filter_congr
  intro v _
  rw [Bool.and_comm]
theorem sum_cntW {n : Nat} {W : List Ln} (S : Shut n W) : ((List.range (n + 1)).map (cntW W)).sum = (W.length : Int) := by
  have := sum_cnt (fun _ => 1) n W (wt_le_n S)
  rw [sum_const] at this
  simp only [Int.mul_one] at this
  exact this
theorem cntW_zero {n : Nat} {W : List Ln} (S : Shut n W) (nd : W.Nodup) : cntW W 0 = 1 := by
  unfold cntW
  have : W.countP (fun w => decide (wt w = 0)) = W.count (zeroL n) := by
    rw [List.count, List.countP_congr]
    intro w hw
    have lw := S.len w hw
    rw [decide_eq_true_eq, beq_iff_eq]
    constructor
    · intro e
      have := wt_eq_zero e
      rwa [lw] at this
    · rintro rfl
      exact wt_zero n
  rw [this, nd.count, if_pos S.zero]
  rfl
theorem cntW_le (W : List Ln) (k : Nat) : 0 ≤ cntW W k ∧ cntW W k ≤ (W.length : Int) := by
  unfold cntW
  have := List.countP_le_length (p := fun w => decide (wt w = k)) (l := W)
  omega
theorem cntW_perm {V W : List Ln} (h : V.Perm W) (k : Nat) : cntW V k = cntW W k := by
  unfold cntW
  rw [h.countP_eq]
/-! CodeM5: rows that make the same words, their rank. -/
structure Same (n : Nat) (A B : List Ln) : Prop where
  la : ∀ r ∈ A, r.length = n
  lb : ∀ r ∈ B, r.length = n
  ab : ∀ r ∈ A, r ∈ spanL n B
  ba : ∀ r ∈ B, r ∈ spanL n A
theorem Same.symm {n : Nat} {A B : List Ln} (h : Same n A B) : Same n B A := ⟨h.lb, h.la, h.ba, h.ab⟩
theorem Same.mem {n : Nat} {A B : List Ln} (h : Same n A B) (x : Ln) : x ∈ spanL n A ↔ x ∈ spanL n B :=
  ⟨span_least (shut_span h.lb) h.ab, span_least (shut_span h.la) h.ba⟩
theorem Same.words {n : Nat} {A B : List Ln} (h : Same n A B) : wordsL n A = wordsL n B :=
  asc_ext (asc_words n A) (asc_words n B) fun x => mem_sortL.trans ((h.mem x).trans mem_sortL.symm)
theorem Same.others {n : Nat} {A B : List Ln} (h : Same n A B) : othersL n A = othersL n B := by
  rw [← others_words h.la, ← others_words h.lb, h.words]
theorem Same.refl {n : Nat} {A : List Ln} (h : ∀ r ∈ A, r.length = n) : Same n A A := ⟨h, h, fun r hr => row_mem_span h hr, fun r hr => row_mem_span h hr⟩
theorem Same.trans {n : Nat} {A B C : List Ln} (x : Same n A B) (y : Same n B C) : Same n A C :=
  ⟨x.la, y.lb, fun r hr => (y.mem r).mp (x.ab r hr), fun r hr => (x.mem r).mpr (y.ba r hr)⟩
theorem Same.perm {n : Nat} {A B : List Ln} (h : ∀ r ∈ A, r.length = n) (p : A.Perm B) : Same n A B :=
  have hb : ∀ r ∈ B, r.length = n := fun r hr => h r (p.mem_iff.mpr hr)
  ⟨h, hb, fun r hr => row_mem_span hb (p.mem_iff.mp hr), fun r hr => row_mem_span h (p.mem_iff.mpr hr)⟩
/-- a row added to another -/
theorem Same.add {n : Nat} {A : List Ln} (h : ∀ r ∈ A, r.length = n) {i j : Nat} (hi : i < A.length) (hj : j < A.length) (ne : i ≠ j) : Same n A (A.set i (xorL A[i] A[j])) := by
  have li := h _ (List.getElem_mem hi)
  have lj := h _ (List.getElem_mem hj)
  have hb : ∀ r ∈ A.set i (xorL A[i] A[j]), r.length = n := fun r hr => by
    rcases List.mem_or_eq_of_mem_set hr with hr | rfl
    · exact h r hr
    · rw [xorL_len, li, lj, Nat.min_self]
  have S := shut_span h
  have S2 := shut_span hb
  have mi : xorL A[i] A[j] ∈ A.set i (xorL A[i] A[j]) := List.mem_set hi _
  have mj : A[j] ∈ A.set i (xorL A[i] A[j]) := by
    refine List.mem_iff_getElem.mpr ⟨j, by simpa using hj, ?_⟩
    rw [List.getElem_set_ne ne]
  refine ⟨h, hb, fun r hr => ?_, fun r hr => ?_⟩
  · obtain ⟨k, hk, rfl⟩ := List.mem_iff_getElem.mp hr
    by_cases e : k = i
    · subst e
      have := S2.sum _ (row_mem_span hb mi) _ (row_mem_span hb mj)
      rwa [xorL_xorL (by rw [li, lj])] at this
    · refine row_mem_span hb (List.mem_iff_getElem.mpr ⟨k, by simpa using hk, ?_⟩)
      rw [List.getElem_set_ne (fun z => e z.symm)]
  · rcases List.mem_or_eq_of_mem_set hr with hr | rfl
    · exact row_mem_span h hr
    · exact S.sum _ (row_mem_span h (List.getElem_mem hi)) _ (row_mem_span h (List.getElem_mem hj))
/-! ### how many -/
theorem len_addRow_new {n : Nat} {f : List Ln} {row : Ln} (S : Shut n f) (nd : f.Nodup) (hr : row.length = n) (new : row ∉ f) : (addRow f row).length = 2 * f.length := by
  have nd1 : (addRow f row).Nodup := nodup_insAll row f nd
  have nd2 : (f ++ f.map fun w => xorL w row).Nodup := by
    rw [List.nodup_append]
    refine ⟨nd, ?_, ?_⟩
    · refine List.pairwise_map.mpr (List.Pairwise.imp_of_mem ?_ nd)
      intro a b ha hb hab e
      exact hab (xorL_inj (by rw [S.len a ha, hr]) (by rw [S.len b hb, hr]) e)
    · intro a ha b hb e
      subst e
      obtain ⟨w, hw, rfl⟩ := List.mem_map.mp hb
      apply new
      have := S.sum _ hw _ ha
      rw [← xorL_assoc, xorL_self, zero_xorL (by rw [hr, S.len w hw])] at this
      exact this
  have p : (addRow f row).Perm (f ++ f.map fun w => xorL w row) := (List.perm_ext_iff_of_nodup nd1 nd2).mpr fun x => by
    rw [mem_addRow, List.mem_append, List.mem_map]
    constructor
    · rintro (h | ⟨w, hw, rfl⟩)
      · exact .inl h
      · exact .inr ⟨w, hw, rfl⟩
    · rintro (h | ⟨w, hw, rfl⟩)
      · exact .inl h
      · exact .inr ⟨w, hw, rfl⟩
  rw [p.length_eq, List.length_append, List.length_map]
  omega
theorem len_addRow_zero {n : Nat} {f : List Ln} (S : Shut n f) : (addRow f (zeroL n)).length = f.length := by
  have : ∀ (ws g : List Ln), (∀ w ∈ ws, w ∈ g ∧ w.length = n) → ws.foldl (fun g w => insL g (xorL w (zeroL n))) g = g := by
    intro ws
    induction ws with
    | nil => intro g _; rfl
    | cons w ws ih =>
      intro g h
      obtain ⟨h1, h2⟩ := h w (.head _)
      have e : insL g (xorL w (zeroL n)) = g := by
        rw [xorL_zero' h2]
        unfold insL
        rw [if_pos h1]
      rw [List.foldl_cons, e]
      exact ih g fun v hv => h v (.tail _ hv)
  unfold addRow
  rw [this f f fun w hw => ⟨hw, S.len w hw⟩]
/-- a place of a line -/
def bit (l : Ln) (p : Nat) : Bool := l.getD p false
theorem bit_xor {a b : Ln} (h : a.length = b.length) (p : Nat) : bit (xorL a b) p = (bit a p ^^ bit b p) := by
  unfold bit xorL
  simp only [List.getD_eq_getElem?_getD, List.getElem?_zipWith]
  by_cases hp : p < a.length
  · rw [List.getElem?_eq_getElem hp, List.getElem?_eq_getElem (h ▸ hp)]; rfl
  · rw [List.getElem?_eq_none (by omega), List.getElem?_eq_none (by omega)]; rfl
theorem bit_zero (n p : Nat) : bit (zeroL n) p = false := by
  unfold bit zeroL
  rw [List.getD_eq_getElem?_getD, List.getElem?_replicate]
  split <;> rfl
theorem bit_span {n : Nat} {code : List Ln} (h : ∀ r ∈ code, r.length = n) {p : Nat} (hz : ∀ r ∈ code, bit r p = false) {x : Ln} (hx : x ∈ spanL n code) : bit x p = false := by
  have S : Shut n ((linesL n).filter fun w => !bit w p) := by
    refine ⟨fun w hw => mem_lines.mp (List.mem_filter.mp hw).1, List.mem_filter.mpr ⟨mem_lines.mpr (zeroL_len n), by rw [bit_zero]; rfl⟩, fun a ha b hb => ?_⟩
    rw [List.mem_filter, mem_lines] at *
    refine ⟨by rw [xorL_len, ha.1, hb.1, Nat.min_self], ?_⟩
    have h1 := ha.2
    have h2 := hb.2
    simp only [Bool.not_eq_true'] at h1 h2 ⊢
    rw [bit_xor (by rw [ha.1, hb.1]), h1, h2]
    rfl
  have := span_least S (fun r hr => List.mem_filter.mpr ⟨mem_lines.mpr (h r hr), by rw [hz r hr]; rfl⟩) hx
  simpa using (List.mem_filter.mp this).2
theorem span_snoc (n : Nat) (A : List Ln) (r : Ln) : spanL n (A ++ [r]) = addRow (spanL n A) r := by
  unfold spanL
  rw [List.foldl_append]; rfl
/-- rows with a place of their own each, behind them rows of 0 -/
theorem len_span_piv {n : Nat} : ∀ {d : Nat} {A : List Ln}, (∀ r ∈ A, r.length = n) → A.length = d → (∃ pv : Nat → Nat, ∀ i k, i < d → (hk : k < A.length) → bit A[k] (pv i) = decide (k = i)) → (spanL n A).length = 2 ^ d := by
  intro d
  induction d with
  | zero =>
    intro A _ hl _
    rw [List.length_eq_zero_iff.mp hl]; rfl
  | succ d ih =>
    intro A h hl ⟨pv, hp⟩
    have ne : A ≠ [] := fun e => by rw [e] at hl; simp at hl
    have hA := List.dropLast_concat_getLast ne
    have hl1 : A.dropLast.length = d := by rw [List.length_dropLast]; omega
    have hr : ∀ r ∈ A.dropLast, r.length = n := fun r hr => h r (List.dropLast_subset A hr)
    have hlast : A.getLast ne = A[d]'(by omega) := by
      rw [List.getLast_eq_getElem]
      congr 1
      omega
    have h1 := ih hr hl1 ⟨pv, fun i k hi hk => by
      have := hp i k (by omega) (by omega)
      rw [List.getElem_dropLast]
      exact this⟩
    rw [← hA, span_snoc, len_addRow_new (shut_span hr) (nodup_span n _) (h _ (List.getLast_mem ne)) ?_, h1, Nat.pow_succ]
    · omega
    · intro hm
      have hz : ∀ r ∈ A.dropLast, bit r (pv d) = false := fun r hr => by
        obtain ⟨k, hk, rfl⟩ := List.mem_iff_getElem.mp hr
        rw [List.getElem_dropLast, hp d k (by omega) (by omega)]
        exact decide_eq_false (by omega)
      have := bit_span hr hz hm
      rw [hlast, hp d d (by omega) (by omega)] at this
      simp at this
theorem len_span_zeros {n : Nat} (A : List Ln) (h : ∀ r ∈ A, r.length = n) : ∀ k : Nat, (spanL n (A ++ List.replicate k (zeroL n))).length = (spanL n A).length
  | 0 => by simp
  | k + 1 => by
    rw [List.replicate_succ', ← List.append_assoc, span_snoc, len_addRow_zero, len_span_zeros A h k]
    refine shut_span fun r hr => ?_
    rcases List.mem_append.mp hr with hr | hr
    · exact h r hr
    · rw [(List.mem_replicate.mp hr).2, zeroL_len]
/-! ### no more than columns less rank, and 1 (Singleton) -/
theorem singleton_bd {n k : Nat} {W : List Ln} (S : Shut n W) (nd : W.Nodup) (hW : W.length = 2 ^ k) (hk : 1 ≤ k) : ∃ w ∈ W, w ≠ zeroL n ∧ wt w + k ≤ n + 1 := by
  have two : ∃ a ∈ W, ∃ b ∈ W, a ≠ b ∧ a.take (k - 1) = b.take (k - 1) := by
    refine Classical.byContradiction fun no => ?_
    have nd2 : (W.map fun w => w.take (k - 1)).Nodup := by
      refine List.pairwise_map.mpr (List.Pairwise.imp_of_mem ?_ nd)
      intro a b ha hb hab e
      exact no ⟨a, ha, b, hb, hab, e⟩
    have hkn : k - 1 ≤ n := by
      refine Nat.le_of_not_lt fun z => ?_
      have h1 : W.length ≤ (linesL n).length := nd.length_le_of_subset fun w hw => mem_lines.mpr (S.len w hw)
      rw [hW, len_lines] at h1
      have h2 : 2 ^ (n + 1) ≤ 2 ^ k := Nat.pow_le_pow_right (by omega) (by omega)
      have h3 := Nat.two_pow_pos n
      rw [Nat.pow_succ] at h2
      omega
    have hs := nd2.length_le_of_subset (l₂ := linesL (k - 1)) fun v hv => by
      obtain ⟨w, hw, rfl⟩ := List.mem_map.mp hv
      rw [mem_lines, List.length_take, S.len w hw]
      omega
    rw [List.length_map, hW, len_lines] at hs
    have h2 : 2 ^ k = 2 ^ (k - 1) * 2 := by rw [← Nat.pow_succ]; congr 1; omega
    have h3 := Nat.two_pow_pos (k - 1)
    omega
  obtain ⟨a, ha, b, hb, ne, e⟩ := two
  have la := S.len a ha
  have lb := S.len b hb
  refine ⟨xorL a b, S.sum a ha b hb, fun z => ne (dist_eq (by rw [la, lb]) (by unfold dist; rw [z, wt_zero])), ?_⟩
  have key : ∀ (j : Nat) (a b : Ln), a.length = b.length → a.take j = b.take j → wt (xorL a b) + j ≤ max a.length j := by
    intro j
    induction j with
    | zero =>
      intro a b h _
      have := wt_le (xorL a b)
      rw [xorL_len] at this
      omega
    | succ j ih =>
      intro a b h e
      match a, b, h, e with
      | [], [], _, _ => simp [xorL_nil, wt]
      | x :: a, y :: b, h, e =>
        rw [List.take_succ_cons, List.take_succ_cons] at e
        injection e with e1 e2
        have := ih a b (by simpa using h) e2
        rw [e1, xorL_cons, wt_cons, Bool.xor_self, List.length_cons]
        simp
        omega
  have h1 := key (k - 1) a b (by rw [la, lb]) e
  have hkn : k - 1 ≤ n := by
    refine Nat.le_of_not_lt fun z => ?_
    have h1 : W.length ≤ (linesL n).length := nd.length_le_of_subset fun w hw => mem_lines.mpr (S.len w hw)
    rw [hW, len_lines] at h1
    have h2 : 2 ^ (n + 1) ≤ 2 ^ k := Nat.pow_le_pow_right (by omega) (by omega)
    have h3 := Nat.two_pow_pos n
    rw [Nat.pow_succ] at h2
    omega
  rw [la] at h1
  omega
/-! lines of bits, one longer. -/
open PySem Pev
def bothL (l : Ln) : List Ln := [l ++ [false], l ++ [true]]
theorem lines_succ : ∀ n : Nat, linesL (n + 1) = (linesL n).flatMap bothL
  | 0 => rfl
  | n + 1 => by
    have ih := lines_succ n
    have key : ∀ (x : Bool) (L : List Ln), (L.map fun l => x :: l).flatMap bothL = (L.flatMap bothL).map fun l => x :: l := fun x L => by
      induction L with
      | nil => rfl
      | cons a L ih => rw [List.map_cons, List.flatMap_cons, ih, List.flatMap_cons, List.map_append]; rfl
    show (linesL (n + 1)).map _ ++ (linesL (n + 1)).map _ = ((linesL n).map _ ++ (linesL n).map _).flatMap bothL
    rw [List.flatMap_append, key, key, ih]
theorem snoc0 (l : Ln) : PyData.tuple (l.map bP ++ [PyData.int 0]) = lnP (l ++ [false]) := by
  show _ = PyData.tuple ((l ++ [false]).map bP)
  rw [List.map_append]; rfl
theorem snoc1 (l : Ln) : PyData.tuple (l.map bP ++ [PyData.int 1]) = lnP (l ++ [true]) := by
  show _ = PyData.tuple ((l ++ [true]).map bP)
  rw [List.map_append]; rfl
theorem len_both : ∀ L : List Ln, (L.flatMap bothL).length = 2 * L.length
  | [] => rfl
  | a :: L => by rw [List.flatMap_cons, List.length_append, len_both L, List.length_cons]; simp [bothL]; omega
/-! q rows over remainders by 2: plain mathematics. -/
/-- the remainder of a sum -/
def xrs : Nat → (Nat → Bool) → Bool
  | 0, _ => false
  | n + 1, f => xrs n f ^^ f n
theorem xrs_congr {f g : Nat → Bool} : ∀ {n : Nat}, (∀ i, i < n → f i = g i) → xrs n f = xrs n g
  | 0, _ => rfl
  | n + 1, h => by rw [xrs, xrs, xrs_congr fun i hi => h i (by omega), h n (by omega)]
theorem xrs_xor (f g : Nat → Bool) : ∀ n, xrs n (fun i => f i ^^ g i) = (xrs n f ^^ xrs n g)
  | 0 => rfl
  | n + 1 => by
    rw [xrs, xrs, xrs, xrs_xor f g n]
    cases xrs n f <;> cases xrs n g <;> cases f n <;> cases g n <;> rfl
theorem xrs_and (c : Bool) (f : Nat → Bool) : ∀ n, xrs n (fun i => c && f i) = (c && xrs n f)
  | 0 => by cases c <;> rfl
  | n + 1 => by
    rw [xrs, xrs, xrs_and c f n]
    cases c <;> cases xrs n f <;> cases f n <;> rfl
theorem xrs_false : ∀ n, xrs n (fun _ => false) = false
  | 0 => rfl
  | n + 1 => by rw [xrs, xrs_false n]; rfl
theorem xrs_zero {f : Nat → Bool} {n : Nat} (h : ∀ i, i < n → f i = false) : xrs n f = false := by rw [xrs_congr h, xrs_false]
theorem xrs_swap (f : Nat → Nat → Bool) (m : Nat) : ∀ n, xrs n (fun i => xrs m fun j => f i j) = xrs m fun j => xrs n fun i => f i j
  | 0 => (xrs_false m).symm
  | n + 1 => by
    rw [xrs, xrs_swap f m n, ← xrs_xor]
    rfl
theorem xrs_delta {n i : Nat} (h : i < n) (f : Nat → Bool) : xrs n (fun k => decide (k = i) && f k) = f i := by
  induction n with
  | zero => omega
  | succ n ih =>
    rw [xrs]
    by_cases e : i = n
    · subst e
      rw [xrs_zero fun k hk => by rw [decide_eq_false (by omega), Bool.false_and], decide_eq_true rfl, Bool.true_and, Bool.false_xor]
    · rw [ih (by omega), decide_eq_false (by omega), Bool.false_and, Bool.xor_false]
/-- the worth -/
def Wq (n : Nat) (q : Nat → Nat → Bool) (x : Nat → Bool) : Bool := xrs n fun i => xrs n fun j => decide (i ≤ j) && (q i j && (x i && x j))
/-- the pairs -/
def Pq (q : Nat → Nat → Bool) (i j : Nat) : Bool := !decide (i = j) && (q i j ^^ q j i)
def Bq (n : Nat) (p : Nat → Nat → Bool) (x y : Nat → Bool) : Bool := xrs n fun i => xrs n fun j => p i j && (x i && y j)
def Upp (q : Nat → Nat → Bool) : Prop := ∀ i j, j < i → q i j = false
theorem Wq_congr {n : Nat} {q r : Nat → Nat → Bool} {x y : Nat → Bool} (h : ∀ i j, i < n → j < n → q i j = r i j) (k : ∀ i, i < n → x i = y i) : Wq n q x = Wq n r y :=
  xrs_congr fun i hi => xrs_congr fun j hj => by rw [h i j hi hj, k i hi, k j hj]
theorem Bq_congr {n : Nat} {p r : Nat → Nat → Bool} {x y x' y' : Nat → Bool} (h : ∀ i j, i < n → j < n → p i j = r i j) (k : ∀ i, i < n → x i = x' i) (l : ∀ i, i < n → y i = y' i) : Bq n p x y = Bq n r x' y' :=
  xrs_congr fun i hi => xrs_congr fun j hj => by rw [h i j hi hj, k i hi, l j hj]
theorem polar {n : Nat} {q : Nat → Nat → Bool} (U : Upp q) (x y : Nat → Bool) : Wq n q (fun i => x i ^^ y i) = ((Wq n q x ^^ Wq n q y) ^^ Bq n (Pq q) x y) := by
  have e1 : Wq n q (fun i => x i ^^ y i) = ((Wq n q x ^^ Wq n q y) ^^ (xrs n (fun i => xrs n fun j => decide (i ≤ j) && (q i j && (x i && y j))) ^^ xrs n (fun i => xrs n fun j => decide (i ≤ j) && (q i j && (y i && x j))))) := by
    unfold Wq
    rw [← xrs_xor, ← xrs_xor, ← xrs_xor]
    refine xrs_congr fun i _ => ?_
    rw [← xrs_xor, ← xrs_xor, ← xrs_xor]
    refine xrs_congr fun j _ => ?_
    show (decide (i ≤ j) && (q i j && ((x i ^^ y i) && (x j ^^ y j)))) = _
    cases decide (i ≤ j) <;> cases q i j <;> cases x i <;> cases x j <;> cases y i <;> cases y j <;> rfl
  rw [e1]
  congr 1
  rw [xrs_swap (fun i j => decide (i ≤ j) && (q i j && (y i && x j))), ← xrs_xor]
  unfold Bq
  refine xrs_congr fun i _ => ?_
  rw [← xrs_xor]
  refine xrs_congr fun j _ => ?_
  unfold Pq
  rcases Nat.lt_trichotomy i j with h | h | h
  · rw [decide_eq_true (show i ≤ j by omega), decide_eq_false (show ¬ j ≤ i by omega), decide_eq_false (show ¬ i = j by omega), U j i h]
    cases q i j <;> cases x i <;> cases y j <;> rfl
  · subst h
    rw [decide_eq_true (Nat.le_refl i), decide_eq_true rfl]
    cases q i i <;> cases x i <;> cases y i <;> rfl
  · rw [decide_eq_false (show ¬ i ≤ j by omega), decide_eq_true (show j ≤ i by omega), decide_eq_false (show ¬ i = j by omega), U i j h]
    cases q j i <;> cases x i <;> cases y j <;> rfl
/-- a line's bits -/
def bf (l : Ln) : Nat → Bool := fun i => bit l i
/-- the sum of columns -/
def led (n : Nat) (t : Nat → Nat → Bool) (x : Nat → Bool) : Nat → Bool := fun i => xrs n fun j => t i j && x j
/-- the worth of a sum of columns, by the pairs of columns -/
def byQ (n : Nat) (q t : Nat → Nat → Bool) (i j : Nat) : Bool :=
  if i = j then Wq n q (fun k => t k i) else if i < j then Bq n (Pq q) (fun k => t k i) (fun k => t k j) else false
theorem byQ_upp (n : Nat) (q t : Nat → Nat → Bool) : Upp (byQ n q t) := fun i j h => by
  unfold byQ
  rw [if_neg (by omega), if_neg (by omega)]
theorem Bq_zero {n : Nat} {p : Nat → Nat → Bool} {x y : Nat → Bool} (h : ∀ j, j < n → y j = false) : Bq n p x y = false :=
  xrs_zero fun i _ => xrs_zero fun j hj => by rw [h j hj, Bool.and_false, Bool.and_false]
theorem Wq_zero {n : Nat} {q : Nat → Nat → Bool} {x : Nat → Bool} (h : ∀ j, j < n → x j = false) : Wq n q x = false :=
  xrs_zero fun i _ => xrs_zero fun j hj => by rw [h j hj, Bool.and_false, Bool.and_false, Bool.and_false]
theorem Bq_xor (n : Nat) (p : Nat → Nat → Bool) (x y z : Nat → Bool) : Bq n p x (fun k => y k ^^ z k) = (Bq n p x y ^^ Bq n p x z) := by
  unfold Bq
  rw [← xrs_xor]
  refine xrs_congr fun i _ => ?_
  rw [← xrs_xor]
  refine xrs_congr fun j _ => ?_
  show (p i j && (x i && (y j ^^ z j))) = _
  cases p i j <;> cases x i <;> cases y j <;> cases z j <;> rfl
theorem Bq_and (n : Nat) (p : Nat → Nat → Bool) (x y : Nat → Bool) (c : Bool) : Bq n p x (fun k => y k && c) = (Bq n p x y && c) := by
  cases c with
  | true =>
    rw [Bool.and_true]
    exact Bq_congr (fun _ _ _ _ => rfl) (fun _ _ => rfl) fun i _ => Bool.and_true _
  | false =>
    rw [Bool.and_false]
    exact Bq_zero fun j _ => Bool.and_false _
theorem Pq_symm (q : Nat → Nat → Bool) (i j : Nat) : Pq q i j = Pq q j i := by
  unfold Pq
  rw [show decide (i = j) = decide (j = i) from decide_eq_decide.mpr ⟨Eq.symm, Eq.symm⟩, Bool.xor_comm]
theorem Bq_symm (n : Nat) {p : Nat → Nat → Bool} (h : ∀ i j, p i j = p j i) (x y : Nat → Bool) : Bq n p x y = Bq n p y x := by
  unfold Bq
  rw [xrs_swap]
  refine xrs_congr fun i _ => xrs_congr fun j _ => ?_
  rw [h j i]
  cases p i j <;> cases x j <;> cases y i <;> rfl
/-- B of a column and a partial sum of columns -/
theorem Bq_sum (n : Nat) (p t : Nat → Nat → Bool) (x y : Nat → Bool) : ∀ m, Bq n p y (fun k => xrs m fun j => t k j && x j) = xrs m fun j => Bq n p y (fun k => t k j) && x j
  | 0 => Bq_zero fun _ _ => rfl
  | m + 1 => by
    show Bq n p y (fun k => (xrs m fun j => t k j && x j) ^^ (t k m && x m)) = _
    rw [Bq_xor, Bq_sum n p t x y m, Bq_and]
    rfl
theorem W_sum {n : Nat} {q t : Nat → Nat → Bool} (U : Upp q) (x : Nat → Bool) : ∀ m, Wq n q (fun k => xrs m fun j => t k j && x j) = Wq m (byQ n q t) x
  | 0 => Wq_zero fun _ _ => rfl
  | m + 1 => by
    show Wq n q (fun k => (xrs m fun j => t k j && x j) ^^ (t k m && x m)) = _
    rw [polar U, W_sum U x m, Bq_symm n (Pq_symm q), Bq_sum]
    unfold Wq
    rw [xrs]
    have e1 : (xrs m fun i => xrs (m + 1) fun j => decide (i ≤ j) && (byQ n q t i j && (x i && x j))) = ((xrs m fun i => xrs m fun j => decide (i ≤ j) && (byQ n q t i j && (x i && x j))) ^^ xrs m fun j => Bq n (Pq q) (fun k => t k m && x m) (fun k => t k j) && x j) := by
      rw [← xrs_xor]
      refine xrs_congr fun i hi => ?_
      rw [xrs]
      congr 1
      rw [decide_eq_true (by omega), Bool.true_and]
      unfold byQ
      rw [if_neg (by omega), if_pos hi, Bq_symm n (Pq_symm q) (fun k => t k m && x m), Bq_and]
      cases x i <;> cases x m <;> cases Bq n (Pq q) (fun k => t k i) (fun k => t k m) <;> rfl
    have e2 : (xrs (m + 1) fun j => decide (m ≤ j) && (byQ n q t m j && (x m && x j))) = Wq n q (fun k => t k m && x m) := by
      rw [xrs, xrs_zero fun j hj => by rw [decide_eq_false (by omega), Bool.false_and], Bool.false_xor, decide_eq_true (Nat.le_refl m), Bool.true_and]
      unfold byQ
      rw [if_pos rfl]
      cases hx : x m with
      | true =>
        rw [Bool.and_self, Bool.and_true]
        exact Wq_congr (fun _ _ _ _ => rfl) fun i _ => (Bool.and_true _).symm
      | false =>
        rw [Bool.and_self, Bool.and_false]
        exact (Wq_zero fun j _ => Bool.and_false _).symm
    rw [e1, e2]
    show ((xrs m fun i => xrs m fun j => decide (i ≤ j) && (byQ n q t i j && (x i && x j))) ^^ Wq n q (fun k => t k m && x m) ^^ _) = _
    cases (xrs m fun i => xrs m fun j => decide (i ≤ j) && (byQ n q t i j && (x i && x j))) <;> cases Wq n q (fun k => t k m && x m) <;> cases (xrs m fun j => Bq n (Pq q) (fun k => t k m && x m) (fun k => t k j) && x j) <;> rfl
/-- worth stays along a turn -/
theorem W_led {n : Nat} {q t : Nat → Nat → Bool} (U : Upp q) (x : Nat → Bool) : Wq n q (led n t x) = Wq n (byQ n q t) x := W_sum U x n
def eq1 (i : Nat) : Nat → Bool := fun k => decide (k = i)
theorem xrs_eq1 {n i : Nat} (h : i < n) (f : Nat → Bool) : xrs n (fun k => eq1 i k && f k) = f i := xrs_delta h f
theorem Bq_eq1 {n i j : Nat} (hi : i < n) (hj : j < n) (p : Nat → Nat → Bool) : Bq n p (eq1 i) (eq1 j) = p i j := by
  unfold Bq
  rw [← xrs_eq1 hi fun k => p k j]
  refine xrs_congr fun a _ => ?_
  rw [← xrs_eq1 hj fun k => p a k, ← xrs_and]
  refine xrs_congr fun b _ => ?_
  cases p a b <;> cases eq1 i a <;> cases eq1 j b <;> rfl
theorem Wq_eq1 {n i : Nat} (hi : i < n) (q : Nat → Nat → Bool) : Wq n q (eq1 i) = q i i := by
  have := Bq_eq1 hi hi fun a b => decide (a ≤ b) && q a b
  rw [show (decide (i ≤ i) && q i i) = q i i by rw [decide_eq_true (Nat.le_refl i), Bool.true_and]] at this
  rw [← this]
  unfold Wq Bq
  refine xrs_congr fun a _ => xrs_congr fun b _ => ?_
  exact (Bool.and_assoc _ _ _).symm
theorem xor_cancel {a b c d e f : Bool} (h : ((a ^^ b) ^^ c) = ((d ^^ e) ^^ f)) (h1 : a = d) (h2 : b = e) : c = f := by
  subst h1 h2
  cases a <;> cases b <;> cases c <;> cases f <;> first | rfl | cases h
/-- q rows are known by their worths -/
theorem upp_ext {n : Nat} {q r : Nat → Nat → Bool} (U : Upp q) (V : Upp r) (h : ∀ x, Wq n q x = Wq n r x) {i j : Nat} (hi : i < n) (hj : j < n) : q i j = r i j := by
  rcases Nat.lt_trichotomy i j with l | l | l
  · have e := h (fun k => eq1 i k ^^ eq1 j k)
    rw [polar U, polar V, Bq_eq1 hi hj, Bq_eq1 hi hj] at e
    have := xor_cancel e (h _) (h _)
    unfold Pq at this
    rw [U j i l, V j i l, decide_eq_false (by omega)] at this
    simpa using this
  · subst l
    have := h (eq1 i)
    rwa [Wq_eq1 hi, Wq_eq1 hi] at this
  · rw [U i j l, V i j l]
theorem led_led (n : Nat) (t u : Nat → Nat → Bool) (x : Nat → Bool) (i : Nat) : led n t (led n u x) i = led n (fun a b => xrs n fun k => t a k && u k b) x i := by
  unfold led
  have e1 : (xrs n fun j => t i j && xrs n fun k => u j k && x k) = xrs n fun j => xrs n fun k => t i j && (u j k && x k) := xrs_congr fun j _ => (xrs_and _ _ n).symm
  have e2 : (xrs n fun k => (xrs n fun j => t i j && u j k) && x k) = xrs n fun k => xrs n fun j => t i j && (u j k && x k) := xrs_congr fun k _ => by
    rw [Bool.and_comm, ← xrs_and]
    refine xrs_congr fun j _ => ?_
    cases t i j <;> cases u j k <;> cases x k <;> rfl
  rw [e1, e2, xrs_swap]
/-- two turns one behind another -/
theorem byQ_two {n : Nat} {q t u : Nat → Nat → Bool} (U : Upp q) {i j : Nat} (hi : i < n) (hj : j < n) : byQ n (byQ n q t) u i j = byQ n q (fun a b => xrs n fun k => t a k && u k b) i j := by
  refine upp_ext (byQ_upp _ _ _) (byQ_upp _ _ _) (fun x => ?_) hi hj
  rw [← W_led (byQ_upp n q t), ← W_led U, ← W_led U]
  exact Wq_congr (fun _ _ _ _ => rfl) fun a _ => led_led n t u x a
theorem led_unit {n : Nat} (x : Nat → Bool) {i : Nat} (hi : i < n) : led n (fun a b => decide (b = a)) x i = x i := xrs_delta hi x
theorem byQ_unit {n : Nat} {q : Nat → Nat → Bool} (U : Upp q) {i j : Nat} (hi : i < n) (hj : j < n) : byQ n q (fun a b => decide (b = a)) i j = q i j := by
  refine upp_ext (byQ_upp _ _ _) U (fun x => ?_) hi hj
  rw [← W_led U]
  exact Wq_congr (fun _ _ _ _ => rfl) fun a ha => led_unit x ha
/-! q rows: marks. -/
/-- a line of bits -/
def lnF (n : Nat) (x : Nat → Bool) : Ln := (List.range n).map x
theorem lnF_len (n : Nat) (x : Nat → Bool) : (lnF n x).length = n := by rw [lnF, List.length_map, List.length_range]
theorem bf_lnF {n i : Nat} (h : i < n) (x : Nat → Bool) : bf (lnF n x) i = x i := by
  unfold bf bit lnF
  rw [List.getD_eq_getElem?_getD, List.getElem?_map, List.getElem?_range h]
  rfl
theorem lnF_bf {n : Nat} {l : Ln} (h : l.length = n) : lnF n (bf l) = l := by
  apply List.ext_getElem?
  intro i
  by_cases hi : i < n
  · show ((List.range n).map (bf l))[i]? = l[i]?
    rw [List.getElem?_map, List.getElem?_range hi]
    show some (l.getD i false) = l[i]?
    rw [List.getD_eq_getElem?_getD, List.getElem?_eq_getElem (by rw [h]; exact hi)]
    rfl
  · rw [List.getElem?_eq_none (by rw [lnF_len]; omega), List.getElem?_eq_none (by rw [h]; omega)]
theorem bf_ext {n : Nat} {a b : Ln} (ha : a.length = n) (hb : b.length = n) (h : ∀ i, i < n → bf a i = bf b i) : a = b := by
  rw [← lnF_bf ha, ← lnF_bf hb]
  unfold lnF
  exact List.map_congr_left fun i hi => h i (List.mem_range.mp hi)
theorem bf_xorL {n : Nat} {a b : Ln} (ha : a.length = n) (hb : b.length = n) (i : Nat) : bf (xorL a b) i = (bf a i ^^ bf b i) := bit_xor (ha.trans hb.symm) i
/-- the product of two lines -/
theorem dot_xrs : ∀ (n : Nat) (x y : Nat → Bool), dotL (lnF n x) (lnF n y) = xrs n fun i => x i && y i := by
  intro n
  induction n with
  | zero => intro x y; rfl
  | succ n ih =>
    intro x y
    have key : ∀ (a b : Ln) (u v : Bool), a.length = b.length → dotL (a ++ [u]) (b ++ [v]) = (dotL a b ^^ (u && v)) := by
      intro a
      induction a with
      | nil =>
        intro b u v hl
        cases b with
        | nil => simp [dotL]
        | cons _ _ => simp at hl
      | cons w a iha =>
        intro b u v hl
        cases b with
        | nil => simp at hl
        | cons z b =>
          simp only [List.cons_append, dotL]
          rw [iha b u v (by simpa using hl)]
          cases w <;> cases z <;> cases dotL a b <;> cases u <;> cases v <;> rfl
    unfold lnF at ih ⊢
    rw [List.range_succ, List.map_append, List.map_append, List.map_singleton, List.map_singleton, key _ _ _ _ (by simp), ih]
    rfl
/-! ### a step of elimination -/
def clr (row : Ln) (h : Nat) (other : Ln) : Ln := if bit other h then xorL other row else other
theorem clr_len {n : Nat} {row other : Ln} {h : Nat} (hr : row.length = n) (ho : other.length = n) : (clr row h other).length = n := by
  unfold clr
  split
  · rw [xorL_len, ho, hr, Nat.min_self]
  · exact ho
theorem clr_bit {n : Nat} {row other : Ln} {h : Nat} (hr : row.length = n) (ho : other.length = n) (hb : bit row h = true) : bit (clr row h other) h = false := by
  unfold clr
  cases q : bit other h with
  | true => rw [if_pos rfl, bit_xor (ho.trans hr.symm), q, hb]; rfl
  | false => rw [if_neg (by simp)]; exact q
theorem same_len {n : Nat} {A B : List Ln} (h : Same n A B) : (spanL n A).length = (spanL n B).length := by
  have := congrArg List.length h.words
  unfold wordsL at this
  rwa [len_sortL, len_sortL] at this
theorem clear_len {n : Nat} {left : List Ln} {row : Ln} {h : Nat} (hl : ∀ r ∈ left, r.length = n) (hr : row.length = n) (hb : bit row h = true) : (spanL n (left ++ [row])).length = 2 * (spanL n (left.map (clr row h))).length := by
  have hl2 : ∀ r ∈ left.map (clr row h), r.length = n := fun r hr' => by
    obtain ⟨o, ho, rfl⟩ := List.mem_map.mp hr'
    exact clr_len hr (hl o ho)
  have la : ∀ r ∈ left ++ [row], r.length = n := fun r hr' => by
    rcases List.mem_append.mp hr' with q | q
    · exact hl r q
    · simp at q; rw [q]; exact hr
  have lb : ∀ r ∈ left.map (clr row h) ++ [row], r.length = n := fun r hr' => by
    rcases List.mem_append.mp hr' with q | q
    · exact hl2 r q
    · simp at q; rw [q]; exact hr
  have S1 := shut_span la
  have S2 := shut_span lb
  have m1 : ∀ r ∈ left ++ [row], r ∈ spanL n (left ++ [row]) := fun r q => row_mem_span la q
  have m2 : ∀ r ∈ left.map (clr row h) ++ [row], r ∈ spanL n (left.map (clr row h) ++ [row]) := fun r q => row_mem_span lb q
  have same : Same n (left ++ [row]) (left.map (clr row h) ++ [row]) := by
    refine ⟨la, lb, fun r q => ?_, fun r q => ?_⟩
    · rcases List.mem_append.mp q with q | q
      · have c := m2 (clr row h r) (List.mem_append_left _ (List.mem_map.mpr ⟨r, q, rfl⟩))
        have rr := m2 row (by simp)
        unfold clr at c
        split at c
        · have := S2.sum _ c _ rr
          rwa [xorL_xorL ((hl r q).trans hr.symm)] at this
        · exact c
      · simp at q; rw [q]; exact m2 row (by simp)
    · rcases List.mem_append.mp q with q | q
      · obtain ⟨o, ho, rfl⟩ := List.mem_map.mp q
        unfold clr
        split
        · exact S1.sum _ (m1 o (List.mem_append_left _ ho)) _ (m1 row (by simp))
        · exact m1 o (List.mem_append_left _ ho)
      · simp at q; rw [q]; exact m1 row (by simp)
  rw [same_len same, span_snoc, len_addRow_new (shut_span hl2) (nodup_span n _) hr]
  intro hm
  have := bit_span hl2 (p := h) (fun r q => by
    obtain ⟨o, ho, rfl⟩ := List.mem_map.mp q
    exact clr_bit hr (hl o ho) hb) hm
  rw [hb] at this
  cases this
/-- a row of 0 alone adds nothing -/
theorem zero_len {n : Nat} {left : List Ln} (hl : ∀ r ∈ left, r.length = n) : (spanL n (left ++ [zeroL n])).length = (spanL n left).length := by
  rw [span_snoc, len_addRow_zero (shut_span hl)]
/-! ### how many lines are led to 0 -/
/-- the rows of a square of bits -/
def rowsF (n : Nat) (p : Nat → Nat → Bool) : List Ln := (List.range n).map fun i => lnF n (p i)
theorem rowsF_len (n : Nat) (p : Nat → Nat → Bool) : ∀ r ∈ rowsF n p, r.length = n := fun r hr => by
  obtain ⟨i, _, rfl⟩ := List.mem_map.mp hr
  exact lnF_len n _
theorem led_zero {n : Nat} {p : Nat → Nat → Bool} {x : Ln} : x ∈ othersL n (rowsF n p) ↔ x.length = n ∧ ∀ i, i < n → led n p (bf x) i = false := by
  rw [mem_others]
  refine and_congr_right fun hl => ?_
  have key : ∀ i, dotL x (lnF n (p i)) = led n p (bf x) i := fun i => by
    rw [dotL_comm, ← lnF_bf hl, dot_xrs, lnF_bf hl]
    rfl
  constructor
  · intro h i hi
    rw [← key]
    exact h _ (List.mem_map.mpr ⟨i, List.mem_range.mpr hi, rfl⟩)
  · rintro h r hr
    obtain ⟨i, hi, rfl⟩ := List.mem_map.mp hr
    rw [key]
    exact h i (List.mem_range.mp hi)
theorem rank_nul {n k : Nat} {p : Nat → Nat → Bool} (h : (spanL n (rowsF n p)).length = 2 ^ k) : 2 ^ k * (othersL n (rowsF n p)).length = 2 ^ n := by
  have S := shut_words (rowsF_len n p)
  have e := card_others S (asc_nodup (asc_words n (rowsF n p)))
  rw [others_words (rowsF_len n p)] at e
  unfold wordsL at e
  rwa [len_sortL, h] at e
/-! ### a turn of full rank -/
def turnL (n : Nat) (t : Nat → Nat → Bool) (l : Ln) : Ln := lnF n (led n t (bf l))
theorem turn_inj {n : Nat} {t : Nat → Nat → Bool} (h : (spanL n (rowsF n t)).length = 2 ^ n) {a b : Ln} (ha : a.length = n) (hb : b.length = n) (e : turnL n t a = turnL n t b) : a = b := by
  have e1 := rank_nul h
  have e2 : (othersL n (rowsF n t)).length = 1 := by
    have := Nat.two_pow_pos n
    exact Nat.eq_of_mul_eq_mul_left this (by rw [e1, Nat.mul_one])
  have z1 : zeroL n ∈ othersL n (rowsF n t) := shut_others.zero
  have z2 : xorL a b ∈ othersL n (rowsF n t) := led_zero.mpr ⟨by rw [xorL_len, ha, hb, Nat.min_self], fun i hi => by
    have q : bf (turnL n t a) i = bf (turnL n t b) i := by rw [e]
    unfold turnL at q
    rw [bf_lnF hi, bf_lnF hi] at q
    have s : led n t (bf (xorL a b)) i = (led n t (bf a) i ^^ led n t (bf b) i) := by
      unfold led
      rw [← xrs_xor]
      refine xrs_congr fun j _ => ?_
      rw [bf_xorL ha hb]
      cases t i j <;> cases bf a j <;> cases bf b j <;> rfl
    rw [s, q, Bool.xor_self]⟩
  have e3 : xorL a b = zeroL n := by
    match hW : othersL n (rowsF n t), e2 with
    | [w], _ =>
      rw [hW] at z1 z2
      simp at z1 z2
      rw [z2, z1]
  have this : xorL (xorL a b) b = xorL (zeroL n) b := congrArg (fun l => xorL l b) e3
  rwa [xorL_xorL (ha.trans hb.symm), zero_xorL hb] at this
theorem turn_perm {n : Nat} {t : Nat → Nat → Bool} (h : (spanL n (rowsF n t)).length = 2 ^ n) : ((linesL n).map (turnL n t)).Perm (linesL n) := by
  have nl := asc_nodup (asc_lines n)
  have nd : ((linesL n).map (turnL n t)).Nodup := by
    refine List.pairwise_map.mpr (List.Pairwise.imp_of_mem ?_ nl)
    intro a b ha hb hab e
    exact hab (turn_inj h (mem_lines.mp ha) (mem_lines.mp hb) e)
  have sub : ∀ x ∈ (linesL n).map (turnL n t), x ∈ linesL n := fun x hx => by
    obtain ⟨l, _, rfl⟩ := List.mem_map.mp hx
    exact mem_lines.mpr (lnF_len n _)
  refine (List.perm_ext_iff_of_nodup nd nl).mpr fun x => ⟨sub x, fun hx => ?_⟩
  refine Classical.byContradiction fun no => ?_
  have h1 : (x :: (linesL n).map (turnL n t)).Nodup := List.nodup_cons.mpr ⟨no, nd⟩
  have h2 := h1.length_le_of_subset (l₂ := linesL n) fun y hy => by
    rcases List.mem_cons.mp hy with rfl | hy
    · exact hx
    · exact sub y hy
  rw [List.length_cons, List.length_map] at h2
  omega
/-! ### the marks stay -/
theorem bf_turn {n i : Nat} (hi : i < n) (t : Nat → Nat → Bool) (l : Ln) : bf (turnL n t l) i = led n t (bf l) i := bf_lnF hi _
theorem zeros_stay {n : Nat} {q t : Nat → Nat → Bool} (U : Upp q) (h : (spanL n (rowsF n t)).length = 2 ^ n) : (linesL n).countP (fun l => !Wq n (byQ n q t) (bf l)) = (linesL n).countP (fun l => !Wq n q (bf l)) := by
  rw [← (turn_perm h).countP_eq (fun l => !Wq n q (bf l)), List.countP_map]
  refine List.countP_congr fun l hl => ?_
  rw [Function.comp, ← W_led U, Wq_congr (q := q) (r := q) (x := led n t (bf l)) (y := bf (turnL n t l)) (fun _ _ _ _ => rfl) fun i hi => (bf_turn hi t l).symm]
theorem Pq_byQ {n : Nat} {q t : Nat → Nat → Bool} (U : Upp q) (x y : Nat → Bool) : Bq n (Pq (byQ n q t)) x y = Bq n (Pq q) (led n t x) (led n t y) := by
  have e1 := polar (n := n) (byQ_upp n q t) x y
  have e2 := polar (n := n) U (led n t x) (led n t y)
  have e3 : Wq n (byQ n q t) (fun i => x i ^^ y i) = Wq n q (fun i => led n t x i ^^ led n t y i) := by
    rw [← W_led U]
    refine Wq_congr (fun _ _ _ _ => rfl) fun i _ => ?_
    unfold led
    rw [← xrs_xor]
    refine xrs_congr fun j _ => ?_
    show (t i j && (x j ^^ y j)) = _
    cases t i j <;> cases x j <;> cases y j <;> rfl
  rw [e3, e2] at e1
  exact (xor_cancel e1 (W_led U x) (W_led U y)).symm
/-- a line led to 0 by a square is one without product with any -/
theorem nul_iff {n : Nat} {p : Nat → Nat → Bool} {x : Ln} (hx : x.length = n) : x ∈ othersL n (rowsF n p) ↔ ∀ y : Ln, y.length = n → Bq n p (bf y) (bf x) = false := by
  rw [led_zero]
  constructor
  · rintro ⟨_, h⟩ y _
    unfold Bq
    refine xrs_zero fun i hi => ?_
    have e : (xrs n fun j => p i j && (bf y i && bf x j)) = (bf y i && led n p (bf x) i) := by
      unfold led
      rw [← xrs_and]
      refine xrs_congr fun j _ => ?_
      cases p i j <;> cases bf y i <;> cases bf x j <;> rfl
    rw [e, h i hi, Bool.and_false]
  · intro h
    refine ⟨hx, fun i hi => ?_⟩
    have e := h (lnF n (eq1 i)) (lnF_len n _)
    rw [Bq_congr (r := p) (x' := eq1 i) (y' := bf x) (fun _ _ _ _ => rfl) (fun a ha => bf_lnF ha _) fun _ _ => rfl] at e
    have e2 : Bq n p (eq1 i) (bf x) = led n p (bf x) i := by
      unfold Bq
      rw [← xrs_eq1 hi (led n p (bf x))]
      refine xrs_congr fun a _ => ?_
      unfold led
      rw [← xrs_and]
      refine xrs_congr fun j _ => ?_
      cases p a j <;> cases eq1 i a <;> cases bf x j <;> rfl
    rw [← e2, e]
theorem nul_stay {n : Nat} {q t : Nat → Nat → Bool} (U : Upp q) (h : (spanL n (rowsF n t)).length = 2 ^ n) : (othersL n (rowsF n (Pq (byQ n q t)))).length = (othersL n (rowsF n (Pq q))).length := by
  have mem : ∀ l, l ∈ linesL n → (l ∈ othersL n (rowsF n (Pq (byQ n q t))) ↔ turnL n t l ∈ othersL n (rowsF n (Pq q))) := fun l hl => by
    have hl := mem_lines.mp hl
    rw [nul_iff hl, nul_iff (x := turnL n t l) (lnF_len n _)]
    have sw : ∀ y : Ln, Bq n (Pq (byQ n q t)) (bf y) (bf l) = Bq n (Pq q) (bf (turnL n t y)) (bf (turnL n t l)) := fun y => by
      rw [Pq_byQ U]
      exact Bq_congr (fun _ _ _ _ => rfl) (fun i hi => (bf_turn hi t y).symm) fun i hi => (bf_turn hi t l).symm
    constructor
    · intro k y hy
      have : y ∈ (linesL n).map (turnL n t) := (turn_perm h).mem_iff.mpr (mem_lines.mpr hy)
      obtain ⟨z, hz, rfl⟩ := List.mem_map.mp this
      rw [← sw]
      exact k z (mem_lines.mp hz)
    · intro k y hy
      rw [sw]
      exact k _ (lnF_len n _)
  have cnt : ∀ W : List Ln, (∀ x ∈ W, x ∈ linesL n) → W.Nodup → W.length = (linesL n).countP (fun l => decide (l ∈ W)) := fun W hW nd => by
    rw [List.countP_eq_length_filter]
    refine ((List.perm_ext_iff_of_nodup nd ((asc_nodup (asc_lines n)).filter _)).mpr fun x => ?_).length_eq
    rw [List.mem_filter, decide_eq_true_eq]
    exact ⟨fun hx => ⟨hW x hx, hx⟩, fun hx => hx.2⟩
  have sub : ∀ p, ∀ x ∈ othersL n (rowsF n p), x ∈ linesL n := fun p x hx => mem_lines.mpr (mem_others.mp hx).1
  rw [cnt _ (sub _) (asc_nodup (asc_others _ _)), cnt _ (sub _) (asc_nodup (asc_others _ _)), ← (turn_perm h).countP_eq (fun l => decide (l ∈ othersL n (rowsF n (Pq q)))), List.countP_map]
  refine List.countP_congr fun l hl => ?_
  rw [Function.comp, decide_eq_true_eq, decide_eq_true_eq]
  exact mem l hl
/-! what repr shows: sizes. -/
open PySem Pev
structure ROk (k n : Nat) (d : PD) : Prop where
  sh : shal n d = true
  ok : PyData.showable d = true
  nd : PyData.hasDict d = false
  len : (PyData.shown d).length ≤ k
theorem shownAll_map : ∀ xs : List PD, PyData.shownAll xs = xs.map PyData.shown
  | [] => by simp only [PyData.shownAll, List.map_nil]
  | x :: xs => by simp only [PyData.shownAll, List.map_cons, shownAll_map xs]
theorem showableAll_of : ∀ {xs : List PD}, (∀ x ∈ xs, PyData.showable x = true) → PyData.showableAll xs = true
  | [], _ => by simp only [PyData.showableAll]
  | x :: xs, h => by
    simp only [PyData.showableAll, h x (.head _), showableAll_of fun y hy => h y (.tail _ hy), Bool.and_self]
theorem hasDictAll_of : ∀ {xs : List PD}, (∀ x ∈ xs, PyData.hasDict x = false) → PyData.hasDictAll xs = false
  | [], _ => by simp only [PyData.hasDictAll]
  | x :: xs, h => by
    simp only [PyData.hasDictAll, h x (.head _), hasDictAll_of fun y hy => h y (.tail _ hy), Bool.or_self]
theorem piled_le {k : Nat} : ∀ {xs : List PD}, (∀ x ∈ xs, (PyData.shown x).length ≤ k) → piled (xs.map PyData.shown) ≤ xs.length * (k + 2)
  | [], _ => by simp [piled]
  | x :: xs, h => by
    rw [List.map_cons, piled_cons, List.length_cons, Nat.add_mul, Nat.one_mul]
    have h1 := h x (.head _)
    have h2 := piled_le (k := k) (xs := xs) fun y hy => h y (.tail _ hy)
    omega
theorem listText_le (ts : List Str) : (listText ts).length ≤ piled ts + 3 := by
  unfold listText
  rw [strLen_append]
  cases ts with
  | nil => show 1 + 1 ≤ _; omega
  | cons t ts =>
    show (textFrom 1 _ ts).length + 1 ≤ _
    rw [textFrom_length_pos _ _ _ (by omega), strLen_append, strLen_append, piled_cons]
    have : (("[" : Str).length) = 1 := rfl
    have : ((if (0 : Nat) > 0 then ", " else "" : String) : Str).length = 0 := rfl
    omega
theorem tupleText_le (ts : List Str) : (tupleText ts).length ≤ piled ts + 3 := by
  unfold tupleText
  rw [strLen_append, strLen_append]
  have e1 : (("(" : Str).length) = 1 := rfl
  have e2 : ((if ts.length == 1 then ",)" else ")" : String) : Str).length ≤ 2 := by
    split
    · exact Nat.le_refl 2
    · exact Nat.le_succ 1
  cases ts with
  | nil =>
    have : (Str.join ", " []).length = 0 := rfl
    have : piled [] = 0 := rfl
    omega
  | cons t ts =>
    have := join_length_add (t :: ts) (by simp)
    omega
theorem ROk.list {k n m : Nat} {xs : List PD} (h : ∀ x ∈ xs, ROk k n x) (hm : xs.length ≤ m) : ROk (m * (k + 2) + 3) (n + 1) (.list xs) where
  sh := by rw [shal, List.all_eq_true]; exact fun x hx => (h x hx).sh
  ok := by rw [PyData.showable]; exact showableAll_of fun x hx => (h x hx).ok
  nd := by rw [PyData.hasDict]; exact hasDictAll_of fun x hx => (h x hx).nd
  len := by
    rw [PyData.shown, shownAll_map]
    have h1 := listText_le (xs.map PyData.shown)
    have h2 := piled_le fun x hx => (h x hx).len
    have h3 := Nat.mul_le_mul_right (k + 2) hm
    omega
theorem ROk.tup {k n m : Nat} {xs : List PD} (h : ∀ x ∈ xs, ROk k n x) (hm : xs.length ≤ m) : ROk (m * (k + 2) + 3) (n + 1) (.tuple xs) where
  sh := by rw [shal, List.all_eq_true]; exact fun x hx => (h x hx).sh
  ok := by rw [PyData.showable]; exact showableAll_of fun x hx => (h x hx).ok
  nd := by rw [PyData.hasDict]; exact hasDictAll_of fun x hx => (h x hx).nd
  len := by
    rw [PyData.shown, shownAll_map]
    have h1 := tupleText_le (xs.map PyData.shown)
    have h2 := piled_le fun x hx => (h x hx).len
    have h3 := Nat.mul_le_mul_right (k + 2) hm
    omega
theorem shal_up : ∀ {n m : Nat} (d : PD), n ≤ m → shal n d = true → shal m d = true
  | n, m, .none, _, _ => by cases m <;> rfl
  | n, m, .bool _, _, _ => by cases m <;> rfl
  | n, m, .int _, _, _ => by cases m <;> rfl
  | n, m, .str _, _, _ => by cases m <;> rfl
  | 0, m, .list _, _, h => by simp [shal] at h
  | 0, m, .tuple _, _, h => by simp [shal] at h
  | 0, m, .dict _, _, h => by simp [shal] at h
  | n + 1, m, .dict _, _, h => by simp [shal] at h
  | n + 1, m, .list xs, hm, h => by
    obtain ⟨m, rfl⟩ : ∃ k, m = k + 1 := ⟨m - 1, by omega⟩
    rw [shal, List.all_eq_true] at h ⊢
    exact fun x hx => shal_up x (by omega) (h x hx)
  | n + 1, m, .tuple xs, hm, h => by
    obtain ⟨m, rfl⟩ : ∃ k, m = k + 1 := ⟨m - 1, by omega⟩
    rw [shal, List.all_eq_true] at h ⊢
    exact fun x hx => shal_up x (by omega) (h x hx)
theorem ROk.le {k n j m : Nat} {d : PD} (h : ROk k n d) (h1 : k ≤ j) (h2 : n ≤ m) : ROk j m d := ⟨shal_up d h2 h.sh, h.ok, h.nd, Nat.le_trans h.len h1⟩
theorem ROk.bit (b : Bool) : ROk 1 0 (bP b) := by
  cases b
  · exact ⟨rfl, by decide, by simp only [PyData.hasDict], by rw [PyData.shown]; decide⟩
  · exact ⟨rfl, by decide, by simp only [PyData.hasDict], by rw [PyData.shown]; decide⟩
def isSeqD (d : PD) : Bool := match d with | .list _ => true | .tuple _ => true | _ => false
theorem repr_ok {k n : Nat} {d : PD} (h : ROk k n d) (hk : k ≤ 16777216) (hn : n ≤ 40) (hs : isSeqD d = true) : bltop .repr [d] = some (.str (PyData.shown d), false) := by
  have h40 := shal_up (m := 40) d hn h.sh
  obtain ⟨p1, p2⟩ := shal_plain 40 d h40
  show (if reprOk d then _ else _) = _
  rw [if_pos]
  show (isSeqD d && PyData.plain d && PyData.showable d && !PyData.hasDict d && decide (PyData.depth d ≤ 40) && decide ((PyData.shown d).length ≤ sizeLine)) = true
  rw [hs, p1, h.ok, h.nd, decide_eq_true (show PyData.depth d ≤ 40 from p2), decide_eq_true (show (PyData.shown d).length ≤ sizeLine from Nat.le_trans h.len hk)]
  rfl
theorem eq_str (x : Str) : eqop (.str x) (.str x) = some true := by
  rw [eq_ok rfl rfl, PyData.eqv]
  simp
/-! PevFn: data told by functions over range. -/
open PySem Pev
section
variable {N : En} {elt : IE} {ifs : IT} {tg : Tgt} {own : List Nat} {s : S} {L : Out (List PD)}
theorem lc_gen {α : Type} {enc g : α → PD} {xs : List α} (hL : lcL N elt ifs tg own (xs.map enc) [] s = L) (h : ∀ x, x ∈ xs → lcS N elt ifs tg own (enc x) s = .ok (some (g x)) s) : L = .ok (xs.map g) s := hL ▸ lc_mp0 g h
theorem lc_rng {enc g : Nat → PD} {m : Nat} (hL : lcL N elt ifs tg own ((List.range m).map enc) [] s = L) (h : ∀ i, i < m → lcS N elt ifs tg own (enc i) s = .ok (some (g i)) s) : L = .ok ((List.range m).map g) s := lc_gen hL fun i hi => h i (List.mem_range.mp hi)
/-- .. the state moves within I -/
theorem lc_toI {α : Type} {enc : α → PD} {xs : List α} (hL : lcL N elt ifs tg own (xs.map enc) [] s = L) (I : S → Prop) (g : α → PD) (h0 : I s) (h : ∀ x, x ∈ xs → ∀ s, I s → ∃ s', lcS N elt ifs tg own (enc x) s = .ok (some (g x)) s' ∧ I s') : ∃ s', L = .ok (xs.map g) s' ∧ I s' := by
  have key : ∀ (xs : List α) (acc : List PD) (s : S), I s → (∀ x, x ∈ xs → ∀ s, I s → ∃ s', lcS N elt ifs tg own (enc x) s = .ok (some (g x)) s' ∧ I s') → ∃ s', lcL N elt ifs tg own (xs.map enc) acc s = .ok (acc ++ xs.map g) s' ∧ I s' := by
    intro xs
    induction xs with
    | nil => intro acc s h0 _; exact ⟨s, by simp [lcL, lcLoop], h0⟩
    | cons x xs ih =>
      intro acc s h0 h
      obtain ⟨s1, e1, i1⟩ := h x (.head _) s h0
      obtain ⟨s2, e2, i2⟩ := ih (acc ++ [g x]) s1 i1 fun y hy => h y (.tail _ hy)
      refine ⟨s2, ?_, i2⟩
      rw [List.map_cons, lcL_cons, e1]
      show lcL N elt ifs tg own (xs.map enc) (acc ++ [g x]) s1 = _
      rw [e2, List.map_cons, List.append_assoc]
      rfl
  obtain ⟨s', e, i⟩ := key xs [] s h0 h
  exact ⟨s', hL ▸ e, i⟩
/-- .. those that pass -/
theorem lc_cnd {α : Type} {enc g : α → PD} {xs : List α} (hL : lcL N elt ifs tg own (xs.map enc) [] s = L) (c : α → Bool) (h : ∀ x, x ∈ xs → c x = true → lcS N elt ifs tg own (enc x) s = .ok (some (g x)) s) (k : ∀ x, x ∈ xs → c x = false → lcS N elt ifs tg own (enc x) s = .ok none s) : L = .ok ((xs.filter c).map g) s := by
  have := lc_fi (N := N) (elt := elt) (ifs := ifs) (tg := tg) (own := own) (s := s) (enc := enc) c g id (xs := xs) fun x hx => by
    cases hc : c x with
    | true => rw [if_pos rfl]; exact h x hx hc
    | false => rw [if_neg (by simp)]; exact k x hx hc
  rw [List.map_id] at this
  exact hL ▸ this
theorem lc_cndr {enc g : Nat → PD} {m : Nat} (hL : lcL N elt ifs tg own ((List.range m).map enc) [] s = L) (c : Nat → Bool) (h : ∀ i, i < m → c i = true → lcS N elt ifs tg own (enc i) s = .ok (some (g i)) s) (k : ∀ i, i < m → c i = false → lcS N elt ifs tg own (enc i) s = .ok none s) : L = .ok (((List.range m).filter c).map g) s :=
  lc_cnd hL c (fun i hi => h i (List.mem_range.mp hi)) fun i hi => k i (List.mem_range.mp hi)
theorem fl_rng {F : SOut} {b : IB} {enc : Nat → PD} {m : Nat} (hF : fl N b tg ((List.range m).map enc) s = F) (I : Nat → S → Prop) (h0 : I 0 s) (h : ∀ i, i < m → ∀ s, I i s → ∃ s', fstep N b tg (enc i) s = .nxt s' ∧ I (i + 1) s') : ∃ s', F = .nxt s' ∧ I m s' := by
  have key : ∀ k, k ≤ m → ∀ s, I (m - k) s → ∃ s', fl N b tg (((List.range m).drop (m - k)).map enc) s = .nxt s' ∧ I m s' := by
    intro k
    induction k with
    | zero =>
      intro _ s hs
      exact ⟨s, by rw [List.drop_of_length_le (by simp)]; rfl, hs⟩
    | succ k ih =>
      intro hk s hs
      have hlt : m - (k + 1) < m := by omega
      obtain ⟨s1, e1, i1⟩ := h _ hlt s hs
      rw [show m - (k + 1) + 1 = m - k by omega] at i1
      obtain ⟨s2, e2, i2⟩ := ih (by omega) s1 i1
      refine ⟨s2, ?_, i2⟩
      rw [List.drop_eq_getElem_cons (by simpa using hlt), List.map_cons, fl_cons, List.getElem_range, e1]
      rw [show m - (k + 1) + 1 = m - k by omega]
      exact e2
  have := key m (Nat.le_refl _) s (by rw [Nat.sub_self]; exact h0)
  rw [Nat.sub_self, List.drop_zero] at this
  exact hF ▸ this
end
theorem atr {f : Nat → PD} {m i : Nat} (h : i < m) : sub1 ((List.range m).map f) (ixAt ((List.range m).map f) (i : Int)) = some (f i) := by
  rw [ix_nat (by simpa using h), q_sub1, List.getElem?_map, List.getElem?_range h]
  rfl
theorem atr0 {f : Nat → PD} {m : Nat} (h : 0 < m) : sub1 ((List.range m).map f) (ixAt ((List.range m).map f) 0) = some (f 0) := atr (i := 0) h
/-- a sum -/
def sumN : Nat → (Nat → Int) → Int
  | 0, _ => 0
  | n + 1, f => sumN n f + f n
theorem sumN_eq (f : Nat → Int) : ∀ n, ((List.range n).map f).sum = sumN n f
  | 0 => rfl
  | n + 1 => by rw [List.range_succ, List.map_append, List.sum_append, sumN_eq f n, sumN]; simp
theorem sum_rl (g : Nat → Int) (m : Nat) : bltop .sum [.list ((List.range m).map fun i => .int (g i))] = some (.int (sumN m g), false) := by
  rw [suml_map, sumN_eq]
theorem sum_rt (g : Nat → Int) (m : Nat) : bltop .sum [.tuple ((List.range m).map fun i => .int (g i))] = some (.int (sumN m g), false) := by
  rw [sumt_map, sumN_eq]
theorem zip_rng {α : Type} (f g : α → PD) : ∀ xs : List α, zipD (xs.map f) (xs.map g) = xs.map fun x => .tuple [f x, g x]
  | [] => rfl
  | x :: xs => by rw [List.map_cons, List.map_cons, zipD, zip_rng f g xs, List.map_cons]
theorem enum_rng (f : Nat → PD) (m : Nat) : enumD 0 ((List.range m).map f) = (List.range m).map fun i => .tuple [.int (i : Int), f i] := by
  rw [enum_map f]
  apply List.ext_getElem
  · simp
  · intro i h1 h2
    simp at h1
    simp
/-- lines, squares of whole numbers -/
abbrev iL (m : Nat) (f : Nat → Int) : PD := .tuple ((List.range m).map fun i => .int (f i))
abbrev iM (m w : Nat) (f : Nat → Nat → Int) : PD := .tuple ((List.range m).map fun i => .tuple ((List.range w).map fun j => .int (f i j)))
theorem len_r (f : Nat → PD) (m : Nat) : ((List.range m).map f).length = m := by rw [List.length_map, List.length_range]
theorem rng_n (n : Nat) : rngD 0 n = (List.range n).map fun (i : Nat) => .int (i : Int) := by
  rw [rng_map]
  refine List.map_congr_left fun i _ => ?_
  rw [Int.zero_add]
theorem bI_lo (b : Bool) : (-18446744073709551616 < bI b) = True := by cases b <;> simp [bI]
theorem bI_hi (b : Bool) : (bI b < 18446744073709551616) = True := by cases b <;> simp [bI]
theorem bI_mul (a b : Bool) : bI a * bI b = bI (a && b) := by cases a <;> cases b <;> rfl
theorem bI_add2 (a b : Bool) : (bI a + bI b) % 2 = bI (a ^^ b) := by cases a <;> cases b <;> rfl
theorem bI_mod (a : Bool) : bI a % 2 = bI a := by cases a <;> rfl
theorem bI_eq (a b : Bool) : decide (bI a = bI b) = decide (a = b) := by cases a <;> cases b <;> rfl
theorem bI_0 (a : Bool) : decide (bI a = 0) = !a := by cases a <;> rfl
theorem bI_1 (a : Bool) : decide (bI a = 1) = a := by cases a <;> rfl
theorem eqv_intf (a b : Int) : PyData.eqv (.int a) (.int b) = decide (a = b) := eqv_int a b
open PySem Pev
local macro_rules | `(tactic| push_cast [$as,*] $[$l]?) => `(tactic| simp only [q_gs0, q_gsS, q_ss0, q_ssS, q_opKo, q_opKv, q_xo_var, q_lkKv, q_lkKo, q_xe_var, q_slDo, q_slDv, q_rvs, q_rvd, q_rvh, q_toK, q_toKx, q_outD, q_outD0, q_outB, q_ofFO, q_ofFOx, q_xe_cst, q_xo_cst, q_xe_fn, q_xo_fn, q_bin1, q_bin1x, q_bin2, q_bin2x, q_bin3, q_fBin, q_fCmp, q_fSub, q_fBlt, q_xe_bin, q_xe_cmp, q_xe_sub, q_una, q_unax, q_una2, q_negD, q_fNeg, q_fRev, q_fBl1, q_xe_neg, q_xe_rev, q_xe_blt1, q_xe_blt2, q_xe_chn, q_chn1, q_chn2, q_chn3l, q_chn3t, q_chn4t, q_chn4f, q_chn5, q_chn6, q_xe_and, q_and1t, q_and1f, q_and1x, q_xe_or, q_or1t, q_or1f, q_or1x, q_xe_not, q_not1, q_not1x, q_xe_ite, q_ite1t, q_ite1f, q_ite1x, q_xe_tup, q_tup1, q_tup1x, q_xe_lst, q_lst1, q_lst1x, q_xe_dnil, q_xe_dic, q_dic1, q_dic2, q_dic3, q_xv0, q_xv, q_vs1, q_vs1x, q_vs2, q_vs2x, q_xa0, q_xa, q_as1, q_as1x, q_as2, q_as2x, q_xp0, q_xp, q_opt1, q_xe_slc, q_slc1, q_slc2, q_slc3, q_slc4, q_xe_call, q_call1, q_call1x, q_calv1, q_xe_calv, q_fMth, q_xe_mth, q_mth1, q_mthc, q_mthg, q_xe_get, q_get1, q_get2, q_get3, q_get4, q_xe_isx, q_isx1, q_xe_act, q_act1, q_lam1, q_xe_lam, q_toFO, q_toFOx, q_xe_pop0, q_pop1, q_xe_pop, q_isOwnL, q_ownL, q_xe_scut, q_scu1, q_xw_seq, q_seq1l, q_seq1t, q_xw_rng1, q_rng1, q_xw_rng2, q_rng2a, q_rng2b, q_xw_enm, q_enm1, q_enm1t, q_xw_zip, q_zip1, q_zip2l, q_zip2t, q_xt_yes, q_xt_and, q_tandt, q_tandf, q_tandx, q_xt_or, q_tort, q_torf, q_torx, q_xt_not, q_tnot, q_tnotx, q_xt_val, q_tval, q_tvalx, q_tval2, q_tval3, q_trB, q_trI, q_trN, q_trL, q_trT, q_lcB, q_lcB1t, q_lcB1f, q_lcB2, q_lc3, q_lc4, q_lcS, q_xe_lc, q_lc1, q_lc1x, q_lc2, q_nw0, q_nw1, q_nwv, q_nwe, q_wp0, q_wp1, q_sgE, q_uw0, q_uw1, q_as_nm, q_as_tp2, q_as_tp3, q_as_tp4, q_xb0, q_xb, q_seqn, q_seqr, q_seqx, q_xs_asg, q_asg1t, q_asg1f, q_asg1x, q_xs_asgT, q_asgT, q_asgT2, q_asgTx, q_xr0, q_xr, q_rv1, q_rv1x, q_rv2, q_rv2x, q_xs_par, q_par1, q_par1x, q_sa0, q_sa1t, q_sa1f, q_xs_sset, q_set1, q_set1x, q_set2, q_set2x, q_canPut, q_cpo, q_cph, q_putIn, q_put1o, q_put1h, q_put2, q_put3, q_xs_psub, q_ps1, q_pu2, q_pu1, q_pu3, q_pu4, q_pu5, q_xs_app, q_app1, q_app1x, q_app2, q_xs_ext, q_ext1, q_ext2, q_xs_exp, q_exp1, q_exp1x, q_xs_if, q_if1t, q_if1f, q_if1x, q_fst1, q_fstep, q_fl1n, q_fl1r, q_fl1x, q_xs_for, q_for1, q_for1x, q_xs_forf, q_ff0, q_ff, q_ff1n, q_ff1r, q_ff1x, q_xs_whl, q_wl1t, q_wl1f, q_wl2n, q_wl2r, q_wl2x, q_ret1, q_ret1x, q_xs_retv, q_rtvo, q_rtvv, q_xs_rse, q_xs_try, q_tryd, q_tryr, q_trys, q_tryx, q_hndr, q_hndn, q_no0, q_nov, q_noe, q_nx0, q_nxd, q_nxh, q_nxl, q_nxf, q_nxs, q_nxe, q_nxo, q_xs_mkh, q_mkh1, q_nl0, q_nld, q_nls, q_nle, q_nlo, q_tcn, q_tcr, q_tcx, q_tcnS, q_tcrS, q_tcxS, q_tcN, q_tcrN, q_dro, q_drv, q_dre, q_dr0, q_add, q_sub, q_mulL, q_mulR, q_fdiv, q_mod, q_band, q_bor, q_bxor, q_addT, q_addL, q_mulT, q_mulLs, q_lt, q_le, q_gt, q_ge, q_eqc, q_eqi, q_nec, q_omap, q_isc, q_isnc, q_isbb, q_isnn, q_isin, q_isbn, q_istn, q_isln, q_inc, q_ninc, q_subl, q_subt, q_sub1, q_lenl, q_lent, q_lend, q_tupl, q_tupt, q_lstl, q_lstt, q_lstd, q_lrng, q_suml, q_sumt, q_min2, q_max2, q_absi, q_inti, q_intb, q_isI1, q_isI2, q_isI3, q_isI4, q_isI5, q_isI6, q_isI7, q_isB1, q_isB2, q_isB3, q_isB4, q_isB5, q_isB6, q_isB7, q_isT1, q_isT2, q_isT3, q_isT4, q_isT5, q_isT6, q_isT7, q_isStr0, q_isStr1, q_isStr2, q_isStr3, q_isStr4, q_isStr5, q_isStr6, q_isList0, q_isList1, q_isList2, q_isList3, q_isList4, q_isList5, q_isList6, q_isDict0, q_isDict1, q_isDict2, q_isDict3, q_isDict4, q_isDict5, q_isDict6, q_xo_bin, q_xs_ret_bin, q_xo_neg, q_xs_ret_neg, q_xo_cmp, q_xs_ret_cmp, q_xo_chn, q_xs_ret_chn, q_xo_and, q_xs_ret_and, q_xo_or, q_xs_ret_or, q_xo_not, q_xs_ret_not, q_xo_ite, q_xs_ret_ite, q_xo_tup, q_xs_ret_tup, q_xo_lst, q_xs_ret_lst, q_xo_dnil, q_xs_ret_dnil, q_xo_dic, q_xs_ret_dic, q_xo_sub, q_xs_ret_sub, q_xo_slc, q_xs_ret_slc, q_xo_rev, q_xs_ret_rev, q_xo_call, q_xs_ret_call, q_xo_calv, q_xs_ret_calv, q_xo_lam, q_xs_ret_lam, q_xo_act, q_xs_ret_act, q_xo_blt, q_xs_ret_blt, q_xo_mth, q_xs_ret_mth, q_xo_pop0, q_xs_ret_pop0, q_xo_pop, q_xs_ret_pop, q_xo_isx, q_xs_ret_isx, q_xo_scut, q_xs_ret_scut, q_xo_lc, q_xs_ret_lc, q_xs_ret_cst, q_xs_ret_fn, q_ENc, q_ENl, q_ENa, q_ENw, q_ix0, q_ix1, q_ix2, q_ix3, q_ix4, q_ix5, Bool.and_true, Bool.true_and, Bool.and_false, Bool.false_and, Bool.not_true, Bool.not_false, List.length_map, List.getElem?_cons_succ, List.getElem?_cons_zero, Int.reduceLT, Int.reduceLE, Int.reduceNeg, Int.reduceToNat, and_self, and_true, true_and, $as,*] $[$l]?)
theorem ltL_int : ∀ (a b : Ln), decide (a.map bI < b.map bI) = ltL a b
  | [], [] => by simp [ltL]
  | [], _ :: _ => by simp [ltL]
  | _ :: _, [] => by simp [ltL]
  | x :: a, y :: b => by
    rw [List.map_cons, List.map_cons, ltL, ← ltL_int a b]
    cases x <;> cases y <;> simp [List.cons_lt_cons_iff, bI]
theorem dlt_ln (a b : Ln) : W.dataLt (lnP a) (lnP b) = ltL a b := by rw [lnP_eq, lnP_eq]; exact (dlt_ints _ _).trans (ltL_int a b)
theorem sortG_ltL : ∀ xs : List Ln, sortG ltL xs = sortL xs
  | [] => rfl
  | x :: xs => by
    rw [sortG, sortL, sortG_ltL xs]
    generalize sortL xs = l
    induction l with
    | nil => rfl
    | cons y ys ih => rw [insG, insS, ih]
theorem sorted_lns {xs : List Ln} (h0 : ∀ w ∈ xs, w ≠ []) (hn : xs.length ≤ 100000) : sortOk (xs.map lnP) = true ∧ sortD (xs.map lnP) = (sortL xs).map lnP := by
  rw [← sortG_ltL]
  refine sorted_map dlt_ln alike_ln (.inl fun a ha => ?_) (fun a _ => shal_ln 38 a) hn
  cases a with
  | nil => exact (h0 _ ha rfl).elim
  | cons x a => rfl
/-- a dict of lines, each with True -/
def dicP (f : List Ln) : PD := .dict (f.map fun k => (lnP k, .bool true))
theorem dic_any (f : List Ln) (k : Ln) : ((f.map fun k => (lnP k, PyData.bool true)).any fun p => PyData.eqv p.1 (lnP k)) = decide (k ∈ f) := by
  rw [List.any_map]
  induction f with
  | nil => simp
  | cons a f ih =>
    rw [List.any_cons, ih]
    simp only [Function.comp, eqv_ln, List.mem_cons]
    by_cases e : a = k
    · simp [e]
    · have e' : ¬ k = a := fun z => e z.symm
      simp [e, e']
theorem dput_dic (f : List Ln) (k : Ln) : dput (f.map fun k => (lnP k, PyData.bool true)) (lnP k) (.bool true) = (insL f k).map fun k => (lnP k, PyData.bool true) := by
  unfold dput insL
  rw [dic_any]
  by_cases h : k ∈ f
  · simp only [h, decide_true, if_true]
    rw [List.map_map]
    refine List.map_congr_left fun a _ => ?_
    simp only [Function.comp]
    split <;> rfl
  · simp only [h, decide_false, if_false]
    simp
theorem tkeys_dic (f : List Ln) : tkeys (f.map fun k => (lnP k, PyData.bool true)) = true := by
  unfold tkeys
  rw [List.all_map, List.all_eq_true]
  exact fun k _ => isKey_ln k
theorem setop_dic {f : List Ln} {k : Ln} (h : f.length < 100000) : setop (dicP f) (lnP k) (.bool true) = some (dicP (insL f k)) := by
  unfold dicP
  show (if _ then _ else _) = _
  rw [isKey_ln, List.length_map, decide_eq_true h, dput_dic]
  rfl
theorem keys_dic (f : List Ln) : bltop .list [dicP f] = some (.list (f.map lnP), true) := by
  unfold dicP
  rw [q_lstd (tkeys_dic f), List.map_map]
  rfl
theorem sorted_dic {f : List Ln} (h0 : ∀ w ∈ f, w ≠ []) (hn : f.length ≤ 100000) : bltop .sorted [dicP f] = some (.list ((sortL f).map lnP), true) := by
  obtain ⟨h1, h2⟩ := sorted_lns h0 hn
  unfold dicP
  show (if tkeys (f.map fun k => (lnP k, PyData.bool true)) && sortOk ((f.map fun k => (lnP k, PyData.bool true)).map (·.1)) then _ else _) = _
  rw [tkeys_dic, Bool.true_and, List.map_map, show (f.map ((fun p : PD × PD => p.1) ∘ fun k => (lnP k, PyData.bool true))) = f.map lnP from rfl, if_pos h1, h2]
theorem zero_ln (n : Nat) : ((List.replicate n [PyData.int 0]).flatten) = (zeroL n).map bP := by
  induction n with
  | zero => rfl
  | succ n ih => rw [List.replicate_succ, List.flatten_cons, ih]; rfl
theorem zip_xor : ∀ (a b : Ln), (a.zip b).map (fun p => p.1 ^^ p.2) = xorL a b
  | [], b => by simp [xorL_nil]
  | _ :: _, [] => by simp [xorL_nil']
  | x :: a, y :: b => by rw [List.zip_cons_cons, List.map_cons, zip_xor a b, xorL_cons]
theorem b_mod (x y : Bool) : (bI x + bI y) % 2 = bI (x ^^ y) := by cases x <;> cases y <;> rfl
theorem b_xor (x y : Bool) : Builtin.bitXor (bI x) (bI y) = bI (x ^^ y) := by cases x <;> cases y <;> rfl
theorem sum_wt : ∀ (a : Ln), (a.map bI).sum = (wt a : Int)
  | [] => rfl
  | x :: a => by
    rw [List.map_cons, List.sum_cons, sum_wt a, wt_cons]
    cases x <;> simp [bI] <;> omega
/-- code rows: so many columns -/
structure IsCode (n : Nat) (c : List Ln) : Prop where
  ne : c ≠ []
  len : c.length ≤ 5
  n0 : 1 ≤ n
  n8 : n ≤ 8
  row : ∀ r ∈ c, r.length = n
theorem IsCode.pos {n : Nat} {c : List Ln} (C : IsCode n c) : 1 ≤ c.length := List.length_pos_iff.mpr C.ne
theorem IsCode.hd {n : Nat} {c : List Ln} (C : IsCode n c) : ∃ r0, r0.length = n ∧ subop (lnsT c) (.int 0) = some (lnP r0) := by
  cases c with
  | nil => exact (C.ne rfl).elim
  | cons r c => exact ⟨r, C.row r (.head _), subT_0 _ _⟩
section
variable (wf n : Nat) (h : Hd)
theorem c_is_integer (i : Int) : callF tb wf (n + 1) 0 [.dat (.int i)] h = .ret (.dat (.bool true)) false h := by
  rw [e_is_integer]
  push_cast [b_is_integer]
theorem c_is_within (i lo hi : Int) : callF tb wf (n + 2) 1 [.dat (.int i), .dat (.int lo), .dat (.int hi)] h = .ret (.dat (.bool (decide (lo ≤ i) && decide (i ≤ hi)))) false h := by
  rw [e_is_within]
  push_cast [b_is_within, c_is_integer]
  cases decide (lo ≤ i) <;> push_cast []
theorem c_is_tuple (xs : List PD) (lo hi : Int) : callF tb wf (n + 1) 2 [.dat (.tuple xs), .dat (.int lo), .dat (.int hi)] h = .ret (.dat (.bool (decide (lo ≤ xs.length) && decide ((xs.length : Int) ≤ hi)))) false h := by
  rw [e_is_tuple]
  push_cast [b_is_tuple]
  cases decide (lo ≤ (xs.length : Int)) <;> push_cast []
theorem c_is_bits (l : Ln) (m : Nat) (hl : l.length ≤ 100000) : callF tb wf (n + 3) 7 [.dat (lnP l), .dat (.int m)] h = .ret (.dat (.bool (decide (l.length = m)))) false h := by
  rw [e_is_bits]
  push_cast [b_is_bits, c_is_tuple]
  by_cases e : l.length = m
  · subst e
    push_cast [Int.le_refl, decide_true, Bool.and_self, hl]
    rw [lc_to (fun _ => true) PyData.bool]
    · push_cast [all_map, all_tt]
    · intro x hx
      push_cast [c_is_within]
      cases x <;> rfl
  · have : (decide ((m : Int) ≤ (l.length : Int)) && decide ((l.length : Int) ≤ (m : Int))) = false := by
      simp only [Bool.and_eq_false_iff, decide_eq_false_iff_not]
      omega
    push_cast [this, decide_eq_false e]
/-- the sums of a line with each of some: the dict's loop -/
theorem all_words_loop {N : En} {B : IB} {f0 : List Ln} {row : Ln} {m : Nat} {I : S → List Ln → Prop} (hS : Shut m f0) (hr : row.length = m) (hf : f0.length < 10000) {s : S} (h0 : I s f0)
    (step : ∀ (g : List Ln) (w : Ln) (s : S), g.length < 100000 → w ∈ f0 → I s g → ∃ s', fstep N B (.nm 3) (lnP w) s = .nxt s' ∧ I s' (insL g (xorL w row))) : ∃ s', fl N B (.nm 3) (f0.map lnP) s = .nxt s' ∧ I s' (addRow f0 row) := by
  refine fl_ex (fun p s => I s (p.foldl (fun g w => insL g (xorL w row)) f0)) h0 fun p w q s e hI => ?_
  have hl := len_insAll row p f0
  have hp : p.length ≤ f0.length := by rw [e]; simp
  obtain ⟨s', e1, i1⟩ := step _ w s (by omega) (by rw [e]; simp) hI
  exact ⟨s', e1, by rw [List.foldl_append]; exact i1⟩
theorem all_words_loop_at {F : SOut} {N : En} {B : IB} {k : Nat} {f0 : List Ln} {row : Ln} {m : Nat} {s : S} (hF : fl N B (.nm k) (f0.map lnP) s = F) {I : S → List Ln → Prop} (hS : Shut m f0) (hr : row.length = m) (hf : f0.length < 10000) (h0 : I s f0)
    (step : ∀ (g : List Ln) (w : Ln) (s : S), g.length < 100000 → w ∈ f0 → I s g → ∃ s', fstep N B (.nm k) (lnP w) s = .nxt s' ∧ I s' (insL g (xorL w row))) : ∃ s', F = .nxt s' ∧ I s' (addRow f0 row) := by
  refine fl_by hF (fun p s => I s (p.foldl (fun g w => insL g (xorL w row)) f0)) h0 fun p w q s e hI => ?_
  have hl := len_insAll row p f0
  have hp : p.length ≤ f0.length := by rw [e]; simp
  obtain ⟨s', e1, i1⟩ := step _ w s (by omega) (by rw [e]; simp) hI
  exact ⟨s', e1, by rw [List.foldl_append]; exact i1⟩
theorem len_words32 {m : Nat} {c : List Ln} (C : IsCode m c) : (wordsL m c).length ≤ 32 := by
  have h1 := len_words m c
  have h2 : 2 ^ c.length ≤ 2 ^ 5 := Nat.pow_le_pow_right (by omega) C.len
  omega
theorem any_ln (l : Ln) : bltop .any [lnP l] = some (.bool (l.any id), false) := by
  rw [lnP_eq]
  show (asInts _).map _ = _
  rw [asInts_map]
  simp only [Option.map_some, List.any_map]
  congr 4
  funext b
  cases b <;> rfl
/-- the fewest ones -/
def lwt (m : Nat) (c : List Ln) : Option Int := match ((wordsL m c).filter fun w => w.any id).map (fun w => (wt w : Int)) with
  | [] => none
  | x :: xs => some (minG ltI x xs)
def oiP : Option Int → PD
  | none => .none
  | some i => .int i
theorem zip_ne : ∀ (a b : Ln), ((a.zip b).filter (fun p => decide (p.1 ≠ p.2))).length = dist a b
  | [], b => by simp [dist, xorL_nil, wt]
  | _ :: _, [] => by simp [dist, xorL_nil', wt]
  | x :: a, y :: b => by
    rw [List.zip_cons_cons, List.filter_cons]
    have ih := zip_ne a b
    unfold dist at *
    rw [xorL_cons, wt_cons, ← ih]
    cases x <;> cases y <;> simp
theorem b_ne (x y : Bool) : (!decide (bI x = bI y)) = decide (x ≠ y) := by cases x <;> cases y <;> rfl
abbrev prP (p : Int × Ln) : PD := .tuple [.int p.1, lnP p.2]
theorem dlt_pr (p q : Int × Ln) : W.dataLt (prP p) (prP q) = ltP p q := by
  have key : ∀ (x y : PD) (u v : PD), W.alike x y = true → W.dataLt (.tuple [x, u]) (.tuple [y, v]) = if PyData.eqv x y = true then (PyProof.Rows.lexLt PyProof.Rows.itemOrd (W.keyToksAll [u]) (W.keyToksAll [v])) else W.dataLt x y := fun x y u v ha => by
    rw [W.dataLt_tuple]
    exact W.dataLt_cons ha _ _
  rw [key _ _ _ _ (by rw [W.alike]), eqv_int]
  unfold ltP
  by_cases e : p.1 = q.1
  · simp only [e, decide_true, if_true]
    rw [W.dataLt_cons (alike_ln _ _), eqv_ln]
    by_cases e2 : p.2 = q.2
    · simp only [e2, decide_true, if_true, ltL_irrefl]
      exact PyProof.Rows.lex_irrefl _
    · simp only [e2, decide_false, if_false, dlt_ln]
      rfl
  · simp only [e, decide_false, if_false, W.dataLt_int]
    rfl
theorem alike_pr (p q : Int × Ln) : W.alike (prP p) (prP q) = true := by
  rw [W.alike, W.alikeAll, W.alikeAll, alike_ln, W.alike, W.alikeAll]
  rfl
theorem shal_pr (k : Nat) (p : Int × Ln) : shal (k + 2) (prP p) = true := by
  rw [shal]
  simp only [List.all_cons, List.all_nil, shal_int, shal_ln, Bool.and_self]
theorem words_ne {m : Nat} {c : List Ln} (C : IsCode m c) : wordsL m c ≠ [] := List.ne_nil_of_mem (shut_words C.row).zero
theorem count_ints (ns : List Int) (k : Int) : mthop .count (.list (ns.map .int)) [.int k] = some (.int ((ns.countP (fun x => decide (x = k)) : Nat) : Int)) := by
  show (if shal 40 (.int k) && (ns.map PyData.int).all (shal 39) then _ else _) = _
  rw [shal_int, all_map_t fun _ _ => shal_int _ _]
  simp only [Bool.and_self, if_true, List.countP_map]
  congr 3
end
open PySem Pev
/-- the hand: five places -/
def HandOk (hd : List PD) : Prop := ∃ (cells : List Int) (idx : Nat) (left mix cnt : Int), hd = [.list (cells.map .int), .int idx, .int left, .int mix, .int cnt]
theorem h_0 (a b c d e : PD) : subop (.list [a, b, c, d, e]) (.int 0) = some a := rfl
theorem h_1 (a b c d e : PD) : subop (.list [a, b, c, d, e]) (.int 1) = some b := rfl
theorem h_2 (a b c d e : PD) : subop (.list [a, b, c, d, e]) (.int 2) = some c := rfl
theorem h_3 (a b c d e : PD) : subop (.list [a, b, c, d, e]) (.int 3) = some d := rfl
theorem h_4 (a b c d e : PD) : subop (.list [a, b, c, d, e]) (.int 4) = some e := rfl
theorem s_1 (a b c d e x : PD) : setop (.list [a, b, c, d, e]) (.int 1) x = some (.list [a, x, c, d, e]) := rfl
theorem s_2 (a b c d e x : PD) : setop (.list [a, b, c, d, e]) (.int 2) x = some (.list [a, b, x, d, e]) := rfl
theorem s_3 (a b c d e x : PD) : setop (.list [a, b, c, d, e]) (.int 3) x = some (.list [a, b, c, x, e]) := rfl
theorem s_4 (a b c d e x : PD) : setop (.list [a, b, c, d, e]) (.int 4) x = some (.list [a, b, c, d, x]) := rfl
theorem p_18 : binop .pow (.int 10) (.int 18) = some (.int 1000000000000000000, false) := by rfl
theorem p_36 : binop .pow (.int 10) (.int 36) = some (.int 1000000000000000000000000000000000000, false) := by rfl
theorem eml {x c : Int} (h : 0 < c) : (-18446744073709551616 < x % c) = True := by
  have := Int.emod_nonneg x (by omega : c ≠ 0)
  simp; omega
theorem emr {x c : Int} (h : 0 < c) (h2 : c < 18446744073709551616) : (x % c < 18446744073709551616) = True := by
  have := Int.emod_lt_of_pos x h
  simp; omega
theorem HandOk.mk' (cells : List Int) (idx : Nat) (left mix cnt : Int) : HandOk [.list (cells.map .int), .int idx, .int left, .int mix, .int cnt] := ⟨cells, idx, left, mix, cnt, rfl⟩
theorem draw_fin {e : Int} {m : Nat} {hd : List PD} (hm : 1 ≤ m) (H : HandOk hd) : ∃ (k : Nat) (hd' : List PD), HandOk hd' ∧ k < m ∧ FO.ret (.dat (.int (e % (m : Int)))) false (some hd) = .ret (.dat (.int k)) false (some hd') := by
  have h0 := Int.emod_nonneg e (by omega : (m : Int) ≠ 0)
  have h1 := Int.emod_lt_of_pos e (by omega : 0 < (m : Int))
  refine ⟨(e % (m : Int)).toNat, hd, H, by omega, ?_⟩
  rw [Int.toNat_of_nonneg h0]
def dr_st : IS := match b_law_draw with
  | .cons s _ => s
  | .nil => .exp (.cst .none)
def dr_tl : IB := match b_law_draw with
  | .cons _ b => b
  | .nil => .nil
theorem dr_eq : b_law_draw = .cons dr_st dr_tl := rfl
section
variable (wf n : Nat)
theorem c_draw {hd : List PD} (H : HandOk hd) {m : Nat} (hm : 1 ≤ m) (hb : m < 1000000) : ∃ (k : Nat) (hd' : List PD), HandOk hd' ∧ k < m ∧ callF tb wf (n + 1) 24 [.hnd, .dat (.int m)] (some hd) = .ret (.dat (.int k)) false (some hd') := by
  obtain ⟨cells, idx, left, mix, cnt, rfl⟩ := H
  have m1 : 0 < (m : Int) := by omega
  have m2 : (m : Int) < 1606938044258990275541962092341162602522202993782792835301376 := by omega
  rw [e_law_draw]
  have tail : ∀ (l mx ct : Int) (ix : Int) (j : Nat), ix = (j : Int) → ∀ (a : Slot), ∃ (k : Nat) (hd' : List PD), HandOk hd' ∧ k < m ∧ toCall (some [.list (cells.map .int), .int idx, .int left, .int mix, .int cnt]) (xb (EN tb wf n nB) dr_tl ⟨[.val .hnd, .val (.dat (.int m)), a, .emp, .emp], some [.list (cells.map .int), .int ix, .int l, .int mx, .int ct]⟩) = .ret (.dat (.int k)) false (some hd') := by
    intro l mx ct ix j hj a
    subst hj
    unfold dr_tl b_law_draw
    simp only
    by_cases h0 : 0 < l
    · push_cast [h0, decide_true, m1, m2, s_2]
      exact draw_fin hm (HandOk.mk' _ _ _ _ _)
    · push_cast [h0, decide_false, m1, m2, s_4, eml, emr]
      exact draw_fin hm (HandOk.mk' _ _ _ _ _)
  rw [dr_eq]
  generalize dr_tl = B at tail ⊢
  unfold dr_st b_law_draw
  by_cases hl : left = 0
  · subst hl
    by_cases hi : idx < cells.length
    · have e1 : subop (.list (cells.map PyData.int)) (.int (idx : Int)) = some (.int cells[idx]) := subL_at (by simp [hi])
      have hi2 : (idx : Int) < (cells.length : Int) := by omega
      by_cases hc : (1000000000000000000 : Int) ≤ cells[idx]
      · push_cast [q_eqi, decide_true, hi2, e1, s_1, s_2, s_3, p_18, hc]
        exact tail _ _ _ _ (idx + 1) rfl _
      · push_cast [q_eqi, decide_true, hi2, e1, s_1, s_2, s_3, p_18, hc, decide_false]
        exact tail _ _ _ _ (idx + 1) rfl _
    · have hi2 : ¬ ((idx : Int) < (cells.length : Int)) := by omega
      push_cast [q_eqi, decide_true, hi2, decide_false]
      exact tail _ _ _ _ idx rfl _
  · push_cast [q_eqi, hl, decide_false]
    exact tail _ _ _ _ idx rfl _
theorem c_any {hd : List PD} (H : HandOk hd) {α : Type} (enc : α → PD) {xs : List α} (hx : xs ≠ []) (hb : xs.length < 1000000) : ∃ (x : α) (hd' : List PD), HandOk hd' ∧ x ∈ xs ∧ callF tb wf (n + 2) 25 [.hnd, .dat (.list (xs.map enc))] (some hd) = .ret (.dat (enc x)) false (some hd') := by
  obtain ⟨k, hd', H', hk, e⟩ := c_draw wf n H (m := xs.length) (List.length_pos_iff.mpr hx) hb
  refine ⟨xs[k], hd', H', List.getElem_mem hk, ?_⟩
  rw [e_law_some]
  push_cast [b_law_some, e, subL_at (List.getElem?_eq_getElem hk)]
theorem c_any0 {hd : List PD} (H : HandOk hd) {xs : List PD} (hx : xs ≠ []) (hb : xs.length < 1000000) : ∃ (x : PD) (hd' : List PD), HandOk hd' ∧ x ∈ xs ∧ callF tb wf (n + 2) 25 [.hnd, .dat (.list xs)] (some hd) = .ret (.dat x) false (some hd') := by
  have := c_any wf n H id hx hb
  simpa using this
/-- a drawn bit -/
theorem c_draw2 {hd : List PD} (H : HandOk hd) : ∃ (b : Bool) (hd' : List PD), HandOk hd' ∧ callF tb wf (n + 1) 24 [.hnd, .dat (.int 2)] (some hd) = .ret (.dat (bP b)) false (some hd') := by
  obtain ⟨k, hd', H', hk, e⟩ := c_draw wf n H (m := 2) (by omega) (by omega)
  refine ⟨decide (k = 1), hd', H', ?_⟩
  have e2 : bP (decide (k = 1)) = .int (k : Int) := by
    rcases (by omega : k = 0 ∨ k = 1) with rfl | rfl <;> rfl
  rw [e2]
  exact e
theorem ones_ln (n : Nat) : ((List.replicate n [PyData.int 1]).flatten) = (List.replicate n true).map bP := by
  induction n with
  | zero => rfl
  | succ n ih => rw [List.replicate_succ, List.flatten_cons, ih]; rfl
/-- drawn bits -/
theorem bits_by {N : En} {L : Out (List PD)} {ρ : List Slot} {hd : List PD} {i : Nat} {elt : IE} {ds : List Nat} {f : Nat → PD} {own : List Nat} {tg : Tgt} (hL : lcL N elt .yes tg own (ds.map f) [] ⟨ρ, some hd⟩ = L) (H : HandOk hd)
    (h : ∀ x ∈ ds, ∀ hd, HandOk hd → ∃ (b : Bool) (hd' : List PD), HandOk hd' ∧ lcS N elt .yes tg own (f x) ⟨ρ, some hd⟩ = .ok (some (bP b)) ⟨ρ, some hd'⟩) : ∃ (l : Ln) (hd' : List PD), HandOk hd' ∧ l.length = ds.length ∧ L = .ok (l.map bP) ⟨ρ, some hd'⟩ := by
  obtain ⟨ys, s', e, ⟨hd', H', rfl⟩, _, hl⟩ := lc_by hL (fun s => ∃ hd, HandOk hd ∧ s = ⟨ρ, some hd⟩) (fun _ : Bool => True) bP ⟨hd, H, rfl⟩ fun x hx s ⟨hd, H, hs⟩ => by
    subst hs
    obtain ⟨b, hd', H', e⟩ := h x hx hd H
    exact ⟨b, _, e, trivial, hd', H', rfl⟩
  exact ⟨ys, hd', H', hl, e⟩
theorem setL_at {α : Type} {enc : α → PD} {xs : List α} {i : Nat} {a : α} (hi : i < xs.length) : setop (.list (xs.map enc)) (.int (i : Int)) (enc a) = some (.list ((xs.set i a).map enc)) := by
  show (ixAt (xs.map enc) (i : Int)).map _ = _
  rw [ix_nat (by simpa using hi), Option.map_some, List.map_set]
theorem dist_set (b : Bool) : ∀ (w l : Ln) (i : Nat), dist w (l.set i b) ≤ dist w l + 1
  | [], l, i => by simp [dist, xorL_nil, wt]
  | _ :: _, [], i => by simp [dist, xorL_nil', wt]
  | x :: w, y :: l, 0 => by
    rw [List.set_cons_zero]
    unfold dist
    rw [xorL_cons, xorL_cons, wt_cons, wt_cons]
    cases x <;> cases y <;> cases b <;> simp <;> omega
  | x :: w, y :: l, i + 1 => by
    have ih := dist_set b w l i
    rw [List.set_cons_succ]
    unfold dist at *
    rw [xorL_cons, xorL_cons, wt_cons, wt_cons]
    omega
abbrev iP (i : Nat) : PD := .int (i : Int)
theorem rng_nat (n : Nat) : rngD 0 n = (List.range n).map iP := by
  rw [rng_map]
  refine List.map_congr_left fun i _ => ?_
  rw [Int.zero_add]
theorem erase_map {α β : Type} (f : α → β) : ∀ (l : List α) (k : Nat), (l.map f).eraseIdx k = (l.eraseIdx k).map f
  | [], _ => by simp
  | x :: l, 0 => by simp
  | x :: l, k + 1 => by simp [erase_map f l k]
theorem b_flip (b : Bool) : 1 - bI b = bI (!b) := by cases b <;> rfl
theorem c_law_hand (ns : List Int) : ∃ (cells : List Int) (mix : Int), callF tb wf (n + 1) 23 [.scr ns] none = .ret (.dat (.list [.list (cells.map .int), .int 0, .int 0, .int mix, .int 0])) true none := by
  rw [e_law_hand]
  have hl : (ns.take 63).length ≤ 100000 := by rw [List.length_take]; omega
  push_cast [b_law_hand, hl]
  rw [lc_to (fun i => (if i < 0 then -i else i)) PyData.int]
  · push_cast []
    exact ⟨_, _, rfl⟩
  · intro x _
    push_cast []
theorem cut_to {α : Type} (xs : List α) (i : Nat) (h : i ≤ xs.length) : cutL xs none (some (i : Int)) = xs.take i := by
  unfold cutL cutIx
  simp
theorem cut_from {α : Type} (xs : List α) (i : Nat) (h : i ≤ xs.length) : cutL xs (some (i : Int)) none = xs.drop i := by
  unfold cutL cutIx
  simp
  rw [List.take_of_length_le]
  · congr 1
    exact Nat.min_eq_left h
  · simp
theorem q_slcT (xs : List PD) (l u : Option Int) : slcop (.tuple xs) l u = some (.tuple (cutL xs l u), false) := rfl
theorem q_slcL (xs : List PD) (l u : Option Int) : slcop (.list xs) l u = some (.list (cutL xs l u), true) := rfl
end
open PySem Pev
def Small (x : Int) : Prop := -18446744073709551616 < x ∧ x < 18446744073709551616
section
variable (wf n : Nat) (h : Hd)
theorem c_law_turned {m w : Nat} (f : Nat → Nat → Int) (hm : 0 < m) (m1 : m ≤ 1000) (w1 : w ≤ 1000) : callF tb wf (n + 1) 27 [.dat (iM m w f)] h = .ret (.dat (iM w m fun i j => f j i)) false h := by
  rw [e_law_turned]
  have z1 : (w : Int) ≤ 100000 ∧ (-100000 : Int) ≤ (w : Int) := by omega
  have z2 : w ≤ 100000 := by omega
  have z3 : m ≤ 100000 := by omega
  push_cast [b_law_turned, atr0 hm, List.length_range, q_rng1 z1, Int.toNat_natCast, rng_n, z2]
  generalize hL : lcL _ _ _ _ _ _ _ _ = L
  obtain rfl := lc_rng hL fun i hi => by
    push_cast [List.length_range, z3]
    generalize hL : lcL _ _ _ _ _ _ _ _ = L
    obtain rfl := lc_rng hL fun j hj => by
      push_cast [atr hi]
      exact rfl
    push_cast []
    exact rfl
  push_cast []
theorem c_law_led {m w : Nat} (f : Nat → Nat → Int) (g : Nat → Int) (hb : ∀ i, i < m → ∀ j, j < w → Small (f i j)) (m1 : m ≤ 1000) (w1 : w ≤ 1000) : callF tb wf (n + 1) 29 [.dat (iM m w f), .dat (iL w g)] h = .ret (.dat (iL m fun i => sumN w fun j => f i j * g j)) false h := by
  rw [e_law_led]
  have z2 : w ≤ 100000 := by omega
  have z3 : m ≤ 100000 := by omega
  push_cast [b_law_led, List.length_range, z3]
  generalize hL : lcL _ _ _ _ _ _ _ _ = L
  obtain rfl := lc_rng hL fun i hi => by
    push_cast [List.length_range, zip_rng, z2]
    generalize hL : lcL _ _ _ _ _ _ _ _ = L
    obtain rfl := lc_rng hL fun j hj => by
      push_cast [q_mulL (hb i hi j hj)]
      exact rfl
    push_cast [sum_rl]
    exact rfl
  push_cast []
theorem c_law_product {m k w : Nat} (f g : Nat → Nat → Int) (hb : ∀ i, i < m → ∀ j, j < k → Small (f i j)) (hk : 0 < k) (m1 : m ≤ 1000) (k1 : k ≤ 1000) (w1 : w ≤ 1000) : callF tb wf (n + 2) 28 [.dat (iM m k f), .dat (iM k w g)] h = .ret (.dat (iM m w fun i j => sumN k fun l => f i l * g l j)) false h := by
  rw [e_law_product]
  have z1 : k ≤ 100000 := by omega
  have z2 : w ≤ 100000 := by omega
  have z3 : m ≤ 100000 := by omega
  push_cast [b_law_product, c_law_turned wf n h g hk k1 w1, List.length_range, z3]
  generalize hL : lcL _ _ _ _ _ _ _ _ = L
  obtain rfl := lc_rng hL fun i hi => by
    push_cast [List.length_range, z2]
    generalize hL : lcL _ _ _ _ _ _ _ _ = L
    obtain rfl := lc_rng hL fun j hj => by
      push_cast [List.length_range, zip_rng, z1]
      generalize hL : lcL _ _ _ _ _ _ _ _ = L
      obtain rfl := lc_rng hL fun l hl => by
        push_cast [q_mulL (hb i hi l hl)]
        exact rfl
      push_cast [sum_rl]
      exact rfl
    push_cast []
    exact rfl
  push_cast []
theorem c_law_mod {m w : Nat} (f : Nat → Nat → Int) (m1 : m ≤ 1000) (w1 : w ≤ 1000) : callF tb wf (n + 1) 33 [.dat (iM m w f)] h = .ret (.dat (iM m w fun i j => f i j % 2)) false h := by
  rw [e_law_mod]
  have z2 : w ≤ 100000 := by omega
  have z3 : m ≤ 100000 := by omega
  push_cast [b_law_mod, List.length_range, z3]
  generalize hL : lcL _ _ _ _ _ _ _ _ = L
  obtain rfl := lc_rng hL fun i hi => by
    push_cast [List.length_range, z2]
    generalize hL : lcL _ _ _ _ _ _ _ _ = L
    obtain rfl := lc_rng hL fun j hj => by
      push_cast []
      exact rfl
    push_cast []
    exact rfl
  push_cast []
theorem c_law_mod_l {m w : Nat} (f : Nat → Nat → Int) (m1 : m ≤ 1000) (w1 : w ≤ 1000) : callF tb wf (n + 1) 33 [.dat (.list ((List.range m).map fun i => .list ((List.range w).map fun j => .int (f i j))))] h = .ret (.dat (iM m w fun i j => f i j % 2)) false h := by
  rw [e_law_mod]
  have z2 : w ≤ 100000 := by omega
  have z3 : m ≤ 100000 := by omega
  push_cast [b_law_mod, List.length_range, z3]
  generalize hL : lcL _ _ _ _ _ _ _ _ = L
  obtain rfl := lc_rng hL fun i hi => by
    push_cast [List.length_range, z2]
    generalize hL : lcL _ _ _ _ _ _ _ _ = L
    obtain rfl := lc_rng hL fun j hj => by
      push_cast []
      exact rfl
    push_cast []
    exact rfl
  push_cast []
end
open PySem Pev
/-! qrows.py -/
abbrev fb (q : Nat → Nat → Bool) : Nat → Nat → Int := fun i j => bI (q i j)
abbrev xb' (x : Nat → Bool) : Nat → Int := fun i => bI (x i)
theorem lnP_f {m : Nat} {l : Ln} (hl : l.length = m) : lnP l = iL m (xb' (bf l)) := by
  rw [← lnF_bf hl]
  show PyData.tuple (((List.range m).map (bf l)).map bP) = _
  rw [List.map_map, lnF_bf hl]
  rfl
theorem lnF_P (m : Nat) (x : Nat → Bool) : lnP (lnF m x) = iL m (xb' x) := by
  show PyData.tuple (((List.range m).map x).map bP) = _
  rw [List.map_map]
  rfl
theorem rowsF_P (m : Nat) (q : Nat → Nat → Bool) : lnsT (rowsF m q) = iM m m (fb q) := by
  show PyData.tuple (((List.range m).map fun i => lnF m (q i)).map lnP) = _
  rw [List.map_map]
  congr 1
  exact List.map_congr_left fun i _ => lnF_P m (q i)
theorem xrs_sum {g : Nat → Int} {f : Nat → Bool} : ∀ {m : Nat}, (∀ i, i < m → g i % 2 = bI (f i)) → sumN m g % 2 = bI (xrs m f)
  | 0, _ => rfl
  | m + 1, h => by
    rw [sumN, xrs, Int.add_emod, xrs_sum fun i hi => h i (by omega), h m (by omega)]
    exact bI_add2 _ _
theorem xrs_sum' (f : Nat → Bool) (m : Nat) : sumN m (fun i => bI (f i)) % 2 = bI (xrs m f) := xrs_sum fun i _ => bI_mod _
theorem filt_sum (c : Nat → Bool) (g : Nat → Int) (m : Nat) : bltop .sum [.list (((List.range m).filter c).map fun i => .int (g i))] = some (.int (sumN m fun i => if c i then g i else 0), false) := by
  rw [suml_map, sum_filter, sumN_eq]
structure IsQ (m : Nat) (q : Nat → Nat → Bool) : Prop where
  n1 : 1 ≤ m
  n4 : m ≤ 4
  up : Upp q
section
variable (wf n : Nat) (h : Hd)
theorem c_is_within01 (b : Bool) : callF tb wf (n + 2) 1 [.dat (.int (bI b)), .dat (.int 0), .dat (.int 1)] h = .ret (.dat (.bool true)) false h := by
  rw [c_is_within]
  cases b <;> rfl
theorem c_is_bitsF {m : Nat} (x : Nat → Bool) (m1 : m ≤ 1000) : callF tb wf (n + 3) 7 [.dat (iL m (xb' x)), .dat (.int m)] h = .ret (.dat (.bool true)) false h := by
  rw [← lnF_P, c_is_bits _ _ _ _ _ (by rw [lnF_len]; omega), lnF_len, decide_eq_true rfl]
theorem all_true {α : Type} (xs : List α) : bltop .all [.list (xs.map fun _ => .bool true)] = some (.bool true, false) := by
  have := all_map (fun _ : α => true) xs
  rw [List.map_map] at this
  rw [all_tt] at this
  exact this
theorem c_is_bit_squareF {m : Nat} (q : Nat → Nat → Bool) (m1 : m ≤ 1000) : callF tb wf (n + 4) 8 [.dat (iM m m (fb q)), .dat (.int m)] h = .ret (.dat (.bool true)) false h := by
  rw [e_is_bit_square]
  have z2 : m ≤ 100000 := by omega
  push_cast [b_is_bit_square, c_is_tuple, List.length_range, Int.le_refl, decide_true, z2]
  generalize hL : lcL _ _ _ _ _ _ _ _ = L
  obtain rfl := lc_rng hL fun i hi => by
    push_cast [c_is_bitsF wf n h (q i) m1]
    exact rfl
  push_cast [all_true]
theorem any_rng (x : Nat → Bool) (m : Nat) : bltop .any [.tuple ((List.range m).map fun i => bP (x i))] = some (.bool ((List.range m).any x), false) := by
  have : bltop .any [.tuple (((List.range m).map x).map bP)] = some (.bool (((List.range m).map x).any id), false) := any_ln ((List.range m).map x)
  rw [List.map_map, List.any_map] at this
  exact this
theorem cut_rng (f : Nat → PD) {m i : Nat} (hi : i ≤ m) : cutL ((List.range m).map f) none (some (i : Int)) = (List.range i).map f := by
  rw [cut_to _ _ (by simpa using hi), ← List.map_take, List.take_range, Nat.min_eq_left hi]
theorem any_false {α : Type} (xs : List α) : bltop .any [.list (xs.map fun _ => .bool false)] = some (.bool false, false) := by
  have := any_map (fun _ : α => false) xs
  rw [List.map_map] at this
  rw [show (xs.any fun _ => false) = false from List.any_eq_false.mpr fun _ _ => by simp] at this
  exact this
theorem c_check_q {m : Nat} {q : Nat → Nat → Bool} (Q : IsQ m q) : callF tb wf (n + 5) 9 [.dat (iM m m (fb q))] h = .ret (.dat .none) false h := by
  have n1 := Q.n1
  have n4 := Q.n4
  have e1 : (decide ((1 : Int) ≤ (m : Int)) && decide ((m : Int) ≤ 4)) = true := by
    simp only [Bool.and_eq_true, decide_eq_true_eq]
    omega
  have z2 : m ≤ 100000 := by omega
  rw [e_check_q]
  push_cast [b_check_q, c_is_tuple, List.length_range, e1, c_is_bit_squareF wf n h q (by omega : m ≤ 1000), enum_rng, z2]
  generalize hL : lcL _ _ _ _ _ _ _ _ = L
  obtain rfl := lc_rng (g := fun _ => .bool false) hL fun i hi => by
    have hf : ((List.range i).any fun j => q i j) = false := List.any_eq_false.mpr fun j hj => by
      rw [Q.up i j (List.mem_range.mp hj)]
      simp
    push_cast [q_slcT, cut_rng _ (Nat.le_of_lt hi), any_rng, hf]
  push_cast [any_false]
theorem Wq_int {m : Nat} (q : Nat → Nat → Bool) (x : Nat → Bool) : (sumN m fun i => sumN m fun j => if decide ((i : Int) ≤ (j : Int)) then bI ((q i j && x i) && x j) else 0) % 2 = bI (Wq m q x) := by
  refine xrs_sum fun i _ => xrs_sum fun j _ => ?_
  by_cases e : (i : Int) ≤ (j : Int)
  · rw [decide_eq_true e, if_pos rfl, decide_eq_true (show i ≤ j by omega), Bool.true_and, Bool.and_assoc]
    exact bI_mod _
  · rw [decide_eq_false e, if_neg (by simp), decide_eq_false (show ¬ i ≤ j by omega), Bool.false_and]
    rfl
theorem c_worth_of {m : Nat} (q : Nat → Nat → Bool) (x : Nat → Bool) (m1 : m ≤ 1000) : callF tb wf (n + 1) 10 [.dat (iM m m (fb q)), .dat (iL m (xb' x))] h = .ret (.dat (.int (bI (Wq m q x)))) false h := by
  have z1 : (m : Int) ≤ 100000 ∧ (-100000 : Int) ≤ (m : Int) := by omega
  have z2 : m ≤ 100000 := by omega
  rw [e_worth_of]
  push_cast [b_worth_of, List.length_range, q_lrng z1, Int.toNat_natCast, rng_n, z2]
  generalize hL : lcL _ _ _ _ _ _ _ _ = L
  obtain rfl := lc_rng hL fun i hi => by
    push_cast [List.length_range, z2]
    generalize hL : lcL _ _ _ _ _ _ _ _ = L
    obtain rfl := lc_cndr (g := fun j => .int (bI ((q i j && x i) && x j))) hL (fun j => decide ((i : Int) ≤ (j : Int))) (fun j hj hc => by
      have hc : decide ((i : Int) ≤ (j : Int)) = true := hc
      push_cast [hc, atr hi, atr hj, bI_lo, bI_hi, bI_mul]) (fun j hj hc => by
      have hc : decide ((i : Int) ≤ (j : Int)) = false := hc
      push_cast [hc])
    push_cast [filt_sum]
    exact rfl
  push_cast [sum_rl, Wq_int]
theorem c_q_worth {m : Nat} {q : Nat → Nat → Bool} (Q : IsQ m q) (x : Nat → Bool) : callF tb wf (n + 6) 11 [.dat (iM m m (fb q)), .dat (iL m (xb' x))] h = .ret (.dat (.int (bI (Wq m q x)))) false h := by
  have n4 := Q.n4
  rw [e_q_worth]
  push_cast [b_q_worth, c_check_q wf n h Q, List.length_range, c_is_bitsF wf _ h x (by omega : m ≤ 1000), c_worth_of wf _ h q x (by omega : m ≤ 1000)]
theorem c_pairs_of {m : Nat} (q : Nat → Nat → Bool) (m1 : m ≤ 1000) : callF tb wf (n + 1) 12 [.dat (iM m m (fb q))] h = .ret (.dat (iM m m (fb (Pq q)))) false h := by
  have z1 : (m : Int) ≤ 100000 ∧ (-100000 : Int) ≤ (m : Int) := by omega
  have z2 : m ≤ 100000 := by omega
  rw [e_pairs_of]
  push_cast [b_pairs_of, List.length_range, q_lrng z1, Int.toNat_natCast, rng_n, z2]
  generalize hL : lcL _ _ _ _ _ _ _ _ = L
  obtain rfl := lc_rng hL fun i hi => by
    push_cast [List.length_range, z2]
    generalize hL : lcL _ _ _ _ _ _ _ _ = L
    obtain rfl := lc_rng (g := fun j => .int (bI (Pq q i j))) hL fun j hj => by
      unfold Pq
      by_cases e : (i : Int) = (j : Int)
      · push_cast [q_eqi, decide_eq_true e, decide_eq_true (show i = j by omega)]
        rfl
      · push_cast [q_eqi, decide_eq_false e, decide_eq_false (show ¬ i = j by omega), atr hi, atr hj, bI_add2]
    push_cast []
    exact rfl
  push_cast []
theorem c_q_pairs {m : Nat} {q : Nat → Nat → Bool} (Q : IsQ m q) : callF tb wf (n + 6) 13 [.dat (iM m m (fb q))] h = .ret (.dat (iM m m (fb (Pq q)))) false h := by
  have n4 := Q.n4
  rw [e_q_pairs]
  push_cast [b_q_pairs, c_check_q wf n h Q, c_pairs_of wf _ h q (by omega : m ≤ 1000)]
theorem c_all_bits {m : Nat} (m1 : 1 ≤ m) (m8 : m ≤ 8) : callF tb wf (n + 1) 14 [.dat (.int m)] h = .ret (.dat (.list ((linesL m).map lnP))) false h := by
  rw [e_all_bits]
  have z1 : ((m : Nat) : Int) ≤ 100000 ∧ (-100000 : Int) ≤ ((m : Nat) : Int) := by omega
  push_cast [b_all_bits, q_rng1 z1, Int.toNat_natCast, rng_nat]
  generalize hF : fl _ _ _ _ _ = F
  obtain ⟨s', rfl, f, a, b, c, hf, rfl⟩ := fl_by hF (fun p s => ∃ (f a b c : Slot), (f = .val (.dat (.list ((linesL p.length).map lnP))) ∨ p = [] ∧ f = .own (.list ((linesL p.length).map lnP))) ∧ s = ⟨[.val (.dat (.int m)), f, a, b, c], h⟩) ⟨.own (.list ((linesL 0).map lnP)), .emp, .emp, .emp, .inr ⟨rfl, rfl⟩, rfl⟩ (fun p x q s e ⟨f, a, b, c, hf, hs⟩ => by
    subst hs
    have hp : p.length < m := by
      have := congrArg List.length e
      simp at this
      omega
    have hl : (linesL p.length).length ≤ 128 := by
      rw [len_lines]
      have : 2 ^ p.length ≤ 2 ^ 7 := Nat.pow_le_pow_right (by omega) (by omega)
      omega
    have fin : ∀ (B : IB), B = .cons (.ext 3 (.lst (.cons (.bin .add (.var 4) (.tup (.cons (.cst (.int 0)) .nil))) (.cons (.bin .add (.var 4) (.tup (.cons (.cst (.int 1)) .nil))) .nil)))) .nil → ∃ s', fl (EN tb wf n nB) B (.nm 4) ((linesL p.length).map lnP) ⟨[.val (.dat (.int m)), .val (.dat (.list ((linesL p.length).map lnP))), .val (.dat (iP x)), .own (.list []), c], h⟩ = .nxt s' ∧ ∃ c, s' = ⟨[.val (.dat (.int m)), .val (.dat (.list ((linesL p.length).map lnP))), .val (.dat (iP x)), .own (.list ((linesL (p.length + 1)).map lnP)), c], h⟩ := by
      intro B hB
      subst hB
      generalize hG : fl _ _ _ _ _ = G
      obtain ⟨s2, rfl, c2, rfl⟩ := fl_by hG (fun q s => ∃ c : Slot, s = ⟨[.val (.dat (.int m)), .val (.dat (.list ((linesL p.length).map lnP))), .val (.dat (iP x)), .own (.list ((q.flatMap bothL).map lnP)), c], h⟩) ⟨c, rfl⟩ (fun q l r s e ⟨c, hs⟩ => by
        subst hs
        have hq : q.length ≤ 128 := by
          have := congrArg List.length e
          simp at this
          omega
        have hll : l.length ≤ 8 := by
          have : l ∈ linesL p.length := by rw [e]; simp
          rw [mem_lines.mp this]; omega
        have k1 : (l.map bP).length + [PyData.int 0].length ≤ 100000 := by simp; omega
        have k2 : (l.map bP).length + [PyData.int 1].length ≤ 100000 := by simp; omega
        have k3 : (q.flatMap bothL).length + [lnP (l ++ [false]), lnP (l ++ [true])].length < 100000 := by
          rw [len_both]; simp; omega
        push_cast [q_addT k1, q_addT k2, snoc0, snoc1, k3]
        refine ⟨_, rfl, .val (.dat (lnP l)), ?_⟩
        rw [List.flatMap_append, List.map_append]
        rfl)
      exact ⟨_, rfl, c2, by rw [lines_succ]⟩
    obtain ⟨s2, e2, c2, rfl⟩ := fin _ rfl
    rcases hf with rfl | ⟨rfl, rfl⟩
    · push_cast [e2]
      exact ⟨_, rfl, _, _, _, _, .inl (by rw [List.length_append]; rfl), rfl⟩
    · push_cast [e2]
      exact ⟨_, rfl, _, _, _, _, .inl rfl, rfl⟩)
  rw [List.length_range] at hf
  rcases hf with rfl | ⟨e, _⟩
  · push_cast []
  · have := congrArg List.length e
    simp at this
    omega
/-- how many lines have the worth 0, 1 -/
def zC (m : Nat) (q : Nat → Nat → Bool) : Nat := (linesL m).countP fun l => !Wq m q (bf l)
def oC (m : Nat) (q : Nat → Nat → Bool) : Nat := (linesL m).countP fun l => Wq m q (bf l)
theorem count_0 {α : Type} (xs : List α) (f : α → Bool) : mthop .count (.list (xs.map fun l => .int (bI (f l)))) [.int 0] = some (.int ((xs.countP fun l => !f l : Nat) : Int)) := by
  have := count_ints (xs.map fun l => bI (f l)) 0
  rw [List.map_map, List.countP_map] at this
  rw [show (PyData.int ∘ fun l => bI (f l)) = fun l => PyData.int (bI (f l)) from rfl] at this
  rw [this]
  congr 3
  exact List.countP_congr fun x _ => by simp only [Function.comp, bI_0]
theorem count_1 {α : Type} (xs : List α) (f : α → Bool) : mthop .count (.list (xs.map fun l => .int (bI (f l)))) [.int 1] = some (.int ((xs.countP fun l => f l : Nat) : Int)) := by
  have := count_ints (xs.map fun l => bI (f l)) 1
  rw [List.map_map, List.countP_map] at this
  rw [show (PyData.int ∘ fun l => bI (f l)) = fun l => PyData.int (bI (f l)) from rfl] at this
  rw [this]
  congr 3
  exact List.countP_congr fun x _ => by simp only [Function.comp, bI_1]
theorem lines_le {m : Nat} (m8 : m ≤ 8) : (linesL m).length ≤ 256 := by
  rw [len_lines]
  have : 2 ^ m ≤ 2 ^ 8 := Nat.pow_le_pow_right (by omega) m8
  omega
theorem c_counts_of {m : Nat} (q : Nat → Nat → Bool) (m1 : 1 ≤ m) (m8 : m ≤ 8) : callF tb wf (n + 2) 15 [.dat (iM m m (fb q))] h = .ret (.dat (.tuple [.int (zC m q), .int (oC m q)])) false h := by
  rw [e_counts_of]
  have z2 : (linesL m).length ≤ 100000 := by have := lines_le m8; omega
  push_cast [b_counts_of, List.length_range, c_all_bits wf n h m1 m8, z2]
  generalize hL : lcL _ _ _ _ _ _ _ _ = L
  obtain rfl := lc_gen (g := fun l => .int (bI (Wq m q (bf l)))) hL fun l hl => by
    push_cast [lnP_f (mem_lines.mp hl), c_worth_of wf n h q (bf l) (by omega : m ≤ 1000)]
  push_cast [count_0, count_1]
  rfl
theorem c_q_counts {m : Nat} {q : Nat → Nat → Bool} (Q : IsQ m q) : callF tb wf (n + 6) 16 [.dat (iM m m (fb q))] h = .ret (.dat (.tuple [.int (zC m q), .int (oC m q)])) false h := by
  have n4 := Q.n4
  rw [e_q_counts]
  push_cast [b_q_counts, c_check_q wf n h Q, c_counts_of wf _ h q Q.n1 (by omega)]
end
open PySem Pev
/-- a while loop by a measure: st a is the state at a -/
theorem wl_by {N : En} {t : IT} {b : IB} {α : Type} (st : α → S) (I : α → Prop) (m : α → Nat)
    (h : ∀ a, I a → (m a = 0 ∧ xt N t (st a) = .ok false (st a)) ∨ (∃ a', xt N t (st a) = .ok true (st a) ∧ xb N b (st a) = .nxt (st a') ∧ I a' ∧ m a' < m a)) :
    ∀ (k : Nat) (a : α), I a → m a < k → ∃ a', I a' ∧ m a' = 0 ∧ wl N t b k (st a) = .nxt (st a')
  | 0, a, _, hk => by omega
  | k + 1, a, ha, hk => by
    rw [wl_succ]
    rcases h a ha with ⟨h0, e⟩ | ⟨a', e1, e2, ha', hm⟩
    · exact ⟨a, ha, h0, by rw [e, q_wl1f]⟩
    · obtain ⟨z, hz, hz0, e⟩ := wl_by st I m h k a' ha' (by omega)
      exact ⟨z, hz, hz0, by rw [e1, q_wl1t, e2, q_wl2n, e]⟩
theorem wl_at {N : En} {t : IT} {b : IB} {k : Nat} {s : S} {W : SOut} {α : Type} (hW : wl N t b k s = W) (st : α → S) (I : α → Prop) (m : α → Nat) (a : α) (hs : s = st a) (hI : I a) (hm : m a < k)
    (h : ∀ a, I a → (m a = 0 ∧ xt N t (st a) = .ok false (st a)) ∨ (∃ a', xt N t (st a) = .ok true (st a) ∧ xb N b (st a) = .nxt (st a') ∧ I a' ∧ m a' < m a)) : ∃ a', I a' ∧ m a' = 0 ∧ W = .nxt (st a') := by
  subst hs
  obtain ⟨a', i', m', e⟩ := wl_by st I m h k a hI hm
  exact ⟨a', i', m', hW ▸ e⟩
open PySem Pev
abbrev lstP (l : Ln) : PD := .list (l.map bP)
theorem bit_get {l : Ln} {p : Nat} (h : p < l.length) : l[p]? = some (bit l p) := by
  unfold bit
  rw [List.getD_eq_getElem?_getD, List.getElem?_eq_getElem h]
  rfl
theorem at_bit {l : Ln} {p : Nat} (h : p < l.length) : sub1 (l.map bP) (ixAt (l.map bP) (p : Int)) = some (bP (bit l p)) := subL_at (bit_get h)
theorem zip_clr (row : Ln) (hd : Nat) (a : Ln) (hl : a.length = row.length) : (a.zip row).map (fun p => p.1 ^^ (bit a hd && p.2)) = clr row hd a := by
  unfold clr
  cases hb : bit a hd with
  | true =>
    rw [if_pos rfl, ← zip_xor]
    exact List.map_congr_left fun p _ => by rw [Bool.true_and]
  | false =>
    rw [if_neg (by simp)]
    have : (a.zip row).map (fun p => p.1 ^^ (false && p.2)) = (a.zip row).map (·.1) := List.map_congr_left fun p _ => by rw [Bool.false_and, Bool.xor_false]
    rw [this, List.map_fst_zip (by omega)]
theorem clr_int (x y c : Bool) : (bI x - bI c * bI y) % 2 = bI (x ^^ (c && y)) := by cases x <;> cases y <;> cases c <;> rfl
theorem clr_int2 (x y c : Bool) : (bI x + bI c * bI y) % 2 = bI (x ^^ (c && y)) := by cases x <;> cases y <;> cases c <;> rfl
/-- an elimination under way: the span of c is 2 to the k times the span of left -/
structure Elim (m : Nat) (c left : List Ln) (k : Nat) : Prop where
  row : ∀ r ∈ left, r.length = m
  cnt : (spanL m c).length = 2 ^ k * (spanL m left).length
theorem Elim.start {m : Nat} {c : List Ln} (h : ∀ r ∈ c, r.length = m) : Elim m c c 0 := ⟨h, by simp⟩
theorem Elim.step {m k : Nat} {c left rest : List Ln} {row : Ln} {h : Nat} (E : Elim m c left k) (p : left.Perm (row :: rest)) (hb : bit row h = true) : Elim m c (rest.map (clr row h)) (k + 1) := by
  have hr : row.length = m := E.row row (p.mem_iff.mpr (by simp))
  have hs : ∀ r ∈ rest, r.length = m := fun r q => E.row r (p.mem_iff.mpr (by simp [q]))
  refine ⟨fun r q => ?_, ?_⟩
  · obtain ⟨o, ho, rfl⟩ := List.mem_map.mp q
    exact clr_len hr (hs o ho)
  · have p2 : left.Perm (rest ++ [row]) := p.trans (List.perm_append_comm (l₁ := [row]) (l₂ := rest))
    rw [E.cnt, same_len (Same.perm E.row p2), clear_len hs hr hb, Nat.pow_succ, Nat.mul_assoc]
theorem Elim.zero {m k : Nat} {c left rest : List Ln} (E : Elim m c left k) (p : left.Perm (zeroL m :: rest)) : Elim m c rest k := by
  have hs : ∀ r ∈ rest, r.length = m := fun r q => E.row r (p.mem_iff.mpr (by simp [q]))
  refine ⟨hs, ?_⟩
  have p2 : left.Perm (rest ++ [zeroL m]) := p.trans (List.perm_append_comm (l₁ := [zeroL m]) (l₂ := rest))
  rw [E.cnt, same_len (Same.perm E.row p2), zero_len hs]
theorem erase_perm {α : Type} : ∀ {l : List α} {k : Nat} (hk : k < l.length), l.Perm (l[k] :: l.eraseIdx k)
  | [], k, hk => by simp at hk
  | a :: l, 0, _ => by simp
  | a :: l, k + 1, hk => by
    have ih := erase_perm (l := l) (k := k) (by simpa using hk)
    rw [List.getElem_cons_succ, List.eraseIdx_cons_succ]
    exact (ih.cons a).trans (List.Perm.swap _ _ _)
theorem span_zeros {m : Nat} : ∀ (left : List Ln), (∀ r ∈ left, r = zeroL m) → (spanL m left).length = 1 := by
  intro left
  have key : ∀ left : List Ln, (∀ r ∈ left, r = zeroL m) → left.foldl addRow [zeroL m] = [zeroL m] := by
    intro left
    induction left with
    | nil => intro _; rfl
    | cons r left ih =>
      intro h
      rw [List.foldl_cons, h r (.head _)]
      have : addRow [zeroL m] (zeroL m) = [zeroL m] := by
        simp [addRow, insL, xorL_zero' (zeroL_len m)]
      rw [this]
      exact ih fun r q => h r (.tail _ q)
  intro h
  unfold spanL
  rw [key left h]
  rfl
theorem bits_zero {m : Nat} {r : Ln} (hl : r.length = m) (h : ∀ q, q < m → bit r q = false) : r = zeroL m := by
  apply List.ext_getElem (by rw [hl, zeroL_len])
  intro p h1 h2
  have e := bit_get h1
  rw [List.getElem?_eq_getElem h1, h p (by omega)] at e
  rw [Option.some.inj e]
  simp [zeroL]
theorem zipIdx_mem {α : Type} {l : List α} {p : α × Nat} (h : p ∈ l.zipIdx) : l[p.2]? = some p.1 := by
  have := List.mem_zipIdx_iff_getElem?.mp h
  simpa using this
theorem zipIdx_erase {α : Type} (l : List α) (k : Nat) : ((l.zipIdx).filter fun p => !decide ((p.2 : Int) = (k : Int))).map (·.1) = l.eraseIdx k := by
  have key : ∀ (l : List α) (j k : Nat), ((l.zipIdx j).filter fun p => !decide ((p.2 : Int) = ((k + j : Nat) : Int))).map (·.1) = l.eraseIdx k := by
    intro l
    induction l with
    | nil => intro j k; rfl
    | cons a l ih =>
      intro j k
      rw [List.zipIdx_cons, List.filter_cons]
      cases k with
      | zero =>
        have : decide (((j : Nat) : Int) = ((0 + j : Nat) : Int)) = true := decide_eq_true (by omega)
        simp only [this, Bool.not_true, Bool.false_eq_true, if_false, List.eraseIdx_cons_zero]
        have e : (l.zipIdx (j + 1)).filter (fun p => !decide ((p.2 : Int) = ((0 + j : Nat) : Int))) = l.zipIdx (j + 1) := by
          rw [List.filter_eq_self]
          intro p hp
          have := List.le_snd_of_mem_zipIdx hp
          rw [decide_eq_false (by omega)]
          rfl
        rw [e]
        exact List.zipIdx_map_fst _ _
      | succ k =>
        have : decide (((j : Nat) : Int) = ((k + 1 + j : Nat) : Int)) = false := decide_eq_false (by omega)
        simp only [this, Bool.not_false, if_true, List.map_cons, List.eraseIdx_cons_succ]
        rw [show k + 1 + j = k + (j + 1) by omega, ih (j + 1) k]
  exact key l 0 k
section
variable (wf n : Nat) (h : Hd)
theorem c_back_number2 : callF tb wf (n + 1) 3 [.dat (.int 1), .dat (.int 2)] h = .ret (.dat (.int 1)) false h := by cases h <;> kernel_rfl
theorem c_cleared_by2 {row a : Ln} {p : Nat} (hl : a.length = row.length) (hp : p < a.length) (hm : a.length ≤ 1000) : callF tb wf (n + 1) 5 [.dat (lstP a), .dat (lstP row), .dat (.int p), .dat (.int 2)] h = .ret (.dat (lstP (clr row p a))) true h := by
  have hz : (a.zip row).length ≤ 100000 := by rw [List.length_zip]; omega
  rw [e_cleared_by]
  push_cast [b_cleared_by, zip_map, hz]
  rw [lc_to (fun q => q.1 ^^ (bit a p && q.2)) bP]
  · push_cast [zip_clr row p a hl]
  · intro x _
    push_cast [at_bit hp, bI_lo, bI_hi, clr_int]
theorem row_mod (l : Ln) (g : Bool → PD) (hg : ∀ b, g b = bP b) : l.map g = l.map bP := List.map_congr_left fun b _ => hg b
theorem c_echelon_by2 {m : Nat} {c : List Ln} (hc : c ≠ []) (row : ∀ r ∈ c, r.length = m) (c1 : c.length ≤ 1000) (m1 : m ≤ 1000) : ∃ F : List Ln, (spanL m c).length = 2 ^ F.length ∧ ∃ fr, callF tb wf (n + 2) 4 [.dat (lnsT c), .dat (.int 2)] h = .ret (.dat (.list (F.map lstP))) fr h := by
  obtain ⟨r0, hr0, hs⟩ : ∃ r0, r0.length = m ∧ sub1 (c.map lnP) (ixAt (c.map lnP) 0) = some (lnP r0) := by
    cases c with
    | nil => exact (hc rfl).elim
    | cons r c => exact ⟨r, row r (.head _), subT_0 _ _⟩
  have z1 : ((m : Nat) : Int) ≤ 100000 ∧ (-100000 : Int) ≤ ((m : Nat) : Int) := by omega
  have z2 : c.length ≤ 100000 := by omega
  rw [e_echelon_by]
  push_cast [b_echelon_by, z2]
  generalize hL : lcL _ _ _ _ _ _ _ _ = L
  obtain rfl := lc_gen (g := lstP) hL fun l hl => by
    have z3 : l.length ≤ 100000 := by rw [row l hl]; omega
    push_cast [z3]
    generalize hL : lcL _ _ _ _ _ _ _ _ = L
    obtain rfl := lc_gen (g := bP) hL fun b _ => by push_cast [bI_mod]
    push_cast []
  push_cast [hs, hr0, q_rng1 z1, Int.toNat_natCast, rng_nat]
  generalize hF : fl _ _ _ _ _ = F
  obtain ⟨s', rfl, left, G, w2, a5, a6, a7, a9, E, hz, hl, ⟨hg, hg2⟩, hw2, h5, rfl⟩ := fl_by hF (fun p s => ∃ (left G : List Ln) (w2 a5 a6 a7 a9 : Slot), Elim m c left G.length ∧ (∀ r ∈ left, ∀ q, q < p.length → bit r q = false) ∧ left.length ≤ c.length ∧ ((∀ r ∈ G, r.length = m) ∧ G.length ≤ p.length) ∧ (w2 = .own (.list (left.map lstP)) ∨ w2 = .val (.dat (.list (left.map lstP)))) ∧ nwO (some a5) = true ∧ s = ⟨[.val (.dat (lnsT c)), .val (.dat (.int 2)), w2, .own (.list (G.map lstP)), .emp, a5, a6, a7, .emp, a9, .emp], h⟩) ⟨c, [], _, _, _, _, _, Elim.start row, fun r _ q hq => absurd hq (Nat.not_lt_zero _), Nat.le_refl _, ⟨fun r q => (by cases q), Nat.le_refl _⟩, .inl rfl, rfl, rfl⟩ (fun p x q s e ⟨left, G, w2, a5, a6, a7, a9, E, hz, hl, ⟨hg, hg2⟩, hw2, h5, hs⟩ => by
    subst hs
    have hpx : p.length = x := by
      have h1 := congrArg (fun l => l[p.length]?) e
      simp only [List.getElem?_append_right (Nat.le_refl _), Nat.sub_self, List.getElem?_cons_zero] at h1
      rw [List.getElem?_range (by
        have := congrArg List.length e
        simp at this
        omega)] at h1
      exact Option.some.inj h1
    have hx : x < m := by
      have : x ∈ List.range m := by rw [e]; simp
      exact List.mem_range.mp this
    rw [hpx] at hz hg2
    have z4 : (left.zipIdx).length ≤ 100000 := by rw [List.length_zipIdx]; omega
    have lrow := E.row
    have bt : bP true = .int 1 := rfl
    rcases hw2 with rfl | rfl
    all_goals
      push_cast [enum_map, z4, h5]
      generalize hL : lcL _ _ _ _ _ _ _ _ = L
      obtain rfl := lc_cnd (g := fun q => .int (q.2 : Int)) hL (fun q => bit q.1 x) (fun q hq hc => by
        have hq1 : q.1.length = m := lrow _ (List.mem_of_getElem? (zipIdx_mem hq))
        have hc : bit q.1 x = true := hc
        push_cast [at_bit (l := q.1) (p := x) (by omega), q_nec, q_eqi, bI_0, q_omap, Bool.not_not, hc]) (fun q hq hc => by
        have hq1 : q.1.length = m := lrow _ (List.mem_of_getElem? (zipIdx_mem hq))
        have hc : bit q.1 x = false := hc
        push_cast [at_bit (l := q.1) (p := x) (by omega), q_nec, q_eqi, bI_0, q_omap, Bool.not_not, hc])
      have hf0 : ∀ q ∈ left.zipIdx.filter (fun q => bit q.1 x), q ∈ left.zipIdx ∧ bit q.1 x = true := fun q hq => List.mem_filter.mp hq
      have hf1 : left.zipIdx.filter (fun q => bit q.1 x) = [] → ∀ r ∈ left, bit r x = false := fun hn r hr => by
        obtain ⟨k, hk, rfl⟩ := List.getElem_of_mem hr
        have := List.filter_eq_nil_iff.mp hn (left[k], k) (List.mem_zipIdx_iff_getElem?.mpr (by simp [List.getElem?_eq_getElem hk]))
        simpa using this
      generalize left.zipIdx.filter (fun q => bit q.1 x) = GG at hf0 hf1 ⊢
      cases GG with
      | nil =>
        have g0 : decide ((0 : Int) < (([] : List (Ln × Nat)).length : Int)) = false := rfl
        push_cast [g0]
        refine ⟨_, rfl, left, G, _, _, _, _, _, E, fun r hr q hq => ?_, hl, ⟨hg, ?_⟩, .inr rfl, h5, rfl⟩
        · rw [List.length_append, hpx] at hq
          by_cases eq : q = x
          · rw [eq]; exact hf1 rfl r hr
          · exact hz r hr q (by simp only [List.length_singleton] at hq; omega)
        · rw [List.length_append, hpx]; omega
      | cons q0 rest =>
        have g0 : decide ((0 : Int) < ((q0 :: rest).length : Int)) = true := by simp
        obtain ⟨hm0, hb0⟩ := hf0 q0 (.head _)
        have at0 := zipIdx_mem hm0
        have hk : q0.2 < left.length := (List.getElem?_eq_some_iff.mp at0).1
        have ek : left[q0.2] = q0.1 := Option.some.inj ((List.getElem?_eq_getElem hk).symm.trans at0)
        have l0 : q0.1.length = m := lrow _ (List.mem_of_getElem? at0)
        have s1 : sub1 ((q0 :: rest).map fun q => PyData.int (q.2 : Int)) (ixAt ((q0 :: rest).map fun q => PyData.int (q.2 : Int)) 0) = some (.int (q0.2 : Int)) := subL_0 (enc := fun q : Ln × Nat => PyData.int (q.2 : Int)) _ _
        have s2 : sub1 (left.map lstP) (ixAt (left.map lstP) (q0.2 : Int)) = some (lstP q0.1) := subL_at at0
        have z5 : q0.1.length ≤ 100000 := by omega
        push_cast [g0, s1, s2, at_bit (l := q0.1) (p := x) (by omega), hb0, bt, c_back_number2, z5]
        generalize hL : lcL _ _ _ _ _ _ _ _ = L
        obtain rfl := lc_gen (g := bP) hL fun b _ => by
          push_cast [bI_lo, bI_hi, Int.mul_one, bI_mod]
        push_cast [enum_map, z4]
        generalize hL : lcL _ _ _ _ _ _ _ _ = L
        obtain rfl := lc_cnd (g := fun q => lstP q.1) hL (fun q => !decide ((q.2 : Int) = (q0.2 : Int))) (fun q hq hc => by
          have hc : (!decide ((q.2 : Int) = (q0.2 : Int))) = true := hc
          push_cast [s1, q_nec, q_eqi, q_omap, hc]) (fun q hq hc => by
          have hc : (!decide ((q.2 : Int) = (q0.2 : Int))) = false := hc
          push_cast [s1, q_nec, q_eqi, q_omap, hc])
        have er : ((left.zipIdx.filter fun q => !decide ((q.2 : Int) = (q0.2 : Int))).map fun q => lstP q.1) = (left.eraseIdx q0.2).map lstP := by
          rw [← zipIdx_erase, List.map_map]
          rfl
        have lre : ∀ r ∈ left.eraseIdx q0.2, r.length = m := fun r hr => lrow r (List.mem_of_mem_eraseIdx hr)
        have z6 : (left.eraseIdx q0.2).length ≤ left.length := List.length_eraseIdx_le ..
        have z7 : (left.eraseIdx q0.2).length ≤ 100000 := by omega
        push_cast [er, z7]
        generalize hL : lcL _ _ _ _ _ _ _ _ = L
        obtain ⟨s2, rfl, w5, hw5, rfl⟩ := lc_toI hL (fun s => ∃ w5 : Slot, (w5 = .own (lstP q0.1) ∨ w5 = .val (.dat (lstP q0.1))) ∧ s = ⟨[.val (.dat (lnsT c)), .val (.dat (.int 2)), .val (.dat (.list ((left.eraseIdx q0.2).map lstP))), .own (.list (G.map lstP)), .emp, w5, .val (.dat (iP x)), .own (.list ((q0 :: rest).map fun q => PyData.int (q.2 : Int))), .emp, .val (.dat (.int 1)), .emp], h⟩) (fun r => lstP (clr q0.1 x r)) ⟨_, .inl rfl, rfl⟩ (fun r hr s ⟨w5, hw5, hs⟩ => by
          subst hs
          have lr := lre r hr
          rcases hw5 with rfl | rfl
          all_goals
            push_cast [c_cleared_by2 wf n h (row := q0.1) (a := r) (p := x) (by omega) (by omega) (by omega)]
            exact ⟨_, rfl, _, .inr rfl, rfl⟩)
        have z8 : G.length ≤ 100000 := by omega
        rcases hw5 with rfl | rfl
        all_goals
          push_cast [z8]
          generalize hL : lcL _ _ _ _ _ _ _ _ = L
          obtain ⟨s2, rfl, w5, hw5, rfl⟩ := lc_toI hL (fun s => ∃ w5 : Slot, (w5 = .own (lstP q0.1) ∨ w5 = .val (.dat (lstP q0.1))) ∧ s = ⟨[.val (.dat (lnsT c)), .val (.dat (.int 2)), .own (.list ((left.eraseIdx q0.2).map fun r => lstP (clr q0.1 x r))), .val (.dat (.list (G.map lstP))), .emp, w5, .val (.dat (iP x)), .own (.list ((q0 :: rest).map fun q => PyData.int (q.2 : Int))), .emp, .val (.dat (.int 1)), .emp], h⟩) (fun r => lstP (clr q0.1 x r)) ⟨_, (by first | exact .inl rfl | exact .inr rfl), rfl⟩ (fun r hr s ⟨w5, hw5, hs⟩ => by
            subst hs
            have lr := hg r hr
            rcases hw5 with rfl | rfl
            all_goals
              push_cast [c_cleared_by2 wf n h (row := q0.1) (a := r) (p := x) (by omega) (by omega) (by omega)]
              exact ⟨_, rfl, _, .inr rfl, rfl⟩)
          have z9 : G.length + [lstP q0.1].length ≤ 100000 := by simp only [List.length_singleton]; omega
          have E2 := E.step (row := q0.1) (rest := left.eraseIdx q0.2) (h := x) (by rw [← ek]; exact erase_perm hk) hb0
          have out : ∀ w5, nwO (some w5) = true → ∃ (left' G' : List Ln) (w2 a5 a6 a7 a9 : Slot), Elim m c left' G'.length ∧ (∀ r ∈ left', ∀ q, q < (p ++ [x]).length → bit r q = false) ∧ left'.length ≤ c.length ∧ ((∀ r ∈ G', r.length = m) ∧ G'.length ≤ (p ++ [x]).length) ∧ (w2 = .own (.list (left'.map lstP)) ∨ w2 = .val (.dat (.list (left'.map lstP)))) ∧ nwO (some a5) = true ∧ (⟨[.val (.dat (lnsT c)), .val (.dat (.int 2)), .own (.list ((left.eraseIdx q0.2).map fun r => lstP (clr q0.1 x r))), .own (.list ((G.map fun r => lstP (clr q0.1 x r)) ++ [lstP q0.1])), .emp, w5, .val (.dat (iP x)), .own (.list ((q0 :: rest).map fun q => PyData.int (q.2 : Int))), .emp, .val (.dat (.int 1)), .emp], h⟩ : S) = ⟨[.val (.dat (lnsT c)), .val (.dat (.int 2)), w2, .own (.list (G'.map lstP)), .emp, a5, a6, a7, .emp, a9, .emp], h⟩ := fun w5 hw => by
            refine ⟨(left.eraseIdx q0.2).map (clr q0.1 x), G.map (clr q0.1 x) ++ [q0.1], _, _, _, _, _, by rw [List.length_append, List.length_map]; exact E2, fun r hr q hq => ?_, by rw [List.length_map]; omega, ⟨fun r hr => ?_, by rw [List.length_append, List.length_append, List.length_map, hpx]; simp only [List.length_singleton]; omega⟩, .inl (by rw [List.map_map]; first | done | rfl), hw, by rw [List.map_append, List.map_map]; first | done | rfl⟩
            · obtain ⟨o, ho, rfl⟩ := List.mem_map.mp hr
              rw [List.length_append, hpx] at hq
              by_cases eq : q = x
              · rw [eq]; exact clr_bit l0 (lre o ho) hb0
              · have hq : q < x := by simp only [List.length_singleton] at hq; omega
                have b1 := hz o (List.mem_of_mem_eraseIdx ho) q hq
                have b2 := hz q0.1 (List.mem_of_getElem? at0) q hq
                unfold clr
                split
                · rw [bit_xor ((lre o ho).trans l0.symm), b1, b2]; rfl
                · exact b1
            · rcases List.mem_append.mp hr with hr | hr
              · obtain ⟨o, ho, rfl⟩ := List.mem_map.mp hr
                exact clr_len l0 (hg o ho)
              · simp at hr; rw [hr]; exact l0
          rcases hw5 with rfl | rfl
          all_goals
            push_cast [q_addL (ds := G.map fun r => lstP (clr q0.1 x r)) (es := [lstP q0.1]) (by simpa using z9)]
            exact ⟨_, rfl, out _ rfl⟩)
  rw [List.length_range] at hz hg2
  have z10 := span_zeros (m := m) left fun r hr => bits_zero (E.row r hr) (hz r hr)
  have cnt := E.cnt
  rw [z10, Nat.mul_one] at cnt
  push_cast []
  exact ⟨G, cnt, _, rfl⟩
theorem c_rank_by2 {m : Nat} {c : List Ln} (hc : c ≠ []) (row : ∀ r ∈ c, r.length = m) (c1 : c.length ≤ 1000) (m1 : m ≤ 1000) : ∃ k : Nat, (spanL m c).length = 2 ^ k ∧ callF tb wf (n + 3) 6 [.dat (lnsT c), .dat (.int 2)] h = .ret (.dat (.int k)) false h := by
  obtain ⟨F, hF, fr, e⟩ := c_echelon_by2 wf n h hc row c1 m1
  refine ⟨F.length, hF, ?_⟩
  rw [e_rank_by]
  push_cast [b_rank_by, e]
end
open PySem Pev
/-! the law's own steps -/
def lF : Nat → List Ln
  | 0 => [[]]
  | n + 1 => (lF n).map (fun l => l ++ [false]) ++ (lF n).map (fun l => l ++ [true])
theorem both_perm : ∀ L : List Ln, (L.map (fun l => l ++ [false]) ++ L.map (fun l => l ++ [true])).Perm (L.flatMap bothL)
  | [] => .refl _
  | a :: L => by
    rw [List.map_cons, List.map_cons, List.flatMap_cons]
    show ((a ++ [false]) :: (L.map (fun l => l ++ [false]) ++ (a ++ [true]) :: L.map (fun l => l ++ [true]))).Perm ((a ++ [false]) :: (a ++ [true]) :: L.flatMap bothL)
    refine List.Perm.cons _ (List.perm_middle.trans (List.Perm.cons _ (both_perm L)))
theorem lF_perm : ∀ n, (lF n).Perm (linesL n)
  | 0 => .refl _
  | n + 1 => by
    rw [lines_succ, lF]
    refine (both_perm _).trans ?_
    exact List.Perm.flatMap_right _ (lF_perm n)
theorem lF_len (n : Nat) : (lF n).length = 2 ^ n := by rw [(lF_perm n).length_eq, len_lines]
theorem lF_sort (n : Nat) : sortL (lF n) = linesL n := by
  have nd : (lF n).Nodup := (lF_perm n).nodup_iff.mpr (asc_nodup (asc_lines n))
  exact asc_ext (asc_sortL nd) (asc_lines n) fun x => by rw [mem_sortL]; exact (lF_perm n).mem_iff
theorem lF_mem {n : Nat} {l : Ln} (h : l ∈ lF n) : l.length = n := mem_lines.mp ((lF_perm n).mem_iff.mp h)
theorem lns_f {ys : List Ln} {m w : Nat} (hl : ys.length = m) (hr : ∀ y ∈ ys, y.length = w) : lnsT ys = iM m w (fb fun i j => bit (ys.getD i []) j) := by
  show PyData.tuple _ = PyData.tuple _
  congr 1
  apply List.ext_getElem
  · simp [hl]
  · intro i h1 h2
    have hi : i < ys.length := by simpa using h1
    rw [List.getElem_map, List.getElem_map, List.getElem_range]
    have e : ys.getD i [] = ys[i] := by rw [List.getD_eq_getElem?_getD, List.getElem?_eq_getElem hi]; rfl
    show lnP ys[i] = iL w fun j => bI (bit (ys.getD i []) j)
    rw [e]
    exact lnP_f (hr _ (List.getElem_mem hi))
theorem Pq_xor (q : Nat → Nat → Bool) (i j : Nat) : (q i j ^^ q j i) = Pq q i j := by
  unfold Pq
  by_cases e : i = j
  · subst e; simp
  · rw [decide_eq_false e]; rfl
section
variable (wf n : Nat)
theorem c_law_linesQ {m : Nat} (h : Hd) (m1 : 1 ≤ m) (m8 : m ≤ 8) : callF tb wf (n + 1) 30 [.dat (.int m)] h = .ret (.dat (.list ((linesL m).map lnP))) true h := by
  rw [e_law_lines]
  have z1 : ((m : Nat) : Int) ≤ 100000 ∧ (-100000 : Int) ≤ ((m : Nat) : Int) := by omega
  push_cast [b_law_lines, q_rng1 z1, Int.toNat_natCast, rng_n]
  generalize hF : fl _ _ _ _ _ = F
  obtain ⟨s', rfl, a, rfl⟩ := fl_rng hF (fun p s => ∃ a, s = ⟨[.val (.dat (.int m)), .own (.list ((lF p).map lnP)), a, .emp], h⟩) ⟨.emp, rfl⟩ fun p hp s ⟨a, hs⟩ => by
    subst hs
    have hl : (lF p).length ≤ 256 := by
      rw [lF_len]
      have : 2 ^ p ≤ 2 ^ 8 := Nat.pow_le_pow_right (by omega) (by omega)
      omega
    have z2 : (lF p).length ≤ 100000 := by omega
    push_cast [z2]
    generalize hL : lcL _ _ _ _ _ _ _ _ = L
    obtain rfl := lc_gen (g := fun l => lnP (l ++ [false])) hL fun l hl => by
      have k1 : (l.map bP).length + [PyData.int 0].length ≤ 100000 := by simp [lF_mem hl]; omega
      push_cast [q_addT k1, snoc0]
    push_cast [z2]
    generalize hL : lcL _ _ _ _ _ _ _ _ = L
    obtain rfl := lc_gen (g := fun l => lnP (l ++ [true])) hL fun l hl => by
      have k1 : (l.map bP).length + [PyData.int 1].length ≤ 100000 := by simp [lF_mem hl]; omega
      push_cast [q_addT k1, snoc1]
    have e : binop .add (.list ((lF p).map fun l => lnP (l ++ [false]))) (.list ((lF p).map fun l => lnP (l ++ [true]))) = some (.list ((lF (p + 1)).map lnP), true) := by
      rw [q_addL (by simp; omega), lF, List.map_append, List.map_map, List.map_map]
      rfl
    push_cast [e]
    exact ⟨_, rfl, _, rfl⟩
  have hl : (lF m).length ≤ 100000 := by
    rw [lF_len]
    have : 2 ^ m ≤ 2 ^ 8 := Nat.pow_le_pow_right (by omega) (by omega)
    omega
  have srt : bltop .sorted [.list ((lF m).map lnP)] = some (.list ((linesL m).map lnP), true) := by
    obtain ⟨s1, s2⟩ := sorted_lns (xs := lF m) (fun w hw e => by have := lF_mem hw; rw [e] at this; simp at this; omega) hl
    show (if sortOk _ then _ else _) = _
    rw [if_pos s1, s2, lF_sort]
  push_cast [srt]
theorem c_law_rowsB {hd : List PD} (H : HandOk hd) {m w : Nat} (nb : List Bool) (hne : nb ≠ []) (hl : nb.length ≤ 1000) (m1 : m ≤ 1000) (w1 : w ≤ 1000) : ∃ (t : Nat → Nat → Bool) (hd' : List PD), HandOk hd' ∧ callF tb wf (n + 3) 26 [.hnd, .dat (.int m), .dat (.int w), .dat (.list (nb.map bP))] (some hd) = .ret (.dat (iM m w (fb t))) false (some hd') := by
  rw [e_law_rows]
  have z1 : (m : Int) ≤ 100000 ∧ (-100000 : Int) ≤ (m : Int) := by omega
  have z2 : (w : Int) ≤ 100000 ∧ (-100000 : Int) ≤ (w : Int) := by omega
  have z3 : m ≤ 100000 := by omega
  have z4 : w ≤ 100000 := by omega
  push_cast [b_law_rows, q_rng1 z1, Int.toNat_natCast, rng_n, List.length_range, z3]
  generalize hL : lcL _ _ _ _ _ _ _ _ = L
  obtain ⟨ys, s', rfl, ⟨hd1, H1, rfl⟩, hy, hl⟩ := lc_by hL (fun s => ∃ hd, HandOk hd ∧ s = ⟨[.val .hnd, .val (.dat (.int m)), .val (.dat (.int w)), .val (.dat (.list (nb.map bP))), .emp, .emp], some hd⟩) (fun l : Ln => l.length = w) lnP ⟨hd, H, rfl⟩ fun x hx s ⟨hd, H, hs⟩ => by
    subst hs
    push_cast [q_rng1 z2, Int.toNat_natCast, rng_n, List.length_range, z4]
    generalize hG : lcL _ _ _ _ _ _ _ _ = G
    obtain ⟨l, hd', H', hl, rfl⟩ := bits_by (i := 0) hG H fun y hy hd H => by
      obtain ⟨b, hd', H', _, e⟩ := c_any wf n H bP hne (by omega)
      refine ⟨b, hd', H', ?_⟩
      push_cast [e]
    push_cast []
    exact ⟨l, _, rfl, by simpa using hl, hd', H', rfl⟩
  rw [List.length_range] at hl
  push_cast []
  rw [show PyData.tuple (ys.map lnP) = _ from lns_f hl hy]
  exact ⟨_, hd1, H1, rfl⟩
theorem q_low (t : Nat → Nat → Bool) {m i : Nat} (hi : i ≤ m) : (List.replicate i [PyData.int 0]).flatten ++ ((List.range m).map fun j => PyData.int (bI (t i j))).drop i = (List.range m).map fun j => PyData.int (bI (!decide (j < i) && t i j)) := by
  have e0 : (List.replicate i [PyData.int 0]).flatten = List.replicate i (PyData.int 0) := by simp
  rw [e0]
  apply List.ext_getElem
  · simp; omega
  · intro j h1 h2
    have hj : j < m := by simpa using h2
    rw [List.getElem_append]
    by_cases c : j < i
    · rw [dif_pos (by simpa using c), List.getElem_replicate, List.getElem_map, List.getElem_range, decide_eq_true c]
      rfl
    · rw [dif_neg (by simpa using c)]
      simp [c]
      congr 2
      congr 1
      omega
theorem c_law_q {hd : List PD} (H : HandOk hd) : ∃ (m : Nat) (q : Nat → Nat → Bool) (hd' : List PD), HandOk hd' ∧ IsQ m q ∧ callF tb wf (n + 4) 31 [.hnd, .dat (.int 4)] (some hd) = .ret (.dat (iM m m (fb q))) false (some hd') := by
  obtain ⟨d, hd1, H1, hd4, e1⟩ := c_draw wf (n + 2) H (m := 4) (by omega) (by omega)
  have e1 : callF tb wf (n + 3) 24 [.hnd, .dat (.int 4)] (some hd) = .ret (.dat (.int d)) false (some hd1) := e1
  have ed : (1 : Int) + (d : Int) = ((d + 1 : Nat) : Int) := by omega
  obtain ⟨nb, hd2, H2, hnb, e2⟩ := c_any wf (n + 1) H1 (fun l : List Bool => PyData.list (l.map bP)) (xs := [[false, true], [false, false, true], [true]]) (by simp) (by simp)
  have e2 : callF tb wf (n + 3) 25 [.hnd, .dat (.list [.list [.int 0, .int 1], .list [.int 0, .int 0, .int 1], .list [.int 1]])] (some hd1) = .ret (.dat (.list (nb.map bP))) false (some hd2) := e2
  have n0 : nb ≠ [] ∧ nb.length ≤ 1000 := by
    simp only [List.mem_cons, List.not_mem_nil, or_false] at hnb
    rcases hnb with rfl | rfl | rfl <;> exact ⟨by simp, by simp⟩
  obtain ⟨t, hd3, H3, e3⟩ := c_law_rowsB wf n H2 (m := d + 1) (w := d + 1) nb n0.1 n0.2 (by omega) (by omega)
  refine ⟨d + 1, fun i j => !decide (j < i) && t i j, hd3, H3, ⟨by omega, by omega, fun i j h => by simp only [h, decide_true, Bool.not_true, Bool.false_and]⟩, ?_⟩
  have z3 : d + 1 ≤ 100000 := by omega
  rw [e_law_q]
  push_cast [b_law_q, e1, ed, e2, e3, enum_rng, List.length_range, z3]
  generalize hL : lcL _ _ _ _ _ _ _ _ = L
  obtain rfl := lc_rng hL fun i hi => by
    have z4 : [PyData.int 0] ≠ [] ∧ [PyData.int 0].length ≤ 1000 ∧ (0 : Int) ≤ (i : Int) ∧ (i : Int) ≤ 1000 := ⟨by simp, by simp, by omega, by omega⟩
    have z5 : (List.replicate i [PyData.int 0]).flatten.length + (((List.range (d + 1)).map fun j => PyData.int (bI (t i j))).drop i).length ≤ 100000 := by simp; omega
    push_cast [q_mulT z4, Int.toNat_natCast, q_slcT, cut_from _ _ (show i ≤ ((List.range (d + 1)).map fun j => PyData.int (bI (t i j))).length by simp; omega), q_addT z5, q_low t (Nat.le_of_lt hi)]
    exact rfl
  push_cast []
theorem Wq_all {m : Nat} {q : Nat → Nat → Bool} (U : Upp q) (x : Nat → Bool) : (sumN m fun i => sumN m fun j => bI ((q i j && x i) && x j)) % 2 = bI (Wq m q x) := by
  refine xrs_sum fun i _ => xrs_sum fun j _ => ?_
  by_cases e : i ≤ j
  · rw [decide_eq_true e, Bool.true_and, Bool.and_assoc]
    exact bI_mod _
  · rw [decide_eq_false e, Bool.false_and, U i j (by omega)]
    rfl
theorem c_law_worth {m : Nat} {q : Nat → Nat → Bool} (U : Upp q) (x : Nat → Bool) (m1 : m ≤ 1000) (h : Hd) : callF tb wf (n + 1) 32 [.dat (iM m m (fb q)), .dat (iL m (xb' x))] h = .ret (.dat (.int (bI (Wq m q x)))) false h := by
  have z1 : (m : Int) ≤ 100000 ∧ (-100000 : Int) ≤ (m : Int) := by omega
  have z2 : m ≤ 100000 := by omega
  rw [e_law_worth]
  push_cast [b_law_worth, enum_rng]
  generalize hF : fl _ _ _ _ _ = F
  obtain ⟨s', rfl, a, b, rfl⟩ := fl_rng hF (fun p s => ∃ a b, s = ⟨[.val (.dat (iM m m (fb q))), .val (.dat (iL m (xb' x))), .val (.dat (.int (sumN p fun i => sumN m fun j => bI ((q i j && x i) && x j)))), a, b, .emp], h⟩) ⟨_, _, rfl⟩ fun i hi s ⟨a, b, hs⟩ => by
    subst hs
    push_cast [List.length_range, q_rng1 z1, Int.toNat_natCast, rng_n, z2]
    generalize hL : lcL _ _ _ _ _ _ _ _ = L
    obtain rfl := lc_rng hL fun j hj => by
      push_cast [atr hi, atr hj, bI_lo, bI_hi, bI_mul]
      exact rfl
    push_cast [sum_rl]
    exact ⟨_, rfl, _, _, rfl⟩
  push_cast [Wq_all U]
theorem c_law_pairs_of {m : Nat} (q : Nat → Nat → Bool) (m0 : 0 < m) (m1 : m ≤ 1000) (h : Hd) : callF tb wf (n + 2) 35 [.dat (iM m m (fb q))] h = .ret (.dat (iM m m (fb (Pq q)))) false h := by
  have z2 : m ≤ 100000 := by omega
  rw [e_law_pairs_of]
  push_cast [b_law_pairs_of, c_law_turned wf n h (fb q) m0 m1 m1, zip_rng, List.length_range, z2]
  generalize hL : lcL _ _ _ _ _ _ _ _ = L
  obtain rfl := lc_rng hL fun i hi => by
    push_cast [zip_rng, List.length_range, z2]
    generalize hL : lcL _ _ _ _ _ _ _ _ = L
    obtain rfl := lc_rng hL fun j hj => by
      push_cast []
      exact rfl
    push_cast []
    exact rfl
  have e : (iM m m fun i j => (bI (q i j) + bI (q j i)) % 2) = iM m m (fb (Pq q)) := by
    show PyData.tuple _ = PyData.tuple _
    congr 1
    refine List.map_congr_left fun i _ => ?_
    congr 1
    refine List.map_congr_left fun j _ => ?_
    show PyData.int ((bI (q i j) + bI (q j i)) % 2) = PyData.int (bI (Pq q i j))
    rw [bI_add2, Pq_xor]
  push_cast [c_law_mod_l wf n h (fun i j => bI (q i j) + bI (q j i)) m1 m1, e]
theorem zip_pair {l : Ln} (f : Bool → PD) : True := trivial
theorem head_of {l : Ln} : (l.zipIdx.filter fun q => q.1) = [] → ∀ p, bit l p = false := fun hn p => by
  unfold bit
  rw [List.getD_eq_getElem?_getD]
  cases hp : l[p]? with
  | none => rfl
  | some b =>
    have := List.filter_eq_nil_iff.mp hn (b, p) (List.mem_zipIdx_iff_getElem?.mpr hp)
    simpa using this
theorem rank_lem {m : Nat} {c left : List Ln} {k : Nat} (E : Elim m c left k) (h : left = []) : (spanL m c).length = 2 ^ k := by
  have := E.cnt
  rw [h] at this
  rw [this]
  simp [spanL]
theorem c_law_rank_two {m : Nat} {c : List Ln} (row : ∀ r ∈ c, r.length = m) (c1 : c.length ≤ 1000) (m1 : m ≤ 1000) (hw : c.length < wf) (h : Hd) : ∃ k : Nat, (spanL m c).length = 2 ^ k ∧ callF tb wf (n + 1) 34 [.dat (lnsT c)] h = .ret (.dat (.int k)) false h := by
  have z2 : c.length ≤ 100000 := by omega
  rw [e_law_rank_two]
  push_cast [b_law_rank_two, z2]
  generalize hL : lcL _ _ _ _ _ _ _ _ = L
  obtain rfl := lc_gen (g := lstP) hL fun l hl => by push_cast []
  push_cast []
  generalize hW : wl _ _ _ _ _ = W
  obtain ⟨⟨left, k, a3, a4, a7⟩, ⟨E, hl, h3⟩, h0, rfl⟩ := wl_at hW (fun a : List Ln × Nat × Slot × Slot × Slot => ⟨[.val (.dat (lnsT c)), .own (.list (a.1.map lstP)), .val (.dat (.int (a.2.1 : Int))), a.2.2.1, a.2.2.2.1, .emp, .emp, a.2.2.2.2, .emp, .emp], h⟩) (fun a => Elim m c a.1 a.2.1 ∧ a.1.length ≤ c.length ∧ nwO (some a.2.2.1) = true) (fun a => a.1.length) (c, 0, .emp, .emp, .emp) rfl ⟨Elim.start row, Nat.le_refl _, rfl⟩ hw fun ⟨left, k, a3, a4, a7⟩ ⟨E, hl, h3⟩ => by
    dsimp only at E hl h3 ⊢
    rcases List.eq_nil_or_concat left with rfl | ⟨rest, row', el⟩
    · left
      refine ⟨rfl, ?_⟩
      have g0 : decide ((0 : Int) < (([] : List PD).length : Int)) = false := rfl
      push_cast [List.map_nil, g0]
    · right
      rw [List.concat_eq_append] at el
      subst el
      have lr := E.row row' (by simp)
      have lre : ∀ r ∈ rest, r.length = m := fun r hr => E.row r (by simp [hr])
      have hl2 : rest.length + 1 ≤ c.length := by simpa using hl
      have pm : (rest ++ [row']).Perm (row' :: rest) := List.perm_append_comm (l₁ := rest) (l₂ := [row'])
      have g0 : decide ((0 : Int) < ((rest ++ [row']).length : Int)) = true := by simp
      have gl : ((rest ++ [row']).map lstP).getLast? = some (lstP row') := by rw [List.map_append]; simp
      have gd : ((rest ++ [row']).map lstP).dropLast = rest.map lstP := by rw [List.map_append]; simp
      have z4 : (row'.zipIdx).length ≤ 100000 := by rw [List.length_zipIdx]; omega
      have body : ∃ a', xb (EN tb wf n nB) (match b_law_rank_two with | .cons _ (.cons (.whl _ b) _) => b | b => b) ⟨[.val (.dat (lnsT c)), .own (.list ((rest ++ [row']).map lstP)), .val (.dat (.int (k : Int))), a3, a4, .emp, .emp, a7, .emp, .emp], h⟩ = .nxt ((fun a : List Ln × Nat × Slot × Slot × Slot => ⟨[.val (.dat (lnsT c)), .own (.list (a.1.map lstP)), .val (.dat (.int (a.2.1 : Int))), a.2.2.1, a.2.2.2.1, .emp, .emp, a.2.2.2.2, .emp, .emp], h⟩) a') ∧ (Elim m c a'.1 a'.2.1 ∧ a'.1.length ≤ c.length ∧ nwO (some a'.2.2.1) = true) ∧ a'.1.length < (rest ++ [row']).length := by
        unfold b_law_rank_two
        push_cast [q_pop1 gl, gd, enum_map, z4]
        generalize hL : lcL _ _ _ _ _ _ _ _ = L
        obtain rfl := lc_cnd (g := fun q => .int (q.2 : Int)) hL (fun q => q.1) (fun q hq hc => by
          have hc : q.1 = true := hc
          push_cast [q_eqi, bI_1, hc]) (fun q hq hc => by
          have hc : q.1 = false := hc
          push_cast [q_eqi, bI_1, hc])
        have hf0 : ∀ q ∈ row'.zipIdx.filter (fun q => q.1), row'[q.2]? = some q.1 ∧ q.1 = true := fun q hq => ⟨zipIdx_mem (List.mem_filter.mp hq).1, (List.mem_filter.mp hq).2⟩
        have hf1 := head_of (l := row')
        generalize row'.zipIdx.filter (fun q => q.1) = GG at hf0 hf1 ⊢
        cases GG with
        | nil =>
          have g1 : decide ((0 : Int) < (([] : List (Bool × Nat)).length : Int)) = false := rfl
          have ez : row' = zeroL m := bits_zero lr fun q _ => hf1 rfl q
          push_cast [g1]
          refine ⟨(rest, k, _, _, _), rfl, ⟨E.zero (rest := rest) (by rw [← ez]; exact pm), ?_, rfl⟩, ?_⟩
          · show rest.length ≤ _; omega
          · simp
        | cons q0 more =>
          have g1 : decide ((0 : Int) < ((q0 :: more).length : Int)) = true := by simp
          obtain ⟨at0, b0⟩ := hf0 q0 (.head _)
          have hk : q0.2 < row'.length := (List.getElem?_eq_some_iff.mp at0).1
          have hb : bit row' q0.2 = true := by
            unfold bit
            rw [List.getD_eq_getElem?_getD, at0]
            exact b0
          have s1 : sub1 ((q0 :: more).map fun q => PyData.int (q.2 : Int)) (ixAt ((q0 :: more).map fun q => PyData.int (q.2 : Int)) 0) = some (.int (q0.2 : Int)) := subL_0 (enc := fun q : Bool × Nat => PyData.int (q.2 : Int)) _ _
          have ek : (k : Int) + 1 = ((k + 1 : Nat) : Int) := by omega
          have z5 : rest.length ≤ 100000 := by omega
          push_cast [g1, s1, ek, z5]
          generalize hL : lcL _ _ _ _ _ _ _ _ = L
          obtain rfl := lc_gen (g := fun r => lstP (clr row' q0.2 r)) hL fun r hr => by
            have l1 := lre r hr
            have z6 : (r.zip row').length ≤ 100000 := by rw [List.length_zip]; omega
            push_cast [zip_map, z6]
            rw [lc_to (fun q => q.1 ^^ (bit r q0.2 && q.2)) bP]
            · push_cast [zip_clr row' q0.2 r (by omega)]
            · intro q _
              push_cast [at_bit (l := r) (p := q0.2) (by omega), bI_lo, bI_hi, clr_int2]
          push_cast []
          refine ⟨(rest.map (clr row' q0.2), k + 1, _, _, _), by rw [List.map_map]; first | done | rfl, ⟨E.step (rest := rest) pm hb, ?_, rfl⟩, ?_⟩
          · show (rest.map _).length ≤ _
            rw [List.length_map]; omega
          · simp
      obtain ⟨a', e1, e2, e3⟩ := body
      refine ⟨a', ?_, e1, e2, e3⟩
      push_cast [List.length_map, g0]
  have hn : left = [] := List.eq_nil_of_length_eq_zero h0
  refine ⟨k, rank_lem E hn, ?_⟩
  push_cast []
end
open PySem Pev
theorem range_snoc {α : Type} (f : Nat → α) (n : Nat) : (List.range n).map f ++ [f n] = (List.range (n + 1)).map f := by
  rw [List.range_succ, List.map_append]
  rfl
theorem setR {f : Nat → PD} {m i : Nat} {d : PD} (hi : i < m) : setop (.list ((List.range m).map f)) (.int (i : Int)) d = some (.list ((List.range m).map fun j => if j = i then d else f j)) := by
  show (ixAt ((List.range m).map f) (i : Int)).map _ = _
  rw [ix_nat (by simpa using hi), Option.map_some]
  congr 2
  apply List.ext_getElem
  · simp
  · intro j h1 h2
    rw [List.getElem_set]
    simp only [List.getElem_map, List.getElem_range]
    by_cases e : i = j
    · rw [if_pos e, if_pos e.symm]
    · rw [if_neg e, if_neg fun z => e z.symm]
/-- the rank by 2 of a square -/
def rkM (m : Nat) (p : Nat → Nat → Bool) : Nat := Nat.log2 (spanL m (rowsF m p)).length
theorem rk_of {m k : Nat} {p : Nat → Nat → Bool} (h : (spanL m (rowsF m p)).length = 2 ^ k) : k = rkM m p := by
  unfold rkM
  rw [h, Nat.log2_two_pow]
theorem rowsF_n (m : Nat) (p : Nat → Nat → Bool) : (rowsF m p).length = m := by unfold rowsF; rw [List.length_map, List.length_range]
theorem eqv_self : ∀ (n : Nat) (d : PD), shal n d = true → PyData.eqv d d = true
  | _, .none, _ => by rw [PyData.eqv]
  | _, .bool b, _ => by rw [PyData.eqv]; simp
  | _, .int i, _ => by rw [eqv_int]; simp
  | _, .str x, _ => by rw [PyData.eqv]; simp
  | 0, .list _, h => by simp [shal] at h
  | 0, .tuple _, h => by simp [shal] at h
  | 0, .dict _, h => by simp [shal] at h
  | n + 1, .dict _, h => by simp [shal] at h
  | n + 1, .list xs, h => by
    rw [shal, List.all_eq_true] at h
    rw [PyData.eqv]
    have key : ∀ ys : List PD, (∀ y ∈ ys, y ∈ xs) → PyData.eqvAll ys ys = true := by
      intro ys
      induction ys with
      | nil => intro _; rw [PyData.eqvAll]
      | cons y ys ih =>
        intro k
        rw [PyData.eqvAll, eqv_self n y (h y (k y (.head _))), ih fun z hz => k z (.tail _ hz)]
        rfl
    exact key xs fun _ q => q
  | n + 1, .tuple xs, h => by
    rw [shal, List.all_eq_true] at h
    rw [PyData.eqv]
    have key : ∀ ys : List PD, (∀ y ∈ ys, y ∈ xs) → PyData.eqvAll ys ys = true := by
      intro ys
      induction ys with
      | nil => intro _; rw [PyData.eqvAll]
      | cons y ys ih =>
        intro k
        rw [PyData.eqvAll, eqv_self n y (h y (k y (.head _))), ih fun z hz => k z (.tail _ hz)]
        rfl
    exact key xs fun _ q => q
theorem eq_self {d : PD} (h : shal 40 d = true) : eqop d d = some true := by rw [eq_ok h h, eqv_self 40 d h]
theorem rokL {m : Nat} (x : Nat → Bool) (hm : m ≤ 300) : ROk 903 1 (iL m (xb' x)) := by
  have := ROk.tup (k := 1) (n := 0) (m := 300) (xs := (List.range m).map fun i => PyData.int (bI (x i))) (fun d hd => by
    obtain ⟨i, _, rfl⟩ := List.mem_map.mp hd
    exact .bit _) (by simpa using hm)
  exact this
theorem rokM {m w : Nat} (q : Nat → Nat → Bool) (hm : m ≤ 300) (hw : w ≤ 300) : ROk 271503 2 (iM m w (fb q)) := by
  have := ROk.tup (k := 903) (n := 1) (m := 300) (xs := (List.range m).map fun i => iL w (xb' (q i))) (fun d hd => by
    obtain ⟨i, _, rfl⟩ := List.mem_map.mp hd
    exact rokL _ hw) (by simpa using hm)
  exact this
theorem rokN {k : Nat} (hk : k < 300) : ROk 3 0 (.int (k : Int)) := by
  refine ⟨rfl, ?_, by simp only [PyData.hasDict], ?_⟩
  · have : ∀ k, k < 300 → PyData.showable (.int ((k : Nat) : Int)) = true := by decide +kernel
    exact this k hk
  · have : ∀ k, k < 300 → (PyData.shown (.int ((k : Nat) : Int))).length ≤ 3 := by decide +kernel
    exact this k hk
theorem rokP {a b : Nat} (ha : a < 300) (hb : b < 300) : ROk 13 1 (.tuple [.int (a : Int), .int (b : Int)]) :=
  ROk.tup (k := 3) (n := 0) (m := 2) (fun d hd => by
    simp only [List.mem_cons, List.not_mem_nil, or_false] at hd
    rcases hd with rfl | rfl
    · exact rokN ha
    · exact rokN hb) (Nat.le_refl _)
section
variable (wf n : Nat) (h : Hd)
theorem c_paired {m : Nat} (p : Nat → Nat → Bool) (x y : Nat → Bool) (m1 : m ≤ 1000) : callF tb wf (n + 1) 19 [.dat (iM m m (fb p)), .dat (iL m (xb' x)), .dat (iL m (xb' y))] h = .ret (.dat (.int (bI (Bq m p x y)))) false h := by
  have z1 : (m : Int) ≤ 100000 ∧ (-100000 : Int) ≤ (m : Int) := by omega
  have z2 : m ≤ 100000 := by omega
  rw [e_paired]
  push_cast [b_paired, List.length_range, q_lrng z1, Int.toNat_natCast, rng_n, z2]
  generalize hL : lcL _ _ _ _ _ _ _ _ = L
  obtain rfl := lc_rng hL fun i hi => by
    push_cast [List.length_range, z2]
    generalize hL : lcL _ _ _ _ _ _ _ _ = L
    obtain rfl := lc_rng hL fun j hj => by
      push_cast [atr hi, atr hj, bI_lo, bI_hi, bI_mul]
      exact rfl
    push_cast [sum_rl]
    exact rfl
  have e : (sumN m fun i => sumN m fun j => bI ((p i j && x i) && y j)) % 2 = bI (Bq m p x y) := by
    refine xrs_sum fun i _ => xrs_sum fun j _ => ?_
    rw [bI_mod, Bool.and_assoc]
  push_cast [sum_rl, e]
theorem c_columns_of {m : Nat} (t : Nat → Nat → Bool) (m1 : m ≤ 1000) : callF tb wf (n + 1) 21 [.dat (iM m m (fb t))] h = .ret (.dat (.list ((List.range m).map fun j => iL m (xb' fun i => t i j)))) true h := by
  have z1 : (m : Int) ≤ 100000 ∧ (-100000 : Int) ≤ (m : Int) := by omega
  have z2 : m ≤ 100000 := by omega
  rw [e_columns_of]
  push_cast [b_columns_of, List.length_range, q_rng1 z1, Int.toNat_natCast, rng_n, z2]
  generalize hL : lcL _ _ _ _ _ _ _ _ = L
  obtain rfl := lc_rng hL fun j hj => by
    push_cast [List.length_range, z2]
    generalize hL : lcL _ _ _ _ _ _ _ _ = L
    obtain rfl := lc_rng hL fun i hi => by
      push_cast [atr hj]
      exact rfl
    push_cast []
    exact rfl
  push_cast []
theorem c_by_columns {m : Nat} (q t : Nat → Nat → Bool) (m1 : m ≤ 1000) : callF tb wf (n + 2) 20 [.dat (iM m m (fb q)), .dat (.list ((List.range m).map fun j => iL m (xb' fun i => t i j)))] h = .ret (.dat (iM m m (fb (byQ m q t)))) false h := by
  have z1 : (m : Int) ≤ 100000 ∧ (-100000 : Int) ≤ (m : Int) := by omega
  have z2 : m ≤ 100000 := by omega
  rw [e_by_columns]
  push_cast [b_by_columns, c_pairs_of wf n h q m1, List.length_range, q_rng1 z1, Int.toNat_natCast, rng_n]
  generalize hF : fl _ _ _ _ _ = F
  obtain ⟨s', rfl, a, b, rfl⟩ := fl_rng hF (fun p s => ∃ a b, s = ⟨[.val (.dat (iM m m (fb q))), .val (.dat (.list ((List.range m).map fun j => iL m (xb' fun i => t i j)))), .val (.dat (iM m m (fb (Pq q)))), .val (.dat (.int (m : Int))), .own (.list ((List.range p).map fun i => iL m (xb' (byQ m q t i)))), a, b, .emp], h⟩) ⟨_, _, rfl⟩ fun i hi s ⟨a, b, hs⟩ => by
    subst hs
    have z3 : i < 100000 := by omega
    push_cast [q_rng1 z1, Int.toNat_natCast, rng_n, List.length_range, z2]
    generalize hL : lcL _ _ _ _ _ _ _ _ = L
    obtain rfl := lc_rng (g := fun j => .int (bI (if i < j then Bq m (Pq q) (fun k => t k i) (fun k => t k j) else false))) hL fun j hj => by
      by_cases e : (i : Int) < (j : Int)
      · push_cast [decide_eq_true e, atr hi, atr hj, c_paired wf _ h (Pq q) _ _ m1, if_pos (show i < j by omega)]
      · push_cast [decide_eq_false e, if_neg (show ¬ i < j by omega)]
        rfl
    push_cast [atr hi, c_worth_of wf _ h q _ m1]
    have er : ((List.range m).map fun j => if j = i then PyData.int (bI (Wq m q fun k => t k i)) else PyData.int (bI (if i < j then Bq m (Pq q) (fun k => t k i) (fun k => t k j) else false))) = (List.range m).map fun j => PyData.int (bI (byQ m q t i j)) := List.map_congr_left fun j _ => by
      unfold byQ
      by_cases e : j = i
      · simp only [if_pos e, if_pos e.symm]
      · simp only [if_neg e, if_neg (fun z : i = j => e z.symm)]
    push_cast [setR hi, er, List.length_map, List.length_range, z3, range_snoc (fun i => iL m (xb' (byQ m q t i)))]
    exact ⟨_, rfl, _, _, rfl⟩
  push_cast []
theorem c_q_by {m : Nat} {q : Nat → Nat → Bool} (Q : IsQ m q) (t : Nat → Nat → Bool) : callF tb wf (n + 6) 22 [.dat (iM m m (fb q)), .dat (iM m m (fb t))] h = .ret (.dat (iM m m (fb (byQ m q t)))) false h := by
  have n4 := Q.n4
  rw [e_q_by]
  push_cast [b_q_by, c_check_q wf n h Q, List.length_range, c_is_bit_squareF wf _ h t (by omega : m ≤ 1000), c_columns_of wf _ h t (by omega : m ≤ 1000), c_by_columns wf _ h q t (by omega : m ≤ 1000)]
theorem c_rank_M {m : Nat} (p : Nat → Nat → Bool) (m0 : 0 < m) (m1 : m ≤ 1000) : callF tb wf (n + 3) 6 [.dat (iM m m (fb p)), .dat (.int 2)] h = .ret (.dat (.int (rkM m p : Nat))) false h := by
  obtain ⟨k, hk, e⟩ := c_rank_by2 wf n h (c := rowsF m p) (fun z => by have := congrArg List.length z; rw [rowsF_n] at this; simp at this; omega) (rowsF_len m p) (by rw [rowsF_n]; exact m1) m1
  rw [← rowsF_P, e, rk_of hk]
theorem c_law_rank_M {m : Nat} (p : Nat → Nat → Bool) (m1 : m ≤ 1000) (hw : m < wf) : callF tb wf (n + 1) 34 [.dat (iM m m (fb p))] h = .ret (.dat (.int (rkM m p : Nat))) false h := by
  obtain ⟨k, hk, e⟩ := c_law_rank_two wf n (c := rowsF m p) (rowsF_len m p) (by rw [rowsF_n]; exact m1) m1 (by rw [rowsF_n]; exact hw) h
  rw [← rowsF_P, e, rk_of hk]
theorem c_marks_of {m : Nat} (q : Nat → Nat → Bool) (m0 : 1 ≤ m) (m8 : m ≤ 8) : callF tb wf (n + 4) 17 [.dat (iM m m (fb q))] h = .ret (.dat (.tuple [.int (rkM m (Pq q) : Nat), .int (zC m q : Nat)])) false h := by
  rw [e_marks_of]
  push_cast [b_marks_of, c_pairs_of wf _ h q (by omega : m ≤ 1000), c_rank_M wf _ h (Pq q) m0 (by omega), c_counts_of wf _ h q m0 m8]
theorem c_q_marks {m : Nat} {q : Nat → Nat → Bool} (Q : IsQ m q) : callF tb wf (n + 6) 18 [.dat (iM m m (fb q))] h = .ret (.dat (.tuple [.int (rkM m (Pq q) : Nat), .int (zC m q : Nat)])) false h := by
  have n4 := Q.n4
  rw [e_q_marks]
  push_cast [b_q_marks, c_check_q wf n h Q, c_marks_of wf _ h q Q.n1 (by omega)]
theorem c_law_marks {m : Nat} {q : Nat → Nat → Bool} (U : Upp q) (m0 : 1 ≤ m) (m8 : m ≤ 8) (hw : m < wf) : callF tb wf (n + 3) 37 [.dat (iM m m (fb q))] h = .ret (.dat (.tuple [.int (rkM m (Pq q) : Nat), .int (zC m q : Nat)])) false h := by
  have z2 : (linesL m).length ≤ 100000 := by have := lines_le m8; omega
  rw [e_law_marks]
  push_cast [b_law_marks, List.length_range, c_law_linesQ wf _ h m0 m8, z2]
  generalize hL : lcL _ _ _ _ _ _ _ _ = L
  obtain rfl := lc_cnd (g := lnP) hL (fun l => !Wq m q (bf l)) (fun l hl hc => by
    have hc : (!Wq m q (bf l)) = true := hc
    push_cast [lnP_f (mem_lines.mp hl), c_law_worth wf _ U (bf l) (by omega : m ≤ 1000) h, q_eqi, bI_0, hc]) (fun l hl hc => by
    have hc : (!Wq m q (bf l)) = false := hc
    push_cast [lnP_f (mem_lines.mp hl), c_law_worth wf _ U (bf l) (by omega : m ≤ 1000) h, q_eqi, bI_0, hc])
  push_cast [c_law_pairs_of wf _ q (by omega : 0 < m) (by omega : m ≤ 1000) h, c_law_rank_M wf _ h (Pq q) (by omega) hw, ← List.countP_eq_length_filter]
  rfl
theorem xrs_unit {m i : Nat} (t : Nat → Nat → Bool) (a : Nat) (ha : a < m) : (sumN m fun j => bI (t i j) * bI (decide ((j : Int) = (a : Int)))) % 2 = bI (t i a) := by
  have e := xrs_sum (m := m) (g := fun j => bI (t i j) * bI (decide ((j : Int) = (a : Int)))) (f := fun j => decide (j = a) && t i j) fun j _ => by
    show bI (t i j) * bI (decide ((j : Int) = (a : Int))) % 2 = _
    rw [bI_mul, bI_mod, show decide ((j : Int) = (a : Int)) = decide (j = a) from decide_eq_decide.mpr (by omega), Bool.and_comm]
  rw [e, xrs_delta ha]
end
open PySem Pev
theorem iM_congr {m w : Nat} {f g : Nat → Nat → Int} (h : ∀ i, i < m → ∀ j, j < w → f i j = g i j) : iM m w f = iM m w g := by
  show PyData.tuple _ = PyData.tuple _
  congr 1
  refine List.map_congr_left fun i hi => ?_
  congr 1
  exact List.map_congr_left fun j hj => by rw [h i (List.mem_range.mp hi) j (List.mem_range.mp hj)]
theorem iL_congr {m : Nat} {f g : Nat → Int} (h : ∀ i, i < m → f i = g i) : iL m f = iL m g := by
  show PyData.tuple _ = PyData.tuple _
  congr 1
  exact List.map_congr_left fun i hi => by rw [h i (List.mem_range.mp hi)]
theorem small_bI (b : Bool) : Small (bI b) := by cases b <;> exact ⟨by decide, by decide⟩
theorem led_int (m : Nat) (t : Nat → Nat → Bool) (x : Nat → Bool) (i : Nat) : (sumN m fun j => bI (t i j) * bI (x j)) % 2 = bI (led m t x i) := by
  refine xrs_sum fun j _ => ?_
  rw [bI_mul, bI_mod]
theorem prod_int (m : Nat) (t u : Nat → Nat → Bool) (i j : Nat) : (sumN m fun l => bI (t i l) * bI (u l j)) % 2 = bI (xrs m fun k => t i k && u k j) := by
  refine xrs_sum fun l _ => ?_
  rw [bI_mul, bI_mod]
theorem three_mod (a b c : Bool) : (bI a + bI b + bI c) % 2 = bI ((a ^^ b) ^^ c) := by cases a <;> cases b <;> cases c <;> rfl
theorem zeros_row (i : Nat) (d : PD) (f : Nat → PD) (h0 : ∀ j, j < i → f j = .int 0) (h1 : f i = d) : (List.replicate i [PyData.int 0]).flatten ++ [d] = (List.range (i + 1)).map f := by
  have e0 : (List.replicate i [PyData.int 0]).flatten = (List.range i).map f := by
    rw [show (List.replicate i [PyData.int 0]).flatten = List.replicate i (PyData.int 0) by simp]
    apply List.ext_getElem
    · simp
    · intro j h2 h3
      rw [List.getElem_replicate, List.getElem_map, List.getElem_range, h0 j (by simpa using h2)]
  rw [e0, ← h1, range_snoc]
section
variable (wf n : Nat) (h : Hd)
theorem c_law_q_by {m : Nat} {q : Nat → Nat → Bool} (Q : IsQ m q) (t : Nat → Nat → Bool) : callF tb wf (n + 2) 36 [.dat (iM m m (fb q)), .dat (iM m m (fb t))] h = .ret (.dat (iM m m (fb (byQ m q t)))) false h := by
  have n1 := Q.n1
  have n4 := Q.n4
  have m1 : m ≤ 1000 := by omega
  have z1 : (m : Int) ≤ 100000 ∧ (-100000 : Int) ≤ (m : Int) := by omega
  have z2 : m ≤ 100000 := by omega
  rw [e_law_q_by]
  push_cast [b_law_q_by, List.length_range, q_rng1 z1, Int.toNat_natCast, rng_n, z2]
  generalize hL : lcL _ _ _ _ _ _ _ _ = L
  obtain rfl := lc_rng (g := fun a => iL m (xb' fun j => decide ((j : Int) = (a : Int)))) hL fun a ha => by
    push_cast [q_rng1 z1, Int.toNat_natCast, rng_n, List.length_range, z2]
    generalize hL : lcL _ _ _ _ _ _ _ _ = L
    obtain rfl := lc_rng (g := fun j => .int (bI (decide ((j : Int) = (a : Int))))) hL fun j hj => by
      push_cast [q_eqi]
      rfl
    push_cast []
  push_cast [List.length_range, z2]
  generalize hL : lcL _ _ _ _ _ _ _ _ = L
  obtain rfl := lc_rng (g := fun a => iL m (xb' fun i => t i a)) hL fun a ha => by
    push_cast [c_law_led wf _ h (fb t) (xb' fun j => decide ((j : Int) = (a : Int))) (fun i _ j _ => small_bI _) m1 m1, List.length_range, z2]
    generalize hL : lcL _ _ _ _ _ _ _ _ = L
    obtain rfl := lc_rng (g := fun i => .int (bI (t i a))) hL fun i hi => by
      push_cast [xrs_unit t a ha]
    push_cast []
  push_cast [q_rng1 z1, Int.toNat_natCast, rng_n]
  generalize hF : fl _ _ _ _ _ = F
  obtain ⟨s', rfl, a, b, c, d, rfl⟩ := fl_rng hF (fun p s => ∃ a b c d, s = ⟨[.val (.dat (iM m m (fb q))), .val (.dat (iM m m (fb t))), .val (.dat (.int (m : Int))), .val (.dat (.list ((List.range m).map fun (a : Nat) => iL m (xb' fun (j : Nat) => decide ((j : Int) = (a : Int)))))), .emp, .emp, .own (.list ((List.range m).map fun a => iL m (xb' fun i => t i a))), .emp, .emp, .own (.list ((List.range p).map fun i => iL m (xb' (byQ m q t i)))), a, b, c, d, .emp], h⟩) ⟨_, _, _, _, rfl⟩ fun i hi s ⟨a, b, c, d, hs⟩ => by
    subst hs
    have z3 : i < 100000 := by omega
    have z4 : [PyData.int 0].length ≤ 1000 ∧ (0 : Int) ≤ (i : Int) ∧ (i : Int) ≤ 1000 := ⟨by simp, by omega, by omega⟩
    have z5 : (List.replicate i [PyData.int 0]).flatten.length + [PyData.int (bI (Wq m q fun k => t k i))].length ≤ 100000 := by simp; omega
    have ei : (i : Int) + 1 = ((i + 1 : Nat) : Int) := by omega
    have z6 : (m : Int) ≤ 100000 ∧ (-100000 : Int) ≤ (m : Int) ∧ (-100000 : Int) ≤ ((i + 1 : Nat) : Int) ∧ ((i + 1 : Nat) : Int) ≤ 100000 := by omega
    have z7 : ((m : Int) - ((i + 1 : Nat) : Int)).toNat = m - (i + 1) := by omega
    have row0 : (List.replicate i [PyData.int 0]).flatten ++ [PyData.int (bI (Wq m q fun k => t k i))] = (List.range (i + 1)).map fun j => PyData.int (bI (byQ m q t i j)) := zeros_row i _ _ (fun j hj => by
      unfold byQ
      rw [if_neg (by omega), if_neg (by omega)]
      rfl) (by unfold byQ; rw [if_pos rfl])
    push_cast [q_mulLs z4, Int.toNat_natCast, atr hi, c_law_worth wf _ Q.up _ m1 h, q_addL z5, row0, ei, q_rng2b z6, z7, rng_map]
    generalize hG : fl _ _ _ _ _ = G
    obtain ⟨s2, rfl, c, d, rfl⟩ := fl_rng hG (fun p s => ∃ c d, s = ⟨[.val (.dat (iM m m (fb q))), .val (.dat (iM m m (fb t))), .val (.dat (.int (m : Int))), .val (.dat (.list ((List.range m).map fun (a : Nat) => iL m (xb' fun (j : Nat) => decide ((j : Int) = (a : Int)))))), .emp, .emp, .own (.list ((List.range m).map fun a => iL m (xb' fun i => t i a))), .emp, .emp, .own (.list ((List.range i).map fun i => iL m (xb' (byQ m q t i)))), .val (.dat (.int (i : Int))), .own (.list ((List.range (i + 1 + p)).map fun j => PyData.int (bI (byQ m q t i j)))), c, d, .emp], h⟩) ⟨_, _, rfl⟩ fun p hp s ⟨c, d, hs⟩ => by
      subst hs
      have hb : i + 1 + p < m := by omega
      have eb : ((i + 1 : Nat) : Int) + (p : Int) = ((i + 1 + p : Nat) : Int) := by omega
      have z8 : i + 1 + p < 100000 := by omega
      push_cast [eb, atr hi, atr hb, zip_rng, List.length_range, z2]
      generalize hL : lcL _ _ _ _ _ _ _ _ = L
      obtain rfl := lc_rng (g := fun k => .int (bI (t k i ^^ t k (i + 1 + p)))) hL fun k hk => by
        push_cast [bI_add2]
      have ev : ((Wq m q (fun k => t k i ^^ t k (i + 1 + p)) ^^ Wq m q (fun k => t k i)) ^^ Wq m q (fun k => t k (i + 1 + p))) = byQ m q t i (i + 1 + p) := by
        rw [polar Q.up]
        unfold byQ
        rw [if_neg (by omega), if_pos (by omega)]
        cases Wq m q (fun k => t k i) <;> cases Wq m q (fun k => t k (i + 1 + p)) <;> cases Bq m (Pq q) (fun k => t k i) (fun k => t k (i + 1 + p)) <;> rfl
      push_cast [atr hi, atr hb, c_law_worth wf _ Q.up (fun k => t k i ^^ t k (i + 1 + p)) m1 h, c_law_worth wf _ Q.up (fun k => t k i) m1 h, c_law_worth wf _ Q.up (fun k => t k (i + 1 + p)) m1 h, three_mod, ev, List.length_map, List.length_range, z8, range_snoc (fun j => PyData.int (bI (byQ m q t i j)))]
      exact ⟨_, rfl, _, _, rfl⟩
    have em : i + 1 + (m - (i + 1)) = m := by omega
    push_cast [em, List.length_map, List.length_range, z3, range_snoc (fun i => iL m (xb' (byQ m q t i)))]
    exact ⟨_, rfl, _, _, _, _, rfl⟩
  push_cast []
end
open PySem Pev
theorem bent_int (m : Nat) (p : Nat → Nat → Bool) (x y : Nat → Bool) : (sumN m fun i => bI (x i) * sumN m fun j => bI (p i j) * bI (y j)) % 2 = bI (Bq m p x y) := by
  refine xrs_sum fun i _ => ?_
  rw [Int.mul_emod, led_int]
  have e : bI (x i) % 2 * (bI (led m p y i)) % 2 = bI (x i && led m p y i) := by rw [bI_mod, bI_mul, bI_mod]
  rw [e]
  congr 1
  unfold led
  rw [← xrs_and]
  refine xrs_congr fun j _ => ?_
  cases x i <;> cases p i j <;> cases y j <;> rfl
theorem rk_eq {m : Nat} {p : Nat → Nat → Bool} (row : True) : (spanL m (rowsF m p)).length = 2 ^ rkM m p ∨ True := .inr trivial
theorem byQ_isQ {m : Nat} {q : Nat → Nat → Bool} (Q : IsQ m q) (t : Nat → Nat → Bool) : IsQ m (byQ m q t) := ⟨Q.n1, Q.n4, byQ_upp _ _ _⟩
theorem marks_stay {m : Nat} {q t : Nat → Nat → Bool} (U : Upp q) (h : (spanL m (rowsF m t)).length = 2 ^ m) : rkM m (Pq (byQ m q t)) = rkM m (Pq q) ∧ zC m (byQ m q t) = zC m q := by
  refine ⟨?_, zeros_stay U h⟩
  have e := nul_stay U h
  have S := fun p : Nat → Nat → Bool => shut_words (rowsF_len m p)
  have c := fun p : Nat → Nat → Bool => card_others (S p) (asc_nodup (asc_words m (rowsF m p)))
  have c1 := c (Pq (byQ m q t))
  have c2 := c (Pq q)
  rw [others_words (rowsF_len m _)] at c1 c2
  rw [e, ← c2] at c1
  have pos : 0 < (othersL m (rowsF m (Pq q))).length := List.length_pos_of_mem (shut_others (n := m) (code := rowsF m (Pq q))).zero
  have := Nat.eq_of_mul_eq_mul_right pos c1
  unfold wordsL at this
  rw [len_sortL, len_sortL] at this
  unfold rkM
  rw [this]
theorem rokLb {α : Type} (xs : List α) (f : α → Bool) (hl : xs.length ≤ 300) : ROk 903 1 (.list (xs.map fun l => .int (bI (f l)))) := by
  have := ROk.list (k := 1) (n := 0) (m := 300) (xs := xs.map fun l => PyData.int (bI (f l))) (fun d hd => by
    obtain ⟨l, _, rfl⟩ := List.mem_map.mp hd
    exact .bit _) (by simpa using hl)
  exact this
theorem shal_iM {m w : Nat} (f : Nat → Nat → Int) : shal 40 (iM m w f) = true := by
  rw [shal, List.all_eq_true]
  intro d hd
  obtain ⟨i, _, rfl⟩ := List.mem_map.mp hd
  rw [shal, List.all_eq_true]
  intro d hd
  obtain ⟨j, _, rfl⟩ := List.mem_map.mp hd
  exact shal_int _ _
theorem eq_ip (a b c d : Int) : eqop (.tuple [.int a, .int b]) (.tuple [.int c, .int d]) = some (decide (a = c) && decide (b = d)) := by
  rw [eq_ok rfl rfl, PyData.eqv, PyData.eqvAll, PyData.eqvAll, PyData.eqvAll, eqv_int, eqv_int]
  simp
section
variable (wf n : Nat)
theorem bitsL : (PyData.list [.int 0, .int 1]) = .list (([false, true] : List Bool).map bP) := rfl
theorem rk_le {m : Nat} (p : Nat → Nat → Bool) (m4 : m ≤ 4) : rkM m p < 300 := by
  have h1 := len_span m (rowsF m p)
  rw [rowsF_n] at h1
  have h2 : (2 : Nat) ^ m ≤ 2 ^ 4 := Nat.pow_le_pow_right (by omega) m4
  unfold rkM
  have := Nat.log2_le_self (spanL m (rowsF m p)).length
  omega
theorem zC_le {m : Nat} (q : Nat → Nat → Bool) (m4 : m ≤ 4) : zC m q < 300 := by
  have h1 : zC m q ≤ (linesL m).length := List.countP_le_length
  have := lines_le (m := m) (by omega)
  omega
theorem oC_le {m : Nat} (q : Nat → Nat → Bool) (m4 : m ≤ 4) : oC m q < 300 := by
  have h1 : oC m q ≤ (linesL m).length := List.countP_le_length
  have := lines_le (m := m) (by omega)
  omega
def rr1 : IB := (.cons (.asg (.nm 2) (.blt .len (.cons (.var 1) .nil))) (.cons (.par [3, 4] (.cons (.call 30 (.cons (.var 2) .nil)) (.cons (.call 35 (.cons (.var 1) .nil)) .nil))) (.cons (.asg (.nm 5) (.lc (.call 11 (.cons (.var 1) (.cons (.var 6) .nil))) (.nm 6) (.seq (.var 3)) .yes [6])) (.cons (.ifs (.or (.val (.cmp .ne (.blt .repr (.cons (.var 5) .nil)) (.blt .repr (.cons (.lc (.call 32 (.cons (.var 1) (.cons (.var 6) .nil))) (.nm 6) (.seq (.var 3)) .yes [6]) .nil)))) (.val (.cmp .ne (.blt .repr (.cons (.call 13 (.cons (.var 1) .nil)) .nil)) (.blt .repr (.cons (.var 4) .nil))))) (.cons (.ret (.cst (.bool false))) .nil) .nil) (.cons (.ifs (.val (.cmp .ne (.blt .repr (.cons (.call 16 (.cons (.var 1) .nil)) .nil)) (.blt .repr (.cons (.tup (.cons (.mth .count (.var 5) (.cons (.cst (.int 0)) .nil)) (.cons (.mth .count (.var 5) (.cons (.cst (.int 1)) .nil)) .nil))) .nil)))) (.cons (.ret (.cst (.bool false))) .nil) .nil) (.cons (.ifs (.val (.cmp .ne (.blt .repr (.cons (.call 18 (.cons (.var 1) .nil)) .nil)) (.blt .repr (.cons (.call 37 (.cons (.var 1) .nil)) .nil)))) (.cons (.ret (.cst (.bool false))) .nil) .nil) (.cons (.par [7, 8] (.cons (.call 25 (.cons (.var 0) (.cons (.var 3) .nil))) (.cons (.call 25 (.cons (.var 0) (.cons (.var 3) .nil))) .nil))) (.cons (.asg (.nm 9) (.blt .tuple (.cons (.lc (.bin .mod (.blt .int (.cons (.bin .add (.var 10) (.var 11)) .nil)) (.cst (.int 2))) (.tp [10, 11]) (.zip (.var 7) (.var 8)) .yes [10, 11]) .nil))) (.cons (.asg (.nm 12) (.bin .mod (.blt .int (.cons (.blt .sum (.cons (.lc (.bin .mul (.var 10) (.var 11)) (.tp [10, 11]) (.zip (.var 7) (.call 29 (.cons (.var 4) (.cons (.var 8) .nil)))) .yes [10, 11]) .nil)) .nil)) (.cst (.int 2)))) (.cons (.ifs (.val (.cmp .ne (.bin .mod (.blt .int (.cons (.bin .add (.bin .add (.call 11 (.cons (.var 1) (.cons (.var 9) .nil))) (.call 11 (.cons (.var 1) (.cons (.var 7) .nil)))) (.call 11 (.cons (.var 1) (.cons (.var 8) .nil)))) .nil)) (.cst (.int 2))) (.var 12))) (.cons (.ret (.cst (.bool false))) .nil) .nil) (.cons (.par [13, 14] (.cons (.call 26 (.cons (.var 0) (.cons (.var 2) (.cons (.var 2) (.cons (.lst (.cons (.cst (.int 0)) (.cons (.cst (.int 1)) .nil))) .nil))))) (.cons (.call 26 (.cons (.var 0) (.cons (.var 2) (.cons (.var 2) (.cons (.lst (.cons (.cst (.int 0)) (.cons (.cst (.int 1)) .nil))) .nil))))) .nil))) (.cons (.asg (.nm 15) (.call 22 (.cons (.var 1) (.cons (.var 13) .nil)))) (.cons (.ifs (.val (.cmp .ne (.blt .repr (.cons (.var 15) .nil)) (.blt .repr (.cons (.call 36 (.cons (.var 1) (.cons (.var 13) .nil))) .nil)))) (.cons (.ret (.cst (.bool false))) .nil) .nil) (.cons (.ifs (.val (.cmp .ne (.call 11 (.cons (.var 15) (.cons (.var 7) .nil))) (.call 11 (.cons (.var 1) (.cons (.blt .tuple (.cons (.lc (.bin .mod (.blt .int (.cons (.var 10) .nil)) (.cst (.int 2))) (.nm 10) (.seq (.call 29 (.cons (.var 13) (.cons (.var 7) .nil)))) .yes [10]) .nil)) .nil))))) (.cons (.ret (.cst (.bool false))) .nil) .nil) (.cons (.ifs (.val (.cmp .ne (.call 22 (.cons (.var 15) (.cons (.var 14) .nil))) (.call 22 (.cons (.var 1) (.cons (.call 33 (.cons (.call 28 (.cons (.var 13) (.cons (.var 14) .nil))) .nil)) .nil))))) (.cons (.ret (.cst (.bool false))) .nil) .nil) (.cons (.ifs (.and (.val (.cmp .eq (.call 34 (.cons (.var 13) .nil)) (.var 2))) (.val (.cmp .ne (.call 18 (.cons (.var 15) .nil)) (.call 18 (.cons (.var 1) .nil))))) (.cons (.ret (.cst (.bool false))) .nil) .nil) (.cons (.asg (.nm 16) (.blt .tuple (.cons (.lc (.blt .tuple (.cons (.lc (.blt .int (.cons (.cmp .eq (.var 10) (.var 11)) .nil)) (.nm 11) (.rng1 (.var 2)) .yes [11]) .nil)) (.nm 10) (.rng1 (.var 2)) .yes [10]) .nil))) (.cons (.ret (.cmp .eq (.call 22 (.cons (.var 1) (.cons (.var 16) .nil))) (.var 1))) .nil))))))))))))))))))
def rr1s (B : IB) : IB := (.cons (.asg (.nm 1) (.call 31 (.cons (.var 0) (.cons (.cst (.int 4)) .nil)))) B)
theorem rr1_eq : b_law_right = rr1s rr1 := rfl
def rr2 : IB := (.cons (.par [3, 4] (.cons (.call 30 (.cons (.var 2) .nil)) (.cons (.call 35 (.cons (.var 1) .nil)) .nil))) (.cons (.asg (.nm 5) (.lc (.call 11 (.cons (.var 1) (.cons (.var 6) .nil))) (.nm 6) (.seq (.var 3)) .yes [6])) (.cons (.ifs (.or (.val (.cmp .ne (.blt .repr (.cons (.var 5) .nil)) (.blt .repr (.cons (.lc (.call 32 (.cons (.var 1) (.cons (.var 6) .nil))) (.nm 6) (.seq (.var 3)) .yes [6]) .nil)))) (.val (.cmp .ne (.blt .repr (.cons (.call 13 (.cons (.var 1) .nil)) .nil)) (.blt .repr (.cons (.var 4) .nil))))) (.cons (.ret (.cst (.bool false))) .nil) .nil) (.cons (.ifs (.val (.cmp .ne (.blt .repr (.cons (.call 16 (.cons (.var 1) .nil)) .nil)) (.blt .repr (.cons (.tup (.cons (.mth .count (.var 5) (.cons (.cst (.int 0)) .nil)) (.cons (.mth .count (.var 5) (.cons (.cst (.int 1)) .nil)) .nil))) .nil)))) (.cons (.ret (.cst (.bool false))) .nil) .nil) (.cons (.ifs (.val (.cmp .ne (.blt .repr (.cons (.call 18 (.cons (.var 1) .nil)) .nil)) (.blt .repr (.cons (.call 37 (.cons (.var 1) .nil)) .nil)))) (.cons (.ret (.cst (.bool false))) .nil) .nil) (.cons (.par [7, 8] (.cons (.call 25 (.cons (.var 0) (.cons (.var 3) .nil))) (.cons (.call 25 (.cons (.var 0) (.cons (.var 3) .nil))) .nil))) (.cons (.asg (.nm 9) (.blt .tuple (.cons (.lc (.bin .mod (.blt .int (.cons (.bin .add (.var 10) (.var 11)) .nil)) (.cst (.int 2))) (.tp [10, 11]) (.zip (.var 7) (.var 8)) .yes [10, 11]) .nil))) (.cons (.asg (.nm 12) (.bin .mod (.blt .int (.cons (.blt .sum (.cons (.lc (.bin .mul (.var 10) (.var 11)) (.tp [10, 11]) (.zip (.var 7) (.call 29 (.cons (.var 4) (.cons (.var 8) .nil)))) .yes [10, 11]) .nil)) .nil)) (.cst (.int 2)))) (.cons (.ifs (.val (.cmp .ne (.bin .mod (.blt .int (.cons (.bin .add (.bin .add (.call 11 (.cons (.var 1) (.cons (.var 9) .nil))) (.call 11 (.cons (.var 1) (.cons (.var 7) .nil)))) (.call 11 (.cons (.var 1) (.cons (.var 8) .nil)))) .nil)) (.cst (.int 2))) (.var 12))) (.cons (.ret (.cst (.bool false))) .nil) .nil) (.cons (.par [13, 14] (.cons (.call 26 (.cons (.var 0) (.cons (.var 2) (.cons (.var 2) (.cons (.lst (.cons (.cst (.int 0)) (.cons (.cst (.int 1)) .nil))) .nil))))) (.cons (.call 26 (.cons (.var 0) (.cons (.var 2) (.cons (.var 2) (.cons (.lst (.cons (.cst (.int 0)) (.cons (.cst (.int 1)) .nil))) .nil))))) .nil))) (.cons (.asg (.nm 15) (.call 22 (.cons (.var 1) (.cons (.var 13) .nil)))) (.cons (.ifs (.val (.cmp .ne (.blt .repr (.cons (.var 15) .nil)) (.blt .repr (.cons (.call 36 (.cons (.var 1) (.cons (.var 13) .nil))) .nil)))) (.cons (.ret (.cst (.bool false))) .nil) .nil) (.cons (.ifs (.val (.cmp .ne (.call 11 (.cons (.var 15) (.cons (.var 7) .nil))) (.call 11 (.cons (.var 1) (.cons (.blt .tuple (.cons (.lc (.bin .mod (.blt .int (.cons (.var 10) .nil)) (.cst (.int 2))) (.nm 10) (.seq (.call 29 (.cons (.var 13) (.cons (.var 7) .nil)))) .yes [10]) .nil)) .nil))))) (.cons (.ret (.cst (.bool false))) .nil) .nil) (.cons (.ifs (.val (.cmp .ne (.call 22 (.cons (.var 15) (.cons (.var 14) .nil))) (.call 22 (.cons (.var 1) (.cons (.call 33 (.cons (.call 28 (.cons (.var 13) (.cons (.var 14) .nil))) .nil)) .nil))))) (.cons (.ret (.cst (.bool false))) .nil) .nil) (.cons (.ifs (.and (.val (.cmp .eq (.call 34 (.cons (.var 13) .nil)) (.var 2))) (.val (.cmp .ne (.call 18 (.cons (.var 15) .nil)) (.call 18 (.cons (.var 1) .nil))))) (.cons (.ret (.cst (.bool false))) .nil) .nil) (.cons (.asg (.nm 16) (.blt .tuple (.cons (.lc (.blt .tuple (.cons (.lc (.blt .int (.cons (.cmp .eq (.var 10) (.var 11)) .nil)) (.nm 11) (.rng1 (.var 2)) .yes [11]) .nil)) (.nm 10) (.rng1 (.var 2)) .yes [10]) .nil))) (.cons (.ret (.cmp .eq (.call 22 (.cons (.var 1) (.cons (.var 16) .nil))) (.var 1))) .nil)))))))))))))))))
def rr2s (B : IB) : IB := (.cons (.asg (.nm 2) (.blt .len (.cons (.var 1) .nil))) B)
theorem rr2_eq : rr1 = rr2s rr2 := rfl
def rr3 : IB := (.cons (.asg (.nm 5) (.lc (.call 11 (.cons (.var 1) (.cons (.var 6) .nil))) (.nm 6) (.seq (.var 3)) .yes [6])) (.cons (.ifs (.or (.val (.cmp .ne (.blt .repr (.cons (.var 5) .nil)) (.blt .repr (.cons (.lc (.call 32 (.cons (.var 1) (.cons (.var 6) .nil))) (.nm 6) (.seq (.var 3)) .yes [6]) .nil)))) (.val (.cmp .ne (.blt .repr (.cons (.call 13 (.cons (.var 1) .nil)) .nil)) (.blt .repr (.cons (.var 4) .nil))))) (.cons (.ret (.cst (.bool false))) .nil) .nil) (.cons (.ifs (.val (.cmp .ne (.blt .repr (.cons (.call 16 (.cons (.var 1) .nil)) .nil)) (.blt .repr (.cons (.tup (.cons (.mth .count (.var 5) (.cons (.cst (.int 0)) .nil)) (.cons (.mth .count (.var 5) (.cons (.cst (.int 1)) .nil)) .nil))) .nil)))) (.cons (.ret (.cst (.bool false))) .nil) .nil) (.cons (.ifs (.val (.cmp .ne (.blt .repr (.cons (.call 18 (.cons (.var 1) .nil)) .nil)) (.blt .repr (.cons (.call 37 (.cons (.var 1) .nil)) .nil)))) (.cons (.ret (.cst (.bool false))) .nil) .nil) (.cons (.par [7, 8] (.cons (.call 25 (.cons (.var 0) (.cons (.var 3) .nil))) (.cons (.call 25 (.cons (.var 0) (.cons (.var 3) .nil))) .nil))) (.cons (.asg (.nm 9) (.blt .tuple (.cons (.lc (.bin .mod (.blt .int (.cons (.bin .add (.var 10) (.var 11)) .nil)) (.cst (.int 2))) (.tp [10, 11]) (.zip (.var 7) (.var 8)) .yes [10, 11]) .nil))) (.cons (.asg (.nm 12) (.bin .mod (.blt .int (.cons (.blt .sum (.cons (.lc (.bin .mul (.var 10) (.var 11)) (.tp [10, 11]) (.zip (.var 7) (.call 29 (.cons (.var 4) (.cons (.var 8) .nil)))) .yes [10, 11]) .nil)) .nil)) (.cst (.int 2)))) (.cons (.ifs (.val (.cmp .ne (.bin .mod (.blt .int (.cons (.bin .add (.bin .add (.call 11 (.cons (.var 1) (.cons (.var 9) .nil))) (.call 11 (.cons (.var 1) (.cons (.var 7) .nil)))) (.call 11 (.cons (.var 1) (.cons (.var 8) .nil)))) .nil)) (.cst (.int 2))) (.var 12))) (.cons (.ret (.cst (.bool false))) .nil) .nil) (.cons (.par [13, 14] (.cons (.call 26 (.cons (.var 0) (.cons (.var 2) (.cons (.var 2) (.cons (.lst (.cons (.cst (.int 0)) (.cons (.cst (.int 1)) .nil))) .nil))))) (.cons (.call 26 (.cons (.var 0) (.cons (.var 2) (.cons (.var 2) (.cons (.lst (.cons (.cst (.int 0)) (.cons (.cst (.int 1)) .nil))) .nil))))) .nil))) (.cons (.asg (.nm 15) (.call 22 (.cons (.var 1) (.cons (.var 13) .nil)))) (.cons (.ifs (.val (.cmp .ne (.blt .repr (.cons (.var 15) .nil)) (.blt .repr (.cons (.call 36 (.cons (.var 1) (.cons (.var 13) .nil))) .nil)))) (.cons (.ret (.cst (.bool false))) .nil) .nil) (.cons (.ifs (.val (.cmp .ne (.call 11 (.cons (.var 15) (.cons (.var 7) .nil))) (.call 11 (.cons (.var 1) (.cons (.blt .tuple (.cons (.lc (.bin .mod (.blt .int (.cons (.var 10) .nil)) (.cst (.int 2))) (.nm 10) (.seq (.call 29 (.cons (.var 13) (.cons (.var 7) .nil)))) .yes [10]) .nil)) .nil))))) (.cons (.ret (.cst (.bool false))) .nil) .nil) (.cons (.ifs (.val (.cmp .ne (.call 22 (.cons (.var 15) (.cons (.var 14) .nil))) (.call 22 (.cons (.var 1) (.cons (.call 33 (.cons (.call 28 (.cons (.var 13) (.cons (.var 14) .nil))) .nil)) .nil))))) (.cons (.ret (.cst (.bool false))) .nil) .nil) (.cons (.ifs (.and (.val (.cmp .eq (.call 34 (.cons (.var 13) .nil)) (.var 2))) (.val (.cmp .ne (.call 18 (.cons (.var 15) .nil)) (.call 18 (.cons (.var 1) .nil))))) (.cons (.ret (.cst (.bool false))) .nil) .nil) (.cons (.asg (.nm 16) (.blt .tuple (.cons (.lc (.blt .tuple (.cons (.lc (.blt .int (.cons (.cmp .eq (.var 10) (.var 11)) .nil)) (.nm 11) (.rng1 (.var 2)) .yes [11]) .nil)) (.nm 10) (.rng1 (.var 2)) .yes [10]) .nil))) (.cons (.ret (.cmp .eq (.call 22 (.cons (.var 1) (.cons (.var 16) .nil))) (.var 1))) .nil))))))))))))))))
def rr3s (B : IB) : IB := (.cons (.par [3, 4] (.cons (.call 30 (.cons (.var 2) .nil)) (.cons (.call 35 (.cons (.var 1) .nil)) .nil))) B)
theorem rr3_eq : rr2 = rr3s rr3 := rfl
def rr4 : IB := (.cons (.ifs (.or (.val (.cmp .ne (.blt .repr (.cons (.var 5) .nil)) (.blt .repr (.cons (.lc (.call 32 (.cons (.var 1) (.cons (.var 6) .nil))) (.nm 6) (.seq (.var 3)) .yes [6]) .nil)))) (.val (.cmp .ne (.blt .repr (.cons (.call 13 (.cons (.var 1) .nil)) .nil)) (.blt .repr (.cons (.var 4) .nil))))) (.cons (.ret (.cst (.bool false))) .nil) .nil) (.cons (.ifs (.val (.cmp .ne (.blt .repr (.cons (.call 16 (.cons (.var 1) .nil)) .nil)) (.blt .repr (.cons (.tup (.cons (.mth .count (.var 5) (.cons (.cst (.int 0)) .nil)) (.cons (.mth .count (.var 5) (.cons (.cst (.int 1)) .nil)) .nil))) .nil)))) (.cons (.ret (.cst (.bool false))) .nil) .nil) (.cons (.ifs (.val (.cmp .ne (.blt .repr (.cons (.call 18 (.cons (.var 1) .nil)) .nil)) (.blt .repr (.cons (.call 37 (.cons (.var 1) .nil)) .nil)))) (.cons (.ret (.cst (.bool false))) .nil) .nil) (.cons (.par [7, 8] (.cons (.call 25 (.cons (.var 0) (.cons (.var 3) .nil))) (.cons (.call 25 (.cons (.var 0) (.cons (.var 3) .nil))) .nil))) (.cons (.asg (.nm 9) (.blt .tuple (.cons (.lc (.bin .mod (.blt .int (.cons (.bin .add (.var 10) (.var 11)) .nil)) (.cst (.int 2))) (.tp [10, 11]) (.zip (.var 7) (.var 8)) .yes [10, 11]) .nil))) (.cons (.asg (.nm 12) (.bin .mod (.blt .int (.cons (.blt .sum (.cons (.lc (.bin .mul (.var 10) (.var 11)) (.tp [10, 11]) (.zip (.var 7) (.call 29 (.cons (.var 4) (.cons (.var 8) .nil)))) .yes [10, 11]) .nil)) .nil)) (.cst (.int 2)))) (.cons (.ifs (.val (.cmp .ne (.bin .mod (.blt .int (.cons (.bin .add (.bin .add (.call 11 (.cons (.var 1) (.cons (.var 9) .nil))) (.call 11 (.cons (.var 1) (.cons (.var 7) .nil)))) (.call 11 (.cons (.var 1) (.cons (.var 8) .nil)))) .nil)) (.cst (.int 2))) (.var 12))) (.cons (.ret (.cst (.bool false))) .nil) .nil) (.cons (.par [13, 14] (.cons (.call 26 (.cons (.var 0) (.cons (.var 2) (.cons (.var 2) (.cons (.lst (.cons (.cst (.int 0)) (.cons (.cst (.int 1)) .nil))) .nil))))) (.cons (.call 26 (.cons (.var 0) (.cons (.var 2) (.cons (.var 2) (.cons (.lst (.cons (.cst (.int 0)) (.cons (.cst (.int 1)) .nil))) .nil))))) .nil))) (.cons (.asg (.nm 15) (.call 22 (.cons (.var 1) (.cons (.var 13) .nil)))) (.cons (.ifs (.val (.cmp .ne (.blt .repr (.cons (.var 15) .nil)) (.blt .repr (.cons (.call 36 (.cons (.var 1) (.cons (.var 13) .nil))) .nil)))) (.cons (.ret (.cst (.bool false))) .nil) .nil) (.cons (.ifs (.val (.cmp .ne (.call 11 (.cons (.var 15) (.cons (.var 7) .nil))) (.call 11 (.cons (.var 1) (.cons (.blt .tuple (.cons (.lc (.bin .mod (.blt .int (.cons (.var 10) .nil)) (.cst (.int 2))) (.nm 10) (.seq (.call 29 (.cons (.var 13) (.cons (.var 7) .nil)))) .yes [10]) .nil)) .nil))))) (.cons (.ret (.cst (.bool false))) .nil) .nil) (.cons (.ifs (.val (.cmp .ne (.call 22 (.cons (.var 15) (.cons (.var 14) .nil))) (.call 22 (.cons (.var 1) (.cons (.call 33 (.cons (.call 28 (.cons (.var 13) (.cons (.var 14) .nil))) .nil)) .nil))))) (.cons (.ret (.cst (.bool false))) .nil) .nil) (.cons (.ifs (.and (.val (.cmp .eq (.call 34 (.cons (.var 13) .nil)) (.var 2))) (.val (.cmp .ne (.call 18 (.cons (.var 15) .nil)) (.call 18 (.cons (.var 1) .nil))))) (.cons (.ret (.cst (.bool false))) .nil) .nil) (.cons (.asg (.nm 16) (.blt .tuple (.cons (.lc (.blt .tuple (.cons (.lc (.blt .int (.cons (.cmp .eq (.var 10) (.var 11)) .nil)) (.nm 11) (.rng1 (.var 2)) .yes [11]) .nil)) (.nm 10) (.rng1 (.var 2)) .yes [10]) .nil))) (.cons (.ret (.cmp .eq (.call 22 (.cons (.var 1) (.cons (.var 16) .nil))) (.var 1))) .nil)))))))))))))))
def rr4s (B : IB) : IB := (.cons (.asg (.nm 5) (.lc (.call 11 (.cons (.var 1) (.cons (.var 6) .nil))) (.nm 6) (.seq (.var 3)) .yes [6])) B)
theorem rr4_eq : rr3 = rr4s rr4 := rfl
def rr5 : IB := (.cons (.ifs (.val (.cmp .ne (.blt .repr (.cons (.call 16 (.cons (.var 1) .nil)) .nil)) (.blt .repr (.cons (.tup (.cons (.mth .count (.var 5) (.cons (.cst (.int 0)) .nil)) (.cons (.mth .count (.var 5) (.cons (.cst (.int 1)) .nil)) .nil))) .nil)))) (.cons (.ret (.cst (.bool false))) .nil) .nil) (.cons (.ifs (.val (.cmp .ne (.blt .repr (.cons (.call 18 (.cons (.var 1) .nil)) .nil)) (.blt .repr (.cons (.call 37 (.cons (.var 1) .nil)) .nil)))) (.cons (.ret (.cst (.bool false))) .nil) .nil) (.cons (.par [7, 8] (.cons (.call 25 (.cons (.var 0) (.cons (.var 3) .nil))) (.cons (.call 25 (.cons (.var 0) (.cons (.var 3) .nil))) .nil))) (.cons (.asg (.nm 9) (.blt .tuple (.cons (.lc (.bin .mod (.blt .int (.cons (.bin .add (.var 10) (.var 11)) .nil)) (.cst (.int 2))) (.tp [10, 11]) (.zip (.var 7) (.var 8)) .yes [10, 11]) .nil))) (.cons (.asg (.nm 12) (.bin .mod (.blt .int (.cons (.blt .sum (.cons (.lc (.bin .mul (.var 10) (.var 11)) (.tp [10, 11]) (.zip (.var 7) (.call 29 (.cons (.var 4) (.cons (.var 8) .nil)))) .yes [10, 11]) .nil)) .nil)) (.cst (.int 2)))) (.cons (.ifs (.val (.cmp .ne (.bin .mod (.blt .int (.cons (.bin .add (.bin .add (.call 11 (.cons (.var 1) (.cons (.var 9) .nil))) (.call 11 (.cons (.var 1) (.cons (.var 7) .nil)))) (.call 11 (.cons (.var 1) (.cons (.var 8) .nil)))) .nil)) (.cst (.int 2))) (.var 12))) (.cons (.ret (.cst (.bool false))) .nil) .nil) (.cons (.par [13, 14] (.cons (.call 26 (.cons (.var 0) (.cons (.var 2) (.cons (.var 2) (.cons (.lst (.cons (.cst (.int 0)) (.cons (.cst (.int 1)) .nil))) .nil))))) (.cons (.call 26 (.cons (.var 0) (.cons (.var 2) (.cons (.var 2) (.cons (.lst (.cons (.cst (.int 0)) (.cons (.cst (.int 1)) .nil))) .nil))))) .nil))) (.cons (.asg (.nm 15) (.call 22 (.cons (.var 1) (.cons (.var 13) .nil)))) (.cons (.ifs (.val (.cmp .ne (.blt .repr (.cons (.var 15) .nil)) (.blt .repr (.cons (.call 36 (.cons (.var 1) (.cons (.var 13) .nil))) .nil)))) (.cons (.ret (.cst (.bool false))) .nil) .nil) (.cons (.ifs (.val (.cmp .ne (.call 11 (.cons (.var 15) (.cons (.var 7) .nil))) (.call 11 (.cons (.var 1) (.cons (.blt .tuple (.cons (.lc (.bin .mod (.blt .int (.cons (.var 10) .nil)) (.cst (.int 2))) (.nm 10) (.seq (.call 29 (.cons (.var 13) (.cons (.var 7) .nil)))) .yes [10]) .nil)) .nil))))) (.cons (.ret (.cst (.bool false))) .nil) .nil) (.cons (.ifs (.val (.cmp .ne (.call 22 (.cons (.var 15) (.cons (.var 14) .nil))) (.call 22 (.cons (.var 1) (.cons (.call 33 (.cons (.call 28 (.cons (.var 13) (.cons (.var 14) .nil))) .nil)) .nil))))) (.cons (.ret (.cst (.bool false))) .nil) .nil) (.cons (.ifs (.and (.val (.cmp .eq (.call 34 (.cons (.var 13) .nil)) (.var 2))) (.val (.cmp .ne (.call 18 (.cons (.var 15) .nil)) (.call 18 (.cons (.var 1) .nil))))) (.cons (.ret (.cst (.bool false))) .nil) .nil) (.cons (.asg (.nm 16) (.blt .tuple (.cons (.lc (.blt .tuple (.cons (.lc (.blt .int (.cons (.cmp .eq (.var 10) (.var 11)) .nil)) (.nm 11) (.rng1 (.var 2)) .yes [11]) .nil)) (.nm 10) (.rng1 (.var 2)) .yes [10]) .nil))) (.cons (.ret (.cmp .eq (.call 22 (.cons (.var 1) (.cons (.var 16) .nil))) (.var 1))) .nil))))))))))))))
def rr5s (B : IB) : IB := (.cons (.ifs (.or (.val (.cmp .ne (.blt .repr (.cons (.var 5) .nil)) (.blt .repr (.cons (.lc (.call 32 (.cons (.var 1) (.cons (.var 6) .nil))) (.nm 6) (.seq (.var 3)) .yes [6]) .nil)))) (.val (.cmp .ne (.blt .repr (.cons (.call 13 (.cons (.var 1) .nil)) .nil)) (.blt .repr (.cons (.var 4) .nil))))) (.cons (.ret (.cst (.bool false))) .nil) .nil) B)
theorem rr5_eq : rr4 = rr5s rr5 := rfl
def rr6 : IB := (.cons (.ifs (.val (.cmp .ne (.blt .repr (.cons (.call 18 (.cons (.var 1) .nil)) .nil)) (.blt .repr (.cons (.call 37 (.cons (.var 1) .nil)) .nil)))) (.cons (.ret (.cst (.bool false))) .nil) .nil) (.cons (.par [7, 8] (.cons (.call 25 (.cons (.var 0) (.cons (.var 3) .nil))) (.cons (.call 25 (.cons (.var 0) (.cons (.var 3) .nil))) .nil))) (.cons (.asg (.nm 9) (.blt .tuple (.cons (.lc (.bin .mod (.blt .int (.cons (.bin .add (.var 10) (.var 11)) .nil)) (.cst (.int 2))) (.tp [10, 11]) (.zip (.var 7) (.var 8)) .yes [10, 11]) .nil))) (.cons (.asg (.nm 12) (.bin .mod (.blt .int (.cons (.blt .sum (.cons (.lc (.bin .mul (.var 10) (.var 11)) (.tp [10, 11]) (.zip (.var 7) (.call 29 (.cons (.var 4) (.cons (.var 8) .nil)))) .yes [10, 11]) .nil)) .nil)) (.cst (.int 2)))) (.cons (.ifs (.val (.cmp .ne (.bin .mod (.blt .int (.cons (.bin .add (.bin .add (.call 11 (.cons (.var 1) (.cons (.var 9) .nil))) (.call 11 (.cons (.var 1) (.cons (.var 7) .nil)))) (.call 11 (.cons (.var 1) (.cons (.var 8) .nil)))) .nil)) (.cst (.int 2))) (.var 12))) (.cons (.ret (.cst (.bool false))) .nil) .nil) (.cons (.par [13, 14] (.cons (.call 26 (.cons (.var 0) (.cons (.var 2) (.cons (.var 2) (.cons (.lst (.cons (.cst (.int 0)) (.cons (.cst (.int 1)) .nil))) .nil))))) (.cons (.call 26 (.cons (.var 0) (.cons (.var 2) (.cons (.var 2) (.cons (.lst (.cons (.cst (.int 0)) (.cons (.cst (.int 1)) .nil))) .nil))))) .nil))) (.cons (.asg (.nm 15) (.call 22 (.cons (.var 1) (.cons (.var 13) .nil)))) (.cons (.ifs (.val (.cmp .ne (.blt .repr (.cons (.var 15) .nil)) (.blt .repr (.cons (.call 36 (.cons (.var 1) (.cons (.var 13) .nil))) .nil)))) (.cons (.ret (.cst (.bool false))) .nil) .nil) (.cons (.ifs (.val (.cmp .ne (.call 11 (.cons (.var 15) (.cons (.var 7) .nil))) (.call 11 (.cons (.var 1) (.cons (.blt .tuple (.cons (.lc (.bin .mod (.blt .int (.cons (.var 10) .nil)) (.cst (.int 2))) (.nm 10) (.seq (.call 29 (.cons (.var 13) (.cons (.var 7) .nil)))) .yes [10]) .nil)) .nil))))) (.cons (.ret (.cst (.bool false))) .nil) .nil) (.cons (.ifs (.val (.cmp .ne (.call 22 (.cons (.var 15) (.cons (.var 14) .nil))) (.call 22 (.cons (.var 1) (.cons (.call 33 (.cons (.call 28 (.cons (.var 13) (.cons (.var 14) .nil))) .nil)) .nil))))) (.cons (.ret (.cst (.bool false))) .nil) .nil) (.cons (.ifs (.and (.val (.cmp .eq (.call 34 (.cons (.var 13) .nil)) (.var 2))) (.val (.cmp .ne (.call 18 (.cons (.var 15) .nil)) (.call 18 (.cons (.var 1) .nil))))) (.cons (.ret (.cst (.bool false))) .nil) .nil) (.cons (.asg (.nm 16) (.blt .tuple (.cons (.lc (.blt .tuple (.cons (.lc (.blt .int (.cons (.cmp .eq (.var 10) (.var 11)) .nil)) (.nm 11) (.rng1 (.var 2)) .yes [11]) .nil)) (.nm 10) (.rng1 (.var 2)) .yes [10]) .nil))) (.cons (.ret (.cmp .eq (.call 22 (.cons (.var 1) (.cons (.var 16) .nil))) (.var 1))) .nil)))))))))))))
def rr6s (B : IB) : IB := (.cons (.ifs (.val (.cmp .ne (.blt .repr (.cons (.call 16 (.cons (.var 1) .nil)) .nil)) (.blt .repr (.cons (.tup (.cons (.mth .count (.var 5) (.cons (.cst (.int 0)) .nil)) (.cons (.mth .count (.var 5) (.cons (.cst (.int 1)) .nil)) .nil))) .nil)))) (.cons (.ret (.cst (.bool false))) .nil) .nil) B)
theorem rr6_eq : rr5 = rr6s rr6 := rfl
def rr7 : IB := (.cons (.par [7, 8] (.cons (.call 25 (.cons (.var 0) (.cons (.var 3) .nil))) (.cons (.call 25 (.cons (.var 0) (.cons (.var 3) .nil))) .nil))) (.cons (.asg (.nm 9) (.blt .tuple (.cons (.lc (.bin .mod (.blt .int (.cons (.bin .add (.var 10) (.var 11)) .nil)) (.cst (.int 2))) (.tp [10, 11]) (.zip (.var 7) (.var 8)) .yes [10, 11]) .nil))) (.cons (.asg (.nm 12) (.bin .mod (.blt .int (.cons (.blt .sum (.cons (.lc (.bin .mul (.var 10) (.var 11)) (.tp [10, 11]) (.zip (.var 7) (.call 29 (.cons (.var 4) (.cons (.var 8) .nil)))) .yes [10, 11]) .nil)) .nil)) (.cst (.int 2)))) (.cons (.ifs (.val (.cmp .ne (.bin .mod (.blt .int (.cons (.bin .add (.bin .add (.call 11 (.cons (.var 1) (.cons (.var 9) .nil))) (.call 11 (.cons (.var 1) (.cons (.var 7) .nil)))) (.call 11 (.cons (.var 1) (.cons (.var 8) .nil)))) .nil)) (.cst (.int 2))) (.var 12))) (.cons (.ret (.cst (.bool false))) .nil) .nil) (.cons (.par [13, 14] (.cons (.call 26 (.cons (.var 0) (.cons (.var 2) (.cons (.var 2) (.cons (.lst (.cons (.cst (.int 0)) (.cons (.cst (.int 1)) .nil))) .nil))))) (.cons (.call 26 (.cons (.var 0) (.cons (.var 2) (.cons (.var 2) (.cons (.lst (.cons (.cst (.int 0)) (.cons (.cst (.int 1)) .nil))) .nil))))) .nil))) (.cons (.asg (.nm 15) (.call 22 (.cons (.var 1) (.cons (.var 13) .nil)))) (.cons (.ifs (.val (.cmp .ne (.blt .repr (.cons (.var 15) .nil)) (.blt .repr (.cons (.call 36 (.cons (.var 1) (.cons (.var 13) .nil))) .nil)))) (.cons (.ret (.cst (.bool false))) .nil) .nil) (.cons (.ifs (.val (.cmp .ne (.call 11 (.cons (.var 15) (.cons (.var 7) .nil))) (.call 11 (.cons (.var 1) (.cons (.blt .tuple (.cons (.lc (.bin .mod (.blt .int (.cons (.var 10) .nil)) (.cst (.int 2))) (.nm 10) (.seq (.call 29 (.cons (.var 13) (.cons (.var 7) .nil)))) .yes [10]) .nil)) .nil))))) (.cons (.ret (.cst (.bool false))) .nil) .nil) (.cons (.ifs (.val (.cmp .ne (.call 22 (.cons (.var 15) (.cons (.var 14) .nil))) (.call 22 (.cons (.var 1) (.cons (.call 33 (.cons (.call 28 (.cons (.var 13) (.cons (.var 14) .nil))) .nil)) .nil))))) (.cons (.ret (.cst (.bool false))) .nil) .nil) (.cons (.ifs (.and (.val (.cmp .eq (.call 34 (.cons (.var 13) .nil)) (.var 2))) (.val (.cmp .ne (.call 18 (.cons (.var 15) .nil)) (.call 18 (.cons (.var 1) .nil))))) (.cons (.ret (.cst (.bool false))) .nil) .nil) (.cons (.asg (.nm 16) (.blt .tuple (.cons (.lc (.blt .tuple (.cons (.lc (.blt .int (.cons (.cmp .eq (.var 10) (.var 11)) .nil)) (.nm 11) (.rng1 (.var 2)) .yes [11]) .nil)) (.nm 10) (.rng1 (.var 2)) .yes [10]) .nil))) (.cons (.ret (.cmp .eq (.call 22 (.cons (.var 1) (.cons (.var 16) .nil))) (.var 1))) .nil))))))))))))
def rr7s (B : IB) : IB := (.cons (.ifs (.val (.cmp .ne (.blt .repr (.cons (.call 18 (.cons (.var 1) .nil)) .nil)) (.blt .repr (.cons (.call 37 (.cons (.var 1) .nil)) .nil)))) (.cons (.ret (.cst (.bool false))) .nil) .nil) B)
theorem rr7_eq : rr6 = rr7s rr7 := rfl
def rr8 : IB := (.cons (.asg (.nm 9) (.blt .tuple (.cons (.lc (.bin .mod (.blt .int (.cons (.bin .add (.var 10) (.var 11)) .nil)) (.cst (.int 2))) (.tp [10, 11]) (.zip (.var 7) (.var 8)) .yes [10, 11]) .nil))) (.cons (.asg (.nm 12) (.bin .mod (.blt .int (.cons (.blt .sum (.cons (.lc (.bin .mul (.var 10) (.var 11)) (.tp [10, 11]) (.zip (.var 7) (.call 29 (.cons (.var 4) (.cons (.var 8) .nil)))) .yes [10, 11]) .nil)) .nil)) (.cst (.int 2)))) (.cons (.ifs (.val (.cmp .ne (.bin .mod (.blt .int (.cons (.bin .add (.bin .add (.call 11 (.cons (.var 1) (.cons (.var 9) .nil))) (.call 11 (.cons (.var 1) (.cons (.var 7) .nil)))) (.call 11 (.cons (.var 1) (.cons (.var 8) .nil)))) .nil)) (.cst (.int 2))) (.var 12))) (.cons (.ret (.cst (.bool false))) .nil) .nil) (.cons (.par [13, 14] (.cons (.call 26 (.cons (.var 0) (.cons (.var 2) (.cons (.var 2) (.cons (.lst (.cons (.cst (.int 0)) (.cons (.cst (.int 1)) .nil))) .nil))))) (.cons (.call 26 (.cons (.var 0) (.cons (.var 2) (.cons (.var 2) (.cons (.lst (.cons (.cst (.int 0)) (.cons (.cst (.int 1)) .nil))) .nil))))) .nil))) (.cons (.asg (.nm 15) (.call 22 (.cons (.var 1) (.cons (.var 13) .nil)))) (.cons (.ifs (.val (.cmp .ne (.blt .repr (.cons (.var 15) .nil)) (.blt .repr (.cons (.call 36 (.cons (.var 1) (.cons (.var 13) .nil))) .nil)))) (.cons (.ret (.cst (.bool false))) .nil) .nil) (.cons (.ifs (.val (.cmp .ne (.call 11 (.cons (.var 15) (.cons (.var 7) .nil))) (.call 11 (.cons (.var 1) (.cons (.blt .tuple (.cons (.lc (.bin .mod (.blt .int (.cons (.var 10) .nil)) (.cst (.int 2))) (.nm 10) (.seq (.call 29 (.cons (.var 13) (.cons (.var 7) .nil)))) .yes [10]) .nil)) .nil))))) (.cons (.ret (.cst (.bool false))) .nil) .nil) (.cons (.ifs (.val (.cmp .ne (.call 22 (.cons (.var 15) (.cons (.var 14) .nil))) (.call 22 (.cons (.var 1) (.cons (.call 33 (.cons (.call 28 (.cons (.var 13) (.cons (.var 14) .nil))) .nil)) .nil))))) (.cons (.ret (.cst (.bool false))) .nil) .nil) (.cons (.ifs (.and (.val (.cmp .eq (.call 34 (.cons (.var 13) .nil)) (.var 2))) (.val (.cmp .ne (.call 18 (.cons (.var 15) .nil)) (.call 18 (.cons (.var 1) .nil))))) (.cons (.ret (.cst (.bool false))) .nil) .nil) (.cons (.asg (.nm 16) (.blt .tuple (.cons (.lc (.blt .tuple (.cons (.lc (.blt .int (.cons (.cmp .eq (.var 10) (.var 11)) .nil)) (.nm 11) (.rng1 (.var 2)) .yes [11]) .nil)) (.nm 10) (.rng1 (.var 2)) .yes [10]) .nil))) (.cons (.ret (.cmp .eq (.call 22 (.cons (.var 1) (.cons (.var 16) .nil))) (.var 1))) .nil)))))))))))
def rr8s (B : IB) : IB := (.cons (.par [7, 8] (.cons (.call 25 (.cons (.var 0) (.cons (.var 3) .nil))) (.cons (.call 25 (.cons (.var 0) (.cons (.var 3) .nil))) .nil))) B)
theorem rr8_eq : rr7 = rr8s rr8 := rfl
def rr9 : IB := (.cons (.asg (.nm 12) (.bin .mod (.blt .int (.cons (.blt .sum (.cons (.lc (.bin .mul (.var 10) (.var 11)) (.tp [10, 11]) (.zip (.var 7) (.call 29 (.cons (.var 4) (.cons (.var 8) .nil)))) .yes [10, 11]) .nil)) .nil)) (.cst (.int 2)))) (.cons (.ifs (.val (.cmp .ne (.bin .mod (.blt .int (.cons (.bin .add (.bin .add (.call 11 (.cons (.var 1) (.cons (.var 9) .nil))) (.call 11 (.cons (.var 1) (.cons (.var 7) .nil)))) (.call 11 (.cons (.var 1) (.cons (.var 8) .nil)))) .nil)) (.cst (.int 2))) (.var 12))) (.cons (.ret (.cst (.bool false))) .nil) .nil) (.cons (.par [13, 14] (.cons (.call 26 (.cons (.var 0) (.cons (.var 2) (.cons (.var 2) (.cons (.lst (.cons (.cst (.int 0)) (.cons (.cst (.int 1)) .nil))) .nil))))) (.cons (.call 26 (.cons (.var 0) (.cons (.var 2) (.cons (.var 2) (.cons (.lst (.cons (.cst (.int 0)) (.cons (.cst (.int 1)) .nil))) .nil))))) .nil))) (.cons (.asg (.nm 15) (.call 22 (.cons (.var 1) (.cons (.var 13) .nil)))) (.cons (.ifs (.val (.cmp .ne (.blt .repr (.cons (.var 15) .nil)) (.blt .repr (.cons (.call 36 (.cons (.var 1) (.cons (.var 13) .nil))) .nil)))) (.cons (.ret (.cst (.bool false))) .nil) .nil) (.cons (.ifs (.val (.cmp .ne (.call 11 (.cons (.var 15) (.cons (.var 7) .nil))) (.call 11 (.cons (.var 1) (.cons (.blt .tuple (.cons (.lc (.bin .mod (.blt .int (.cons (.var 10) .nil)) (.cst (.int 2))) (.nm 10) (.seq (.call 29 (.cons (.var 13) (.cons (.var 7) .nil)))) .yes [10]) .nil)) .nil))))) (.cons (.ret (.cst (.bool false))) .nil) .nil) (.cons (.ifs (.val (.cmp .ne (.call 22 (.cons (.var 15) (.cons (.var 14) .nil))) (.call 22 (.cons (.var 1) (.cons (.call 33 (.cons (.call 28 (.cons (.var 13) (.cons (.var 14) .nil))) .nil)) .nil))))) (.cons (.ret (.cst (.bool false))) .nil) .nil) (.cons (.ifs (.and (.val (.cmp .eq (.call 34 (.cons (.var 13) .nil)) (.var 2))) (.val (.cmp .ne (.call 18 (.cons (.var 15) .nil)) (.call 18 (.cons (.var 1) .nil))))) (.cons (.ret (.cst (.bool false))) .nil) .nil) (.cons (.asg (.nm 16) (.blt .tuple (.cons (.lc (.blt .tuple (.cons (.lc (.blt .int (.cons (.cmp .eq (.var 10) (.var 11)) .nil)) (.nm 11) (.rng1 (.var 2)) .yes [11]) .nil)) (.nm 10) (.rng1 (.var 2)) .yes [10]) .nil))) (.cons (.ret (.cmp .eq (.call 22 (.cons (.var 1) (.cons (.var 16) .nil))) (.var 1))) .nil))))))))))
def rr9s (B : IB) : IB := (.cons (.asg (.nm 9) (.blt .tuple (.cons (.lc (.bin .mod (.blt .int (.cons (.bin .add (.var 10) (.var 11)) .nil)) (.cst (.int 2))) (.tp [10, 11]) (.zip (.var 7) (.var 8)) .yes [10, 11]) .nil))) B)
theorem rr9_eq : rr8 = rr9s rr9 := rfl
def rr10 : IB := (.cons (.ifs (.val (.cmp .ne (.bin .mod (.blt .int (.cons (.bin .add (.bin .add (.call 11 (.cons (.var 1) (.cons (.var 9) .nil))) (.call 11 (.cons (.var 1) (.cons (.var 7) .nil)))) (.call 11 (.cons (.var 1) (.cons (.var 8) .nil)))) .nil)) (.cst (.int 2))) (.var 12))) (.cons (.ret (.cst (.bool false))) .nil) .nil) (.cons (.par [13, 14] (.cons (.call 26 (.cons (.var 0) (.cons (.var 2) (.cons (.var 2) (.cons (.lst (.cons (.cst (.int 0)) (.cons (.cst (.int 1)) .nil))) .nil))))) (.cons (.call 26 (.cons (.var 0) (.cons (.var 2) (.cons (.var 2) (.cons (.lst (.cons (.cst (.int 0)) (.cons (.cst (.int 1)) .nil))) .nil))))) .nil))) (.cons (.asg (.nm 15) (.call 22 (.cons (.var 1) (.cons (.var 13) .nil)))) (.cons (.ifs (.val (.cmp .ne (.blt .repr (.cons (.var 15) .nil)) (.blt .repr (.cons (.call 36 (.cons (.var 1) (.cons (.var 13) .nil))) .nil)))) (.cons (.ret (.cst (.bool false))) .nil) .nil) (.cons (.ifs (.val (.cmp .ne (.call 11 (.cons (.var 15) (.cons (.var 7) .nil))) (.call 11 (.cons (.var 1) (.cons (.blt .tuple (.cons (.lc (.bin .mod (.blt .int (.cons (.var 10) .nil)) (.cst (.int 2))) (.nm 10) (.seq (.call 29 (.cons (.var 13) (.cons (.var 7) .nil)))) .yes [10]) .nil)) .nil))))) (.cons (.ret (.cst (.bool false))) .nil) .nil) (.cons (.ifs (.val (.cmp .ne (.call 22 (.cons (.var 15) (.cons (.var 14) .nil))) (.call 22 (.cons (.var 1) (.cons (.call 33 (.cons (.call 28 (.cons (.var 13) (.cons (.var 14) .nil))) .nil)) .nil))))) (.cons (.ret (.cst (.bool false))) .nil) .nil) (.cons (.ifs (.and (.val (.cmp .eq (.call 34 (.cons (.var 13) .nil)) (.var 2))) (.val (.cmp .ne (.call 18 (.cons (.var 15) .nil)) (.call 18 (.cons (.var 1) .nil))))) (.cons (.ret (.cst (.bool false))) .nil) .nil) (.cons (.asg (.nm 16) (.blt .tuple (.cons (.lc (.blt .tuple (.cons (.lc (.blt .int (.cons (.cmp .eq (.var 10) (.var 11)) .nil)) (.nm 11) (.rng1 (.var 2)) .yes [11]) .nil)) (.nm 10) (.rng1 (.var 2)) .yes [10]) .nil))) (.cons (.ret (.cmp .eq (.call 22 (.cons (.var 1) (.cons (.var 16) .nil))) (.var 1))) .nil)))))))))
def rr10s (B : IB) : IB := (.cons (.asg (.nm 12) (.bin .mod (.blt .int (.cons (.blt .sum (.cons (.lc (.bin .mul (.var 10) (.var 11)) (.tp [10, 11]) (.zip (.var 7) (.call 29 (.cons (.var 4) (.cons (.var 8) .nil)))) .yes [10, 11]) .nil)) .nil)) (.cst (.int 2)))) B)
theorem rr10_eq : rr9 = rr10s rr10 := rfl
def rr11 : IB := (.cons (.par [13, 14] (.cons (.call 26 (.cons (.var 0) (.cons (.var 2) (.cons (.var 2) (.cons (.lst (.cons (.cst (.int 0)) (.cons (.cst (.int 1)) .nil))) .nil))))) (.cons (.call 26 (.cons (.var 0) (.cons (.var 2) (.cons (.var 2) (.cons (.lst (.cons (.cst (.int 0)) (.cons (.cst (.int 1)) .nil))) .nil))))) .nil))) (.cons (.asg (.nm 15) (.call 22 (.cons (.var 1) (.cons (.var 13) .nil)))) (.cons (.ifs (.val (.cmp .ne (.blt .repr (.cons (.var 15) .nil)) (.blt .repr (.cons (.call 36 (.cons (.var 1) (.cons (.var 13) .nil))) .nil)))) (.cons (.ret (.cst (.bool false))) .nil) .nil) (.cons (.ifs (.val (.cmp .ne (.call 11 (.cons (.var 15) (.cons (.var 7) .nil))) (.call 11 (.cons (.var 1) (.cons (.blt .tuple (.cons (.lc (.bin .mod (.blt .int (.cons (.var 10) .nil)) (.cst (.int 2))) (.nm 10) (.seq (.call 29 (.cons (.var 13) (.cons (.var 7) .nil)))) .yes [10]) .nil)) .nil))))) (.cons (.ret (.cst (.bool false))) .nil) .nil) (.cons (.ifs (.val (.cmp .ne (.call 22 (.cons (.var 15) (.cons (.var 14) .nil))) (.call 22 (.cons (.var 1) (.cons (.call 33 (.cons (.call 28 (.cons (.var 13) (.cons (.var 14) .nil))) .nil)) .nil))))) (.cons (.ret (.cst (.bool false))) .nil) .nil) (.cons (.ifs (.and (.val (.cmp .eq (.call 34 (.cons (.var 13) .nil)) (.var 2))) (.val (.cmp .ne (.call 18 (.cons (.var 15) .nil)) (.call 18 (.cons (.var 1) .nil))))) (.cons (.ret (.cst (.bool false))) .nil) .nil) (.cons (.asg (.nm 16) (.blt .tuple (.cons (.lc (.blt .tuple (.cons (.lc (.blt .int (.cons (.cmp .eq (.var 10) (.var 11)) .nil)) (.nm 11) (.rng1 (.var 2)) .yes [11]) .nil)) (.nm 10) (.rng1 (.var 2)) .yes [10]) .nil))) (.cons (.ret (.cmp .eq (.call 22 (.cons (.var 1) (.cons (.var 16) .nil))) (.var 1))) .nil))))))))
def rr11s (B : IB) : IB := (.cons (.ifs (.val (.cmp .ne (.bin .mod (.blt .int (.cons (.bin .add (.bin .add (.call 11 (.cons (.var 1) (.cons (.var 9) .nil))) (.call 11 (.cons (.var 1) (.cons (.var 7) .nil)))) (.call 11 (.cons (.var 1) (.cons (.var 8) .nil)))) .nil)) (.cst (.int 2))) (.var 12))) (.cons (.ret (.cst (.bool false))) .nil) .nil) B)
theorem rr11_eq : rr10 = rr11s rr11 := rfl
def rr12 : IB := (.cons (.asg (.nm 15) (.call 22 (.cons (.var 1) (.cons (.var 13) .nil)))) (.cons (.ifs (.val (.cmp .ne (.blt .repr (.cons (.var 15) .nil)) (.blt .repr (.cons (.call 36 (.cons (.var 1) (.cons (.var 13) .nil))) .nil)))) (.cons (.ret (.cst (.bool false))) .nil) .nil) (.cons (.ifs (.val (.cmp .ne (.call 11 (.cons (.var 15) (.cons (.var 7) .nil))) (.call 11 (.cons (.var 1) (.cons (.blt .tuple (.cons (.lc (.bin .mod (.blt .int (.cons (.var 10) .nil)) (.cst (.int 2))) (.nm 10) (.seq (.call 29 (.cons (.var 13) (.cons (.var 7) .nil)))) .yes [10]) .nil)) .nil))))) (.cons (.ret (.cst (.bool false))) .nil) .nil) (.cons (.ifs (.val (.cmp .ne (.call 22 (.cons (.var 15) (.cons (.var 14) .nil))) (.call 22 (.cons (.var 1) (.cons (.call 33 (.cons (.call 28 (.cons (.var 13) (.cons (.var 14) .nil))) .nil)) .nil))))) (.cons (.ret (.cst (.bool false))) .nil) .nil) (.cons (.ifs (.and (.val (.cmp .eq (.call 34 (.cons (.var 13) .nil)) (.var 2))) (.val (.cmp .ne (.call 18 (.cons (.var 15) .nil)) (.call 18 (.cons (.var 1) .nil))))) (.cons (.ret (.cst (.bool false))) .nil) .nil) (.cons (.asg (.nm 16) (.blt .tuple (.cons (.lc (.blt .tuple (.cons (.lc (.blt .int (.cons (.cmp .eq (.var 10) (.var 11)) .nil)) (.nm 11) (.rng1 (.var 2)) .yes [11]) .nil)) (.nm 10) (.rng1 (.var 2)) .yes [10]) .nil))) (.cons (.ret (.cmp .eq (.call 22 (.cons (.var 1) (.cons (.var 16) .nil))) (.var 1))) .nil)))))))
def rr12s (B : IB) : IB := (.cons (.par [13, 14] (.cons (.call 26 (.cons (.var 0) (.cons (.var 2) (.cons (.var 2) (.cons (.lst (.cons (.cst (.int 0)) (.cons (.cst (.int 1)) .nil))) .nil))))) (.cons (.call 26 (.cons (.var 0) (.cons (.var 2) (.cons (.var 2) (.cons (.lst (.cons (.cst (.int 0)) (.cons (.cst (.int 1)) .nil))) .nil))))) .nil))) B)
theorem rr12_eq : rr11 = rr12s rr12 := rfl
def rr13 : IB := (.cons (.ifs (.val (.cmp .ne (.blt .repr (.cons (.var 15) .nil)) (.blt .repr (.cons (.call 36 (.cons (.var 1) (.cons (.var 13) .nil))) .nil)))) (.cons (.ret (.cst (.bool false))) .nil) .nil) (.cons (.ifs (.val (.cmp .ne (.call 11 (.cons (.var 15) (.cons (.var 7) .nil))) (.call 11 (.cons (.var 1) (.cons (.blt .tuple (.cons (.lc (.bin .mod (.blt .int (.cons (.var 10) .nil)) (.cst (.int 2))) (.nm 10) (.seq (.call 29 (.cons (.var 13) (.cons (.var 7) .nil)))) .yes [10]) .nil)) .nil))))) (.cons (.ret (.cst (.bool false))) .nil) .nil) (.cons (.ifs (.val (.cmp .ne (.call 22 (.cons (.var 15) (.cons (.var 14) .nil))) (.call 22 (.cons (.var 1) (.cons (.call 33 (.cons (.call 28 (.cons (.var 13) (.cons (.var 14) .nil))) .nil)) .nil))))) (.cons (.ret (.cst (.bool false))) .nil) .nil) (.cons (.ifs (.and (.val (.cmp .eq (.call 34 (.cons (.var 13) .nil)) (.var 2))) (.val (.cmp .ne (.call 18 (.cons (.var 15) .nil)) (.call 18 (.cons (.var 1) .nil))))) (.cons (.ret (.cst (.bool false))) .nil) .nil) (.cons (.asg (.nm 16) (.blt .tuple (.cons (.lc (.blt .tuple (.cons (.lc (.blt .int (.cons (.cmp .eq (.var 10) (.var 11)) .nil)) (.nm 11) (.rng1 (.var 2)) .yes [11]) .nil)) (.nm 10) (.rng1 (.var 2)) .yes [10]) .nil))) (.cons (.ret (.cmp .eq (.call 22 (.cons (.var 1) (.cons (.var 16) .nil))) (.var 1))) .nil))))))
def rr13s (B : IB) : IB := (.cons (.asg (.nm 15) (.call 22 (.cons (.var 1) (.cons (.var 13) .nil)))) B)
theorem rr13_eq : rr12 = rr13s rr13 := rfl
def rr14 : IB := (.cons (.ifs (.val (.cmp .ne (.call 11 (.cons (.var 15) (.cons (.var 7) .nil))) (.call 11 (.cons (.var 1) (.cons (.blt .tuple (.cons (.lc (.bin .mod (.blt .int (.cons (.var 10) .nil)) (.cst (.int 2))) (.nm 10) (.seq (.call 29 (.cons (.var 13) (.cons (.var 7) .nil)))) .yes [10]) .nil)) .nil))))) (.cons (.ret (.cst (.bool false))) .nil) .nil) (.cons (.ifs (.val (.cmp .ne (.call 22 (.cons (.var 15) (.cons (.var 14) .nil))) (.call 22 (.cons (.var 1) (.cons (.call 33 (.cons (.call 28 (.cons (.var 13) (.cons (.var 14) .nil))) .nil)) .nil))))) (.cons (.ret (.cst (.bool false))) .nil) .nil) (.cons (.ifs (.and (.val (.cmp .eq (.call 34 (.cons (.var 13) .nil)) (.var 2))) (.val (.cmp .ne (.call 18 (.cons (.var 15) .nil)) (.call 18 (.cons (.var 1) .nil))))) (.cons (.ret (.cst (.bool false))) .nil) .nil) (.cons (.asg (.nm 16) (.blt .tuple (.cons (.lc (.blt .tuple (.cons (.lc (.blt .int (.cons (.cmp .eq (.var 10) (.var 11)) .nil)) (.nm 11) (.rng1 (.var 2)) .yes [11]) .nil)) (.nm 10) (.rng1 (.var 2)) .yes [10]) .nil))) (.cons (.ret (.cmp .eq (.call 22 (.cons (.var 1) (.cons (.var 16) .nil))) (.var 1))) .nil)))))
def rr14s (B : IB) : IB := (.cons (.ifs (.val (.cmp .ne (.blt .repr (.cons (.var 15) .nil)) (.blt .repr (.cons (.call 36 (.cons (.var 1) (.cons (.var 13) .nil))) .nil)))) (.cons (.ret (.cst (.bool false))) .nil) .nil) B)
theorem rr14_eq : rr13 = rr14s rr14 := rfl
def rr15 : IB := (.cons (.ifs (.val (.cmp .ne (.call 22 (.cons (.var 15) (.cons (.var 14) .nil))) (.call 22 (.cons (.var 1) (.cons (.call 33 (.cons (.call 28 (.cons (.var 13) (.cons (.var 14) .nil))) .nil)) .nil))))) (.cons (.ret (.cst (.bool false))) .nil) .nil) (.cons (.ifs (.and (.val (.cmp .eq (.call 34 (.cons (.var 13) .nil)) (.var 2))) (.val (.cmp .ne (.call 18 (.cons (.var 15) .nil)) (.call 18 (.cons (.var 1) .nil))))) (.cons (.ret (.cst (.bool false))) .nil) .nil) (.cons (.asg (.nm 16) (.blt .tuple (.cons (.lc (.blt .tuple (.cons (.lc (.blt .int (.cons (.cmp .eq (.var 10) (.var 11)) .nil)) (.nm 11) (.rng1 (.var 2)) .yes [11]) .nil)) (.nm 10) (.rng1 (.var 2)) .yes [10]) .nil))) (.cons (.ret (.cmp .eq (.call 22 (.cons (.var 1) (.cons (.var 16) .nil))) (.var 1))) .nil))))
def rr15s (B : IB) : IB := (.cons (.ifs (.val (.cmp .ne (.call 11 (.cons (.var 15) (.cons (.var 7) .nil))) (.call 11 (.cons (.var 1) (.cons (.blt .tuple (.cons (.lc (.bin .mod (.blt .int (.cons (.var 10) .nil)) (.cst (.int 2))) (.nm 10) (.seq (.call 29 (.cons (.var 13) (.cons (.var 7) .nil)))) .yes [10]) .nil)) .nil))))) (.cons (.ret (.cst (.bool false))) .nil) .nil) B)
theorem rr15_eq : rr14 = rr15s rr15 := rfl
def rr16 : IB := (.cons (.ifs (.and (.val (.cmp .eq (.call 34 (.cons (.var 13) .nil)) (.var 2))) (.val (.cmp .ne (.call 18 (.cons (.var 15) .nil)) (.call 18 (.cons (.var 1) .nil))))) (.cons (.ret (.cst (.bool false))) .nil) .nil) (.cons (.asg (.nm 16) (.blt .tuple (.cons (.lc (.blt .tuple (.cons (.lc (.blt .int (.cons (.cmp .eq (.var 10) (.var 11)) .nil)) (.nm 11) (.rng1 (.var 2)) .yes [11]) .nil)) (.nm 10) (.rng1 (.var 2)) .yes [10]) .nil))) (.cons (.ret (.cmp .eq (.call 22 (.cons (.var 1) (.cons (.var 16) .nil))) (.var 1))) .nil)))
def rr16s (B : IB) : IB := (.cons (.ifs (.val (.cmp .ne (.call 22 (.cons (.var 15) (.cons (.var 14) .nil))) (.call 22 (.cons (.var 1) (.cons (.call 33 (.cons (.call 28 (.cons (.var 13) (.cons (.var 14) .nil))) .nil)) .nil))))) (.cons (.ret (.cst (.bool false))) .nil) .nil) B)
theorem rr16_eq : rr15 = rr16s rr16 := rfl
def rr17 : IB := (.cons (.asg (.nm 16) (.blt .tuple (.cons (.lc (.blt .tuple (.cons (.lc (.blt .int (.cons (.cmp .eq (.var 10) (.var 11)) .nil)) (.nm 11) (.rng1 (.var 2)) .yes [11]) .nil)) (.nm 10) (.rng1 (.var 2)) .yes [10]) .nil))) (.cons (.ret (.cmp .eq (.call 22 (.cons (.var 1) (.cons (.var 16) .nil))) (.var 1))) .nil))
def rr17s (B : IB) : IB := (.cons (.ifs (.and (.val (.cmp .eq (.call 34 (.cons (.var 13) .nil)) (.var 2))) (.val (.cmp .ne (.call 18 (.cons (.var 15) .nil)) (.call 18 (.cons (.var 1) .nil))))) (.cons (.ret (.cst (.bool false))) .nil) .nil) B)
theorem rr17_eq : rr16 = rr17s rr17 := rfl

section
variable {N : En} {B : IB} {h : Hd} {r0 w3 w4 w5 w6 w7 w8 w9 w10 w11 w12 w13 w14 w15 w16 : Slot} {m : Nat} {q : Nat → Nat → Bool}
theorem rr_1 {h0 : Hd} {d : PD} (e1 : N.call 31 [.hnd, .dat (.int 4)] h0 = .ret (.dat d) false h) :
    xb N (rr1s B) ⟨[.val .hnd, .emp, .emp, w3, w4, w5, w6, w7, w8, w9, w10, w11, w12, w13, w14, w15, w16], h0⟩ = xb N B ⟨[.val .hnd, .val (.dat d), .emp, w3, w4, w5, w6, w7, w8, w9, w10, w11, w12, w13, w14, w15, w16], h⟩ := by
  unfold rr1s
  push_cast [e1]
theorem rr_2 {d : PD} {k : Int} (e1 : bltop .len [d] = some (.int k, false)) :
    xb N (rr2s B) ⟨[.val .hnd, .val (.dat d), .emp, w3, w4, w5, w6, w7, w8, w9, w10, w11, w12, w13, w14, w15, w16], h⟩ = xb N B ⟨[.val .hnd, .val (.dat d), .val (.dat (.int k)), w3, w4, w5, w6, w7, w8, w9, w10, w11, w12, w13, w14, w15, w16], h⟩ := by
  unfold rr2s
  push_cast [e1]
theorem rr_3 {d l p : PD} {k : Int} (e1 : N.call 30 [.dat (.int k)] h = .ret (.dat l) true h) (e2 : N.call 35 [.dat d] h = .ret (.dat p) false h) :
    xb N (rr3s B) ⟨[.val .hnd, .val (.dat d), .val (.dat (.int k)), .emp, .emp, w5, w6, w7, w8, w9, w10, w11, w12, w13, w14, w15, w16], h⟩ = xb N B ⟨[.val .hnd, .val (.dat d), .val (.dat (.int k)), .own l, .val (.dat p), w5, w6, w7, w8, w9, w10, w11, w12, w13, w14, w15, w16], h⟩ := by
  unfold rr3s
  push_cast [e1, e2]
theorem rr_4 {d p : PD} {k : Int} {xs : List Ln} {W : Ln → PD} (hl : xs.length ≤ 100000) (e1 : ∀ l, l ∈ xs → N.call 11 [.dat d, .dat (lnP l)] h = .ret (.dat (W l)) false h) :
    xb N (rr4s B) ⟨[.val .hnd, .val (.dat d), .val (.dat (.int k)), .own (.list (xs.map lnP)), .val (.dat p), .emp, .emp, w7, w8, w9, w10, w11, w12, w13, w14, w15, w16], h⟩ = xb N B ⟨[.val .hnd, .val (.dat d), .val (.dat (.int k)), .val (.dat (.list (xs.map lnP))), .val (.dat p), .own (.list (xs.map W)), .emp, w7, w8, w9, w10, w11, w12, w13, w14, w15, w16], h⟩ := by
  unfold rr4s
  push_cast [hl]
  generalize hL : lcL _ _ _ _ _ _ _ _ = L
  obtain rfl := lc_gen (g := W) hL fun l hl => by
    push_cast [e1 l hl]
  push_cast []
theorem rr_5 {d p : PD} {k : Int} {xs : List Ln} {W : Ln → PD} {sw sp : Str} (hl : xs.length ≤ 100000) (e1 : ∀ l, l ∈ xs → N.call 32 [.dat d, .dat (lnP l)] h = .ret (.dat (W l)) false h) (ew : bltop .repr [.list (xs.map W)] = some (.str sw, false))
    (e2 : N.call 13 [.dat d] h = .ret (.dat p) false h) (ep : bltop .repr [p] = some (.str sp, false)) :
    xb N (rr5s B) ⟨[.val .hnd, .val (.dat d), .val (.dat (.int k)), .val (.dat (.list (xs.map lnP))), .val (.dat p), .own (.list (xs.map W)), .emp, w7, w8, w9, w10, w11, w12, w13, w14, w15, w16], h⟩ = xb N B ⟨[.val .hnd, .val (.dat d), .val (.dat (.int k)), .val (.dat (.list (xs.map lnP))), .val (.dat p), .own (.list (xs.map W)), .emp, w7, w8, w9, w10, w11, w12, w13, w14, w15, w16], h⟩ := by
  unfold rr5s
  push_cast [ew, hl]
  generalize hL : lcL _ _ _ _ _ _ _ _ = L
  obtain rfl := lc_gen (g := W) hL fun l hl => by
    push_cast [e1 l hl]
  push_cast [ew, e2, ep, q_nec, eq_str, q_omap]
theorem rr_6 {d wl : PD} {w2 : Slot} {a b : PD} {sw : Str} (e1 : N.call 16 [.dat d] h = .ret (.dat (.tuple [a, b])) false h) (c0 : mthop .count wl [.int 0] = some a) (c1 : mthop .count wl [.int 1] = some b) (hw : mthd .count (some wl) = true) (ew : bltop .repr [.tuple [a, b]] = some (.str sw, false)) :
    xb N (rr6s B) ⟨[.val .hnd, .val (.dat d), w2, w3, w4, .own wl, .emp, w7, w8, w9, w10, w11, w12, w13, w14, w15, w16], h⟩ = xb N B ⟨[.val .hnd, .val (.dat d), w2, w3, w4, .own wl, .emp, w7, w8, w9, w10, w11, w12, w13, w14, w15, w16], h⟩ := by
  unfold rr6s
  push_cast [e1, ew, c0, c1, q_mth1, hw, if_true, q_nec, eq_str, q_omap]
theorem rr_7 {d : PD} {w2 : Slot} {a : PD} {sw : Str} (e1 : N.call 18 [.dat d] h = .ret (.dat a) false h) (e2 : N.call 37 [.dat d] h = .ret (.dat a) false h) (ew : bltop .repr [a] = some (.str sw, false)) :
    xb N (rr7s B) ⟨[.val .hnd, .val (.dat d), w2, w3, w4, w5, w6, w7, w8, w9, w10, w11, w12, w13, w14, w15, w16], h⟩ = xb N B ⟨[.val .hnd, .val (.dat d), w2, w3, w4, w5, w6, w7, w8, w9, w10, w11, w12, w13, w14, w15, w16], h⟩ := by
  unfold rr7s
  push_cast [e1, e2, ew, q_nec, eq_str, q_omap]
theorem rr_8 {l a b : PD} {w1 w2 : Slot} {h1 h2 : Hd} (e1 : N.call 25 [.hnd, .dat l] h = .ret (.dat a) false h1) (e2 : N.call 25 [.hnd, .dat l] h1 = .ret (.dat b) false h2) :
    xb N (rr8s B) ⟨[.val .hnd, w1, w2, .val (.dat l), w4, w5, w6, .emp, .emp, w9, w10, w11, w12, w13, w14, w15, w16], h⟩ = xb N B ⟨[.val .hnd, w1, w2, .val (.dat l), w4, w5, w6, .val (.dat a), .val (.dat b), w9, w10, w11, w12, w13, w14, w15, w16], h2⟩ := by
  unfold rr8s
  push_cast [e1, e2]
theorem rr_9 {x y : Nat → Bool} {w1 w2 : Slot} (hm : m ≤ 100000) :
    xb N (rr9s B) ⟨[.val .hnd, w1, w2, w3, w4, w5, w6, .val (.dat (iL m (xb' x))), .val (.dat (iL m (xb' y))), .emp, .emp, .emp, w12, w13, w14, w15, w16], h⟩ = xb N B ⟨[.val .hnd, w1, w2, w3, w4, w5, w6, .val (.dat (iL m (xb' x))), .val (.dat (iL m (xb' y))), .val (.dat (iL m (xb' fun i => x i ^^ y i))), .emp, .emp, w12, w13, w14, w15, w16], h⟩ := by
  unfold rr9s
  push_cast [zip_rng, List.length_range, hm]
  generalize hL : lcL _ _ _ _ _ _ _ _ = L
  obtain rfl := lc_rng (g := fun i => .int (bI (x i ^^ y i))) hL fun i hi => by
    push_cast [bI_add2]
  push_cast []
theorem rr_10 {x : Nat → Bool} {p : PD} {g : Nat → Int} {w1 w2 : Slot} {yd : PD} {r : Int} (hm : m ≤ 100000) (e1 : N.call 29 [.dat p, .dat yd] h = .ret (.dat (iL m g)) false h) (er : (sumN m fun i => bI (x i) * g i) % 2 = r) :
    xb N (rr10s B) ⟨[.val .hnd, w1, w2, w3, .val (.dat p), w5, w6, .val (.dat (iL m (xb' x))), .val (.dat yd), w9, .emp, .emp, .emp, w13, w14, w15, w16], h⟩ = xb N B ⟨[.val .hnd, w1, w2, w3, .val (.dat p), w5, w6, .val (.dat (iL m (xb' x))), .val (.dat yd), w9, .emp, .emp, .val (.dat (.int r)), w13, w14, w15, w16], h⟩ := by
  unfold rr10s
  push_cast [e1, zip_rng, List.length_range, hm]
  generalize hL : lcL _ _ _ _ _ _ _ _ = L
  obtain rfl := lc_rng hL fun i hi => by
    push_cast [bI_lo, bI_hi]
    exact rfl
  push_cast [sum_rl, er]
theorem rr_11 {d a b c : PD} {w2 : Slot} {i j k r : Int} (e1 : N.call 11 [.dat d, .dat c] h = .ret (.dat (.int i)) false h) (e2 : N.call 11 [.dat d, .dat a] h = .ret (.dat (.int j)) false h) (e3 : N.call 11 [.dat d, .dat b] h = .ret (.dat (.int k)) false h) (er : (i + j + k) % 2 = r) :
    xb N (rr11s B) ⟨[.val .hnd, .val (.dat d), w2, w3, w4, w5, w6, .val (.dat a), .val (.dat b), .val (.dat c), w10, w11, .val (.dat (.int r)), w13, w14, w15, w16], h⟩ = xb N B ⟨[.val .hnd, .val (.dat d), w2, w3, w4, w5, w6, .val (.dat a), .val (.dat b), .val (.dat c), w10, w11, .val (.dat (.int r)), w13, w14, w15, w16], h⟩ := by
  unfold rr11s
  push_cast [e1, e2, e3, er, q_nec, q_eqi, decide_true, q_omap]
theorem rr_12 {a b : PD} {w1 : Slot} {k : Int} {h1 h2 : Hd} (e1 : N.call 26 [.hnd, .dat (.int k), .dat (.int k), .dat (.list [.int 0, .int 1])] h = .ret (.dat a) false h1) (e2 : N.call 26 [.hnd, .dat (.int k), .dat (.int k), .dat (.list [.int 0, .int 1])] h1 = .ret (.dat b) false h2) :
    xb N (rr12s B) ⟨[.val .hnd, w1, .val (.dat (.int k)), w3, w4, w5, w6, w7, w8, w9, w10, w11, w12, .emp, .emp, w15, w16], h⟩ = xb N B ⟨[.val .hnd, w1, .val (.dat (.int k)), w3, w4, w5, w6, w7, w8, w9, w10, w11, w12, .val (.dat a), .val (.dat b), w15, w16], h2⟩ := by
  unfold rr12s
  push_cast [e1, e2]
theorem rr_13 {d a b : PD} {w2 : Slot} (e1 : N.call 22 [.dat d, .dat a] h = .ret (.dat b) false h) :
    xb N (rr13s B) ⟨[.val .hnd, .val (.dat d), w2, w3, w4, w5, w6, w7, w8, w9, w10, w11, w12, .val (.dat a), w14, .emp, w16], h⟩ = xb N B ⟨[.val .hnd, .val (.dat d), w2, w3, w4, w5, w6, w7, w8, w9, w10, w11, w12, .val (.dat a), w14, .val (.dat b), w16], h⟩ := by
  unfold rr13s
  push_cast [e1]
theorem rr_14 {d a b : PD} {w2 : Slot} {sw : Str} (e1 : N.call 36 [.dat d, .dat a] h = .ret (.dat b) false h) (ew : bltop .repr [b] = some (.str sw, false)) :
    xb N (rr14s B) ⟨[.val .hnd, .val (.dat d), w2, w3, w4, w5, w6, w7, w8, w9, w10, w11, w12, .val (.dat a), w14, .val (.dat b), w16], h⟩ = xb N B ⟨[.val .hnd, .val (.dat d), w2, w3, w4, w5, w6, w7, w8, w9, w10, w11, w12, .val (.dat a), w14, .val (.dat b), w16], h⟩ := by
  unfold rr14s
  push_cast [e1, ew, q_nec, eq_str, q_omap]
theorem rr_15 {d a b c : PD} {w2 : Slot} {x : Nat → Bool} {g : Nat → Int} {i : Int} (hm : m ≤ 100000) (e1 : N.call 11 [.dat b, .dat c] h = .ret (.dat (.int i)) false h) (e2 : N.call 29 [.dat a, .dat c] h = .ret (.dat (iL m g)) false h) (eg : ∀ i, g i % 2 = bI (x i)) (e3 : N.call 11 [.dat d, .dat (iL m (xb' x))] h = .ret (.dat (.int i)) false h) :
    xb N (rr15s B) ⟨[.val .hnd, .val (.dat d), w2, w3, w4, w5, w6, .val (.dat c), w8, w9, .emp, w11, w12, .val (.dat a), w14, .val (.dat b), w16], h⟩ = xb N B ⟨[.val .hnd, .val (.dat d), w2, w3, w4, w5, w6, .val (.dat c), w8, w9, .emp, w11, w12, .val (.dat a), w14, .val (.dat b), w16], h⟩ := by
  unfold rr15s
  push_cast [e1, e2, List.length_range, hm]
  generalize hL : lcL _ _ _ _ _ _ _ _ = L
  obtain rfl := lc_rng (g := fun i => .int (bI (x i))) hL fun i hi => by
    push_cast [eg]
  push_cast [e3, q_nec, q_eqi, decide_true, q_omap]
theorem rr_16 {d a b c p r s : PD} {w2 : Slot} (e1 : N.call 22 [.dat b, .dat c] h = .ret (.dat r) false h) (e2 : N.call 28 [.dat a, .dat c] h = .ret (.dat p) false h) (e3 : N.call 33 [.dat p] h = .ret (.dat s) false h) (e4 : N.call 22 [.dat d, .dat s] h = .ret (.dat r) false h) (hr : shal 40 r = true) :
    xb N (rr16s B) ⟨[.val .hnd, .val (.dat d), w2, w3, w4, w5, w6, w7, w8, w9, w10, w11, w12, .val (.dat a), .val (.dat c), .val (.dat b), w16], h⟩ = xb N B ⟨[.val .hnd, .val (.dat d), w2, w3, w4, w5, w6, w7, w8, w9, w10, w11, w12, .val (.dat a), .val (.dat c), .val (.dat b), w16], h⟩ := by
  unfold rr16s
  push_cast [e1, e2, e3, e4, q_nec, eq_self hr, q_omap]
theorem rr_17 {d a b k1 k2 : PD} {k r : Int} (e1 : N.call 34 [.dat a] h = .ret (.dat (.int r)) false h) (e2 : N.call 18 [.dat b] h = .ret (.dat k1) false h) (e3 : N.call 18 [.dat d] h = .ret (.dat k2) false h) (hk : r = k → eqop k1 k2 = some true) :
    xb N (rr17s B) ⟨[.val .hnd, .val (.dat d), .val (.dat (.int k)), w3, w4, w5, w6, w7, w8, w9, w10, w11, w12, .val (.dat a), w14, .val (.dat b), w16], h⟩ = xb N B ⟨[.val .hnd, .val (.dat d), .val (.dat (.int k)), w3, w4, w5, w6, w7, w8, w9, w10, w11, w12, .val (.dat a), w14, .val (.dat b), w16], h⟩ := by
  unfold rr17s
  by_cases e : r = k
  · push_cast [e1, q_eqi, decide_eq_true e]
    push_cast [e2, e3, q_nec, hk e, q_omap]
  · push_cast [e1, q_eqi, decide_eq_false e]
theorem rr_18 {d : PD} (hm : m ≤ 100000) (e1 : N.call 22 [.dat d, .dat (iM m m (fb fun a b => decide (b = a)))] h = .ret (.dat d) false h) (hr : shal 40 d = true) :
    xb N rr17 ⟨[.val .hnd, .val (.dat d), .val (.dat (.int (m : Int))), w3, w4, w5, w6, w7, w8, w9, .emp, .emp, w12, w13, w14, w15, .emp], h⟩ = .ret ⟨.dat (.bool true), false⟩ ⟨[.val .hnd, .val (.dat d), .val (.dat (.int (m : Int))), w3, w4, w5, w6, w7, w8, w9, .emp, .emp, w12, w13, w14, w15, .val (.dat (iM m m (fb fun a b => decide (b = a))))], h⟩ := by
  have z1 : (m : Int) ≤ 100000 ∧ (-100000 : Int) ≤ (m : Int) := by omega
  unfold rr17
  push_cast [q_rng1 z1, Int.toNat_natCast, rng_n, List.length_range, hm]
  generalize hL : lcL _ _ _ _ _ _ _ _ = L
  obtain rfl := lc_rng (g := fun a => iL m (xb' fun b => decide (b = a))) hL fun a ha => by
    push_cast [q_rng1 z1, Int.toNat_natCast, rng_n, List.length_range, hm]
    generalize hL : lcL _ _ _ _ _ _ _ _ = L
    obtain rfl := lc_rng (g := fun b => .int (bI (decide (b = a)))) hL fun b hb => by
      push_cast [q_eqi, show decide ((a : Int) = (b : Int)) = decide (b = a) from decide_eq_decide.mpr (by omega)]
      rfl
    push_cast []
  push_cast [e1, eq_self hr]
end
end
open PySem Pev
section
variable (wf n : Nat)
theorem c_law_right {hd : List PD} (H : HandOk hd) (hw : 100 ≤ wf) : ∃ hd', HandOk hd' ∧ callF tb wf (n + 7) 40 [.hnd] (some hd) = .ret (.dat (.bool true)) false (some hd') := by
  obtain ⟨m, q, hd1, H1, Q, e1⟩ := c_law_q wf (n + 2) H
  have n1 := Q.n1
  have n4 := Q.n4
  have m1 : m ≤ 1000 := by omega
  have m2 : m ≤ 100000 := by omega
  have l256 : (linesL m).length ≤ 256 := lines_le (by omega)
  have ne : linesL m ≠ [] := List.ne_nil_of_mem (mem_lines.mpr (zeroL_len m))
  obtain ⟨l1, hd2, H2, hl1, e8⟩ := c_any wf (n + 4) H1 lnP ne (by omega)
  obtain ⟨l2, hd3, H3, hl2, e8'⟩ := c_any wf (n + 4) H2 lnP ne (by omega)
  rw [lnP_f (mem_lines.mp hl1)] at e8
  rw [lnP_f (mem_lines.mp hl2)] at e8'
  obtain ⟨t, hd4, H4, e12⟩ := c_law_rowsB wf (n + 3) H3 (m := m) (w := m) [false, true] (by simp) (by simp) m1 m1
  obtain ⟨u, hd5, H5, e12'⟩ := c_law_rowsB wf (n + 3) H4 (m := m) (w := m) [false, true] (by simp) (by simp) m1 m1
  rw [← bitsL] at e12 e12'
  refine ⟨hd5, H5, ?_⟩
  generalize bf l1 = x at e8
  generalize bf l2 = y at e8'
  have Qt := byQ_isQ Q t
  have hw1 := repr_ok (rokLb (linesL m) (fun l => Wq m q (bf l)) (by omega)) (by omega) (by omega) rfl
  have hp1 := repr_ok (rokM (m := m) (w := m) (Pq q) (by omega) (by omega)) (by omega) (by omega) rfl
  have hp2 := repr_ok (rokP (zC_le q n4) (oC_le q n4)) (by omega) (by omega) rfl
  have hp3 := repr_ok (rokP (rk_le (Pq q) n4) (zC_le q n4)) (by omega) (by omega) rfl
  have hp4 := repr_ok (rokM (m := m) (w := m) (byQ m q t) (by omega) (by omega)) (by omega) (by omega) rfl
  have k1 := c_law_linesQ wf (n + 5) (some hd1) n1 (by omega : m ≤ 8)
  have k2 := c_law_pairs_of wf (n + 4) q (by omega : 0 < m) m1 (some hd1)
  have k3 : ∀ l, l ∈ linesL m → callF tb wf (n + 6) 11 [.dat (iM m m (fb q)), .dat (lnP l)] (some hd1) = .ret (.dat (.int (bI (Wq m q (bf l))))) false (some hd1) := fun l hl => by rw [lnP_f (mem_lines.mp hl)]; exact c_q_worth wf n (some hd1) Q (bf l)
  have k4 : ∀ l, l ∈ linesL m → callF tb wf (n + 6) 32 [.dat (iM m m (fb q)), .dat (lnP l)] (some hd1) = .ret (.dat (.int (bI (Wq m q (bf l))))) false (some hd1) := fun l hl => by rw [lnP_f (mem_lines.mp hl)]; exact c_law_worth wf (n + 5) Q.up (bf l) m1 (some hd1)
  have k5 := c_q_pairs wf n (some hd1) Q
  have k6 := c_q_counts wf n (some hd1) Q
  have k7 := c_q_marks wf n (some hd1) Q
  have k8 := c_law_marks wf (n + 3) (h := some hd1) Q.up n1 (by omega : m ≤ 8) (by omega : m < wf)
  have k9 := c_law_led wf (n + 5) (some hd3) (fb (Pq q)) (xb' y) (fun i _ j _ => small_bI _) m1 m1
  have k10 := c_q_worth wf n (some hd3) Q
  have k11 := three_mod (Wq m q fun i => x i ^^ y i) (Wq m q x) (Wq m q y)
  have k12 : ((Wq m q fun i => x i ^^ y i) ^^ Wq m q x ^^ Wq m q y) = Bq m (Pq q) x y := by
    rw [polar Q.up]
    cases Wq m q x <;> cases Wq m q y <;> cases Bq m (Pq q) x y <;> rfl
  rw [k12] at k11
  have k13 := c_q_by wf n (some hd5) Q t
  have k14 := c_law_q_by wf (n + 4) (some hd5) Q t
  have k15 := c_q_worth wf n (some hd5) Qt x
  have k16 := c_law_led wf (n + 5) (some hd5) (fb t) (xb' x) (fun i _ j _ => small_bI _) m1 m1
  have k17 := c_q_worth wf n (some hd5) Q (led m t x)
  rw [W_led Q.up] at k17
  have k18 := c_q_by wf n (some hd5) Qt u
  have k19 := c_law_product wf (n + 4) (some hd5) (fb t) (fb u) (fun i _ j _ => small_bI _) (by omega : 0 < m) m1 m1 m1
  have k20 := c_law_mod wf (n + 5) (some hd5) (m := m) (w := m) (fun i j => sumN m fun l => fb t i l * fb u l j) m1 m1
  rw [iM_congr (m := m) (w := m) (g := fb fun i j => xrs m fun k => t i k && u k j) fun i _ j _ => prod_int m t u i j] at k20
  have k21 := c_q_by wf n (some hd5) Q fun i j => xrs m fun k => t i k && u k j
  rw [iM_congr (m := m) (w := m) (f := fb (byQ m q fun i j => xrs m fun k => t i k && u k j)) (g := fb (byQ m (byQ m q t) u)) fun i hi j hj => congrArg bI (byQ_two Q.up hi hj).symm] at k21
  have k22 := c_law_rank_M wf (n + 5) (some hd5) t m1 (by omega : m < wf)
  have k23 := c_q_marks wf n (some hd5) Q
  have k24 := c_q_marks wf n (some hd5) Qt
  have k25 : ((rkM m t : Nat) : Int) = ((m : Nat) : Int) → eqop (.tuple [.int (rkM m (Pq (byQ m q t)) : Nat), .int (zC m (byQ m q t) : Nat)]) (.tuple [.int (rkM m (Pq q) : Nat), .int (zC m q : Nat)]) = some true := fun e => by
    have hk : (spanL m (rowsF m t)).length = 2 ^ m := by
      obtain ⟨k, hk, _⟩ := c_law_rank_two wf n (c := rowsF m t) (rowsF_len m t) (by rw [rowsF_n]; exact m1) m1 (by rw [rowsF_n]; omega) none
      rw [hk, rk_of hk]
      congr 1
      omega
    obtain ⟨a, b⟩ := marks_stay (q := q) Q.up hk
    rw [eq_ip, a, b, decide_eq_true rfl, decide_eq_true rfl]
    rfl
  have k26 := c_q_by wf n (some hd5) Q fun a b => decide (b = a)
  rw [iM_congr (m := m) (w := m) (f := fb (byQ m q fun a b => decide (b = a))) (g := fb q) fun i hi j hj => congrArg bI (byQ_unit Q.up hi hj)] at k26
  have s1 : shal 40 (iM m m (fb (byQ m (byQ m q t) u))) = true := shal_iM _
  have s2 : shal 40 (iM m m (fb q)) = true := shal_iM _
  rw [e_law_right]
  rw [rr1_eq, rr_1 (N := EN tb wf (n + 6) nB) e1, rr2_eq, rr_2 (N := EN tb wf (n + 6) nB) (k := (m : Int)) (by rw [q_lent, len_r]), rr3_eq, rr_3 (N := EN tb wf (n + 6) nB) k1 k2, rr4_eq, rr_4 (N := EN tb wf (n + 6) nB) (by omega) k3,
    rr5_eq, rr_5 (N := EN tb wf (n + 6) nB) (by omega) k4 hw1 k5 hp1, rr6_eq, rr_6 (N := EN tb wf (n + 6) nB) k6 (count_0 _ _) (count_1 _ _) rfl hp2, rr7_eq, rr_7 (N := EN tb wf (n + 6) nB) k7 k8 hp3,
    rr8_eq, rr_8 (N := EN tb wf (n + 6) nB) e8 e8', rr9_eq, rr_9 m2, rr10_eq, rr_10 (N := EN tb wf (n + 6) nB) m2 k9 (bent_int m (Pq q) x y), rr11_eq, rr_11 (N := EN tb wf (n + 6) nB) (k10 _) (k10 _) (k10 _) k11,
    rr12_eq, rr_12 (N := EN tb wf (n + 6) nB) e12 e12', rr13_eq, rr_13 (N := EN tb wf (n + 6) nB) k13, rr14_eq, rr_14 (N := EN tb wf (n + 6) nB) k14 hp4, rr15_eq, rr_15 (N := EN tb wf (n + 6) nB) m2 k15 k16 (fun i => led_int m t x i) k17,
    rr16_eq, rr_16 (N := EN tb wf (n + 6) nB) k18 k19 k20 k21 s1, rr17_eq, rr_17 (N := EN tb wf (n + 6) nB) k22 k24 k23 k25, rr_18 (N := EN tb wf (n + 6) nB) m2 k26 s2]
  rfl
end
open PySem Pev
abbrev sP (x : String) : PD := .str (PySem.Str.ofString x)
inductive Deep : PD → Prop
  | base : Deep (.tuple [sP "deep"])
  | tup {d : PD} : Deep d → Deep (.tuple [d])
  | lst {d : PD} : Deep d → Deep (.list [d])
  | dct {d : PD} : Deep d → Deep (.dict [(.int 0, d)])
abbrev noT (d : PD) : Prop := bltop .isTuple [d] = some (.bool false, false)
abbrev noI (d : PD) : Prop := bltop .isInt [d] = some (.bool false, false)
def NoBits (d : PD) : Prop := noT d ∨ ∃ x, d = .tuple [x] ∧ noI x
def NoSq (d : PD) : Prop := noT d ∨ ∃ x, d = .tuple [x] ∧ NoBits x
theorem Deep.noI {d : PD} (h : Deep d) : noI d := by cases h <;> rfl
theorem Deep.bits {d : PD} (h : Deep d) : NoBits d := by
  cases h with
  | base => exact .inr ⟨_, rfl, rfl⟩
  | tup h => exact .inr ⟨_, rfl, h.noI⟩
  | lst h => exact .inl rfl
  | dct h => exact .inl rfl
theorem Deep.sq {d : PD} (h : Deep d) : NoSq d := by
  cases h with
  | base => exact .inr ⟨_, rfl, .inl rfl⟩
  | tup h => exact .inr ⟨_, rfl, h.bits⟩
  | lst h => exact .inl rfl
  | dct h => exact .inl rfl
section
variable (wf n : Nat)
theorem c_law_deep {hd : List PD} (H : HandOk hd) : ∃ (d : PD) (hd' : List PD), HandOk hd' ∧ Deep d ∧ callF tb wf (n + 3) 38 [.hnd] (some hd) = .ret (.dat d) false (some hd') := by
  obtain ⟨k, hd1, H1, hk, e1⟩ := c_draw wf (n + 1) H (m := 30) (by omega) (by omega)
  have e1 : callF tb wf (n + 2) 24 [.hnd, .dat (.int 30)] (some hd) = .ret (.dat (.int k)) false (some hd1) := e1
  have z1 : (k : Int) ≤ 100000 ∧ (-100000 : Int) ≤ (k : Int) := by omega
  rw [e_law_deep]
  push_cast [b_law_deep, e1, q_rng1 z1, Int.toNat_natCast, rng_n]
  generalize hF : fl _ _ _ _ _ = F
  obtain ⟨s', rfl, d, a, hd2, D, H2, rfl⟩ := fl_rng hF (fun p s => ∃ d a hd, Deep d ∧ HandOk hd ∧ s = ⟨[.val .hnd, .val (.dat d), a], some hd⟩) ⟨_, _, _, .base, H1, rfl⟩ fun p hp s ⟨d, a, hd, D, H, hs⟩ => by
    subst hs
    obtain ⟨x, hd', H', hx, e⟩ := c_any0 wf n H (xs := [.tuple [d], .list [d], .dict [(.int 0, d)]]) (by simp) (by simp)
    push_cast [e]
    refine ⟨_, rfl, x, _, hd', ?_, H', rfl⟩
    simp only [List.mem_cons, List.not_mem_nil, or_false] at hx
    rcases hx with rfl | rfl | rfl
    · exact .tup D
    · exact .lst D
    · exact .dct D
  push_cast []
  exact ⟨d, hd2, H2, D, rfl⟩
variable (h : Hd)
theorem c_is_tuple_no {d : PD} (hd : noT d) (lo hi : PD) : callF tb wf (n + 1) 2 [.dat d, .dat lo, .dat hi] h = .ret (.dat (.bool false)) false h := by
  rw [e_is_tuple]
  push_cast [b_is_tuple, hd]
theorem c_is_within_no {d : PD} (hd : noI d) (lo hi : PD) : callF tb wf (n + 2) 1 [.dat d, .dat lo, .dat hi] h = .ret (.dat (.bool false)) false h := by
  have e : callF tb wf (n + 1) 0 [.dat d] h = .ret (.dat (.bool false)) false h := by
    rw [e_is_integer]
    push_cast [b_is_integer, hd]
  rw [e_is_within]
  push_cast [b_is_within, e]
theorem c_is_bits_no {d : PD} (hd : NoBits d) (k : Int) : callF tb wf (n + 3) 7 [.dat d, .dat (.int k)] h = .ret (.dat (.bool false)) false h := by
  rw [e_is_bits]
  rcases hd with hd | ⟨x, rfl, hx⟩
  · push_cast [b_is_bits, c_is_tuple_no wf _ h hd]
  · push_cast [b_is_bits, c_is_tuple]
    cases (decide (k ≤ (([x] : List PD).length : Int)) && decide ((([x] : List PD).length : Int) ≤ k)) with
    | false => push_cast []
    | true =>
      have z : ([x] : List PD).length ≤ 100000 := by simp
      have z2 : [x] = (List.range 1).map fun _ => x := rfl
      push_cast [z]
      rw [z2]
      generalize hL : lcL _ _ _ _ _ _ _ _ = L
      obtain rfl := lc_rng (g := fun _ => .bool false) hL fun i hi => by
        push_cast [c_is_within_no wf _ h hx]
      have f1 : bltop .all [.list ((List.range 1).map fun _ => PyData.bool false)] = some (.bool false, false) := rfl
      push_cast [f1]
theorem c_is_bsq_no {d : PD} (hd : NoSq d) (k : Int) : callF tb wf (n + 4) 8 [.dat d, .dat (.int k)] h = .ret (.dat (.bool false)) false h := by
  rw [e_is_bit_square]
  rcases hd with hd | ⟨x, rfl, hx⟩
  · push_cast [b_is_bit_square, c_is_tuple_no wf _ h hd]
  · push_cast [b_is_bit_square, c_is_tuple]
    cases (decide (k ≤ (([x] : List PD).length : Int)) && decide ((([x] : List PD).length : Int) ≤ k)) with
    | false => push_cast []
    | true =>
      have z : ([x] : List PD).length ≤ 100000 := by simp
      have z2 : [x] = (List.range 1).map fun _ => x := rfl
      push_cast [z]
      rw [z2]
      generalize hL : lcL _ _ _ _ _ _ _ _ = L
      obtain rfl := lc_rng (g := fun _ => .bool false) hL fun i hi => by
        push_cast [c_is_bits_no wf _ h hx]
      have f1 : bltop .all [.list ((List.range 1).map fun _ => PyData.bool false)] = some (.bool false, false) := rfl
      push_cast [f1]
theorem c_check_q_no {d : PD} (hd : NoSq d) : callF tb wf (n + 5) 9 [.dat d] h = .exc 1 h := by
  rw [e_check_q]
  rcases hd with hd | ⟨x, rfl, hx⟩
  · push_cast [b_check_q, c_is_tuple_no wf _ h hd]
  · have e1 : (decide ((1 : Int) ≤ (([x] : List PD).length : Int)) && decide ((([x] : List PD).length : Int) ≤ 4)) = true := rfl
    push_cast [b_check_q, c_is_tuple, e1, c_is_bsq_no wf _ h (.inr ⟨x, rfl, hx⟩)]
end
open PySem Pev
def rf1 : IB := (.cons (.asg (.nm 1) (.lst (.cons (.cst .none) (.cons (.tup .nil) (.cons (.lst (.cons (.cst (.int 1)) (.cons (.cst (.int 0)) .nil))) (.cons (.tup (.cons (.cst (.int 1)) .nil)) (.cons (.tup (.cons (.cst (.int 1)) (.cons (.cst (.int 0)) (.cons (.cst (.int 0)) .nil)))) (.cons (.tup (.cons (.cst (.int 2)) (.cons (.cst (.int 0)) .nil))) .nil)))))))) (.cons (.asg (.nm 3) (.call 25 (.cons (.var 0) (.cons (.bin .add (.var 1) (.lst (.cons (.tup (.cons (.neg (.cst (.int 1))) (.cons (.cst (.int 0)) .nil))) (.cons (.tup (.cons (.cst (.bool true)) (.cons (.cst (.int 0)) .nil))) (.cons (.tup (.cons (.cst (.str (PySem.Str.ofString "1"))) (.cons (.cst (.int 0)) .nil))) (.cons (.cst (.int 0)) (.cons .dnil (.cons (.call 38 (.cons (.var 0) .nil)) .nil)))))))) .nil)))) (.cons (.asg (.nm 1) (.lst (.cons (.cst .none) (.cons (.tup .nil) (.cons (.lst (.cons (.tup (.cons (.cst (.int 1)) (.cons (.cst (.int 0)) .nil))) (.cons (.tup (.cons (.cst (.int 0)) (.cons (.cst (.int 1)) .nil))) .nil))) (.cons (.tup (.cons (.tup (.cons (.cst (.int 1)) (.cons (.cst (.int 0)) .nil))) .nil)) (.cons (.tup (.cons (.tup (.cons (.cst (.int 1)) (.cons (.cst (.int 0)) .nil))) (.cons (.tup (.cons (.cst (.int 2)) (.cons (.cst (.int 1)) .nil))) .nil))) (.cons (.tup (.cons (.tup (.cons (.cst (.int 1)) .nil)) .nil)) (.cons (.tup (.cons (.tup (.cons (.cst (.int 1)) (.cons (.cst (.int 0)) .nil))) (.cons (.tup (.cons (.cst (.int 0)) (.cons (.neg (.cst (.int 1))) .nil))) .nil))) .nil))))))))) (.cons (.asg (.nm 1) (.bin .add (.var 1) (.lst (.cons (.tup (.cons (.tup (.cons (.cst (.bool true)) (.cons (.cst (.int 0)) .nil))) (.cons (.tup (.cons (.cst (.int 0)) (.cons (.cst (.int 1)) .nil))) .nil))) (.cons (.cst (.int 0)) (.cons .dnil .nil)))))) (.cons (.asg (.nm 4) (.call 25 (.cons (.var 0) (.cons (.bin .add (.var 1) (.lst (.cons (.bin .mul (.tup (.cons (.tup (.cons (.cst (.int 1)) (.cons (.cst (.int 0)) (.cons (.cst (.int 0)) .nil)))) .nil)) (.cst (.int 3))) (.cons (.call 38 (.cons (.var 0) .nil)) .nil)))) .nil)))) (.cons (.asg (.nm 5) (.tup (.cons (.tup (.cons (.cst (.int 1)) (.cons (.cst (.int 1)) .nil))) (.cons (.tup (.cons (.cst (.int 0)) (.cons (.cst (.int 1)) .nil))) .nil)))) (.cons (.asg (.nm 6) (.lst (.cons (.lam 39 (.call 11 (.cons (.var 2) (.cons (.var 3) .nil)))) .nil))) (.cons (.app 6 (.lam 39 (.call 13 (.cons (.var 2) .nil)))) (.cons (.app 6 (.lam 39 (.call 16 (.cons (.var 2) .nil)))) (.cons (.app 6 (.lam 39 (.call 18 (.cons (.var 2) .nil)))) (.cons (.app 6 (.lam 39 (.call 22 (.cons (.var 2) (.cons (.var 4) .nil))))) (.cons (.app 6 (.lam 39 (.call 11 (.cons (.var 5) (.cons (.var 3) .nil))))) (.cons (.app 6 (.lam 39 (.call 22 (.cons (.var 5) (.cons (.var 4) .nil))))) (.cons (.ret (.cmp .eq (.var 6) (.bin .add (.bin .mul (.lst (.cons (.tup (.cons (.cst (.str (PySem.Str.ofString "q"))) (.cons (.cst .none) .nil))) .nil)) (.cst (.int 5))) (.lst (.cons (.tup (.cons (.cst (.str (PySem.Str.ofString "line"))) (.cons (.cst .none) .nil))) (.cons (.tup (.cons (.cst (.str (PySem.Str.ofString "turn"))) (.cons (.cst .none) .nil))) .nil)))))) .nil))))))))))))))
def rf1s (B : IB) : IB := (.cons (.asg (.nm 1) (.lst (.cons (.cst .none) (.cons (.tup .nil) (.cons (.tup (.cons (.tup .nil) .nil)) (.cons (.lst (.cons (.tup (.cons (.cst (.int 1)) .nil)) .nil)) (.cons (.tup (.cons (.tup (.cons (.cst (.int 2)) .nil)) .nil)) (.cons (.tup (.cons (.tup (.cons (.neg (.cst (.int 1))) .nil)) .nil)) (.cons (.tup (.cons (.tup (.cons (.cst (.int 1)) (.cons (.cst (.int 0)) .nil))) .nil)) (.cons (.tup (.cons (.tup (.cons (.cst (.int 1)) (.cons (.cst (.int 0)) .nil))) (.cons (.tup (.cons (.cst (.int 1)) (.cons (.cst (.int 0)) .nil))) .nil))) (.cons (.tup (.cons (.tup (.cons (.cst (.bool true)) .nil)) .nil)) (.cons (.tup (.cons (.tup (.cons (.lst (.cons (.cst (.int 1)) .nil)) .nil)) .nil)) (.cons (.cst (.int 0)) (.cons .dnil .nil)))))))))))))) (.cons (.asg (.nm 2) (.call 25 (.cons (.var 0) (.cons (.bin .add (.var 1) (.lst (.cons (.bin .mul (.tup (.cons (.bin .mul (.tup (.cons (.cst (.int 0)) .nil)) (.cst (.int 5))) .nil)) (.cst (.int 5))) (.cons (.tup (.cons (.tup (.cons (.cst .none) .nil)) .nil)) (.cons (.tup (.cons (.tup (.cons (.cst (.str (PySem.Str.ofString "1"))) .nil)) .nil)) (.cons (.call 38 (.cons (.var 0) .nil)) .nil)))))) .nil)))) B))
theorem rf1_eq : b_law_refused_right = rf1s rf1 := rfl
def rf2 : IB := (.cons (.asg (.nm 1) (.lst (.cons (.cst .none) (.cons (.tup .nil) (.cons (.lst (.cons (.tup (.cons (.cst (.int 1)) (.cons (.cst (.int 0)) .nil))) (.cons (.tup (.cons (.cst (.int 0)) (.cons (.cst (.int 1)) .nil))) .nil))) (.cons (.tup (.cons (.tup (.cons (.cst (.int 1)) (.cons (.cst (.int 0)) .nil))) .nil)) (.cons (.tup (.cons (.tup (.cons (.cst (.int 1)) (.cons (.cst (.int 0)) .nil))) (.cons (.tup (.cons (.cst (.int 2)) (.cons (.cst (.int 1)) .nil))) .nil))) (.cons (.tup (.cons (.tup (.cons (.cst (.int 1)) .nil)) .nil)) (.cons (.tup (.cons (.tup (.cons (.cst (.int 1)) (.cons (.cst (.int 0)) .nil))) (.cons (.tup (.cons (.cst (.int 0)) (.cons (.neg (.cst (.int 1))) .nil))) .nil))) .nil))))))))) (.cons (.asg (.nm 1) (.bin .add (.var 1) (.lst (.cons (.tup (.cons (.tup (.cons (.cst (.bool true)) (.cons (.cst (.int 0)) .nil))) (.cons (.tup (.cons (.cst (.int 0)) (.cons (.cst (.int 1)) .nil))) .nil))) (.cons (.cst (.int 0)) (.cons .dnil .nil)))))) (.cons (.asg (.nm 4) (.call 25 (.cons (.var 0) (.cons (.bin .add (.var 1) (.lst (.cons (.bin .mul (.tup (.cons (.tup (.cons (.cst (.int 1)) (.cons (.cst (.int 0)) (.cons (.cst (.int 0)) .nil)))) .nil)) (.cst (.int 3))) (.cons (.call 38 (.cons (.var 0) .nil)) .nil)))) .nil)))) (.cons (.asg (.nm 5) (.tup (.cons (.tup (.cons (.cst (.int 1)) (.cons (.cst (.int 1)) .nil))) (.cons (.tup (.cons (.cst (.int 0)) (.cons (.cst (.int 1)) .nil))) .nil)))) (.cons (.asg (.nm 6) (.lst (.cons (.lam 39 (.call 11 (.cons (.var 2) (.cons (.var 3) .nil)))) .nil))) (.cons (.app 6 (.lam 39 (.call 13 (.cons (.var 2) .nil)))) (.cons (.app 6 (.lam 39 (.call 16 (.cons (.var 2) .nil)))) (.cons (.app 6 (.lam 39 (.call 18 (.cons (.var 2) .nil)))) (.cons (.app 6 (.lam 39 (.call 22 (.cons (.var 2) (.cons (.var 4) .nil))))) (.cons (.app 6 (.lam 39 (.call 11 (.cons (.var 5) (.cons (.var 3) .nil))))) (.cons (.app 6 (.lam 39 (.call 22 (.cons (.var 5) (.cons (.var 4) .nil))))) (.cons (.ret (.cmp .eq (.var 6) (.bin .add (.bin .mul (.lst (.cons (.tup (.cons (.cst (.str (PySem.Str.ofString "q"))) (.cons (.cst .none) .nil))) .nil)) (.cst (.int 5))) (.lst (.cons (.tup (.cons (.cst (.str (PySem.Str.ofString "line"))) (.cons (.cst .none) .nil))) (.cons (.tup (.cons (.cst (.str (PySem.Str.ofString "turn"))) (.cons (.cst .none) .nil))) .nil)))))) .nil))))))))))))
def rf2s (B : IB) : IB := (.cons (.asg (.nm 1) (.lst (.cons (.cst .none) (.cons (.tup .nil) (.cons (.lst (.cons (.cst (.int 1)) (.cons (.cst (.int 0)) .nil))) (.cons (.tup (.cons (.cst (.int 1)) .nil)) (.cons (.tup (.cons (.cst (.int 1)) (.cons (.cst (.int 0)) (.cons (.cst (.int 0)) .nil)))) (.cons (.tup (.cons (.cst (.int 2)) (.cons (.cst (.int 0)) .nil))) .nil)))))))) (.cons (.asg (.nm 3) (.call 25 (.cons (.var 0) (.cons (.bin .add (.var 1) (.lst (.cons (.tup (.cons (.neg (.cst (.int 1))) (.cons (.cst (.int 0)) .nil))) (.cons (.tup (.cons (.cst (.bool true)) (.cons (.cst (.int 0)) .nil))) (.cons (.tup (.cons (.cst (.str (PySem.Str.ofString "1"))) (.cons (.cst (.int 0)) .nil))) (.cons (.cst (.int 0)) (.cons .dnil (.cons (.call 38 (.cons (.var 0) .nil)) .nil)))))))) .nil)))) B))
theorem rf2_eq : rf1 = rf2s rf2 := rfl
def rf3 : IB := (.cons (.asg (.nm 5) (.tup (.cons (.tup (.cons (.cst (.int 1)) (.cons (.cst (.int 1)) .nil))) (.cons (.tup (.cons (.cst (.int 0)) (.cons (.cst (.int 1)) .nil))) .nil)))) (.cons (.asg (.nm 6) (.lst (.cons (.lam 39 (.call 11 (.cons (.var 2) (.cons (.var 3) .nil)))) .nil))) (.cons (.app 6 (.lam 39 (.call 13 (.cons (.var 2) .nil)))) (.cons (.app 6 (.lam 39 (.call 16 (.cons (.var 2) .nil)))) (.cons (.app 6 (.lam 39 (.call 18 (.cons (.var 2) .nil)))) (.cons (.app 6 (.lam 39 (.call 22 (.cons (.var 2) (.cons (.var 4) .nil))))) (.cons (.app 6 (.lam 39 (.call 11 (.cons (.var 5) (.cons (.var 3) .nil))))) (.cons (.app 6 (.lam 39 (.call 22 (.cons (.var 5) (.cons (.var 4) .nil))))) (.cons (.ret (.cmp .eq (.var 6) (.bin .add (.bin .mul (.lst (.cons (.tup (.cons (.cst (.str (PySem.Str.ofString "q"))) (.cons (.cst .none) .nil))) .nil)) (.cst (.int 5))) (.lst (.cons (.tup (.cons (.cst (.str (PySem.Str.ofString "line"))) (.cons (.cst .none) .nil))) (.cons (.tup (.cons (.cst (.str (PySem.Str.ofString "turn"))) (.cons (.cst .none) .nil))) .nil)))))) .nil)))))))))
def rf3s (B : IB) : IB := (.cons (.asg (.nm 1) (.lst (.cons (.cst .none) (.cons (.tup .nil) (.cons (.lst (.cons (.tup (.cons (.cst (.int 1)) (.cons (.cst (.int 0)) .nil))) (.cons (.tup (.cons (.cst (.int 0)) (.cons (.cst (.int 1)) .nil))) .nil))) (.cons (.tup (.cons (.tup (.cons (.cst (.int 1)) (.cons (.cst (.int 0)) .nil))) .nil)) (.cons (.tup (.cons (.tup (.cons (.cst (.int 1)) (.cons (.cst (.int 0)) .nil))) (.cons (.tup (.cons (.cst (.int 2)) (.cons (.cst (.int 1)) .nil))) .nil))) (.cons (.tup (.cons (.tup (.cons (.cst (.int 1)) .nil)) .nil)) (.cons (.tup (.cons (.tup (.cons (.cst (.int 1)) (.cons (.cst (.int 0)) .nil))) (.cons (.tup (.cons (.cst (.int 0)) (.cons (.neg (.cst (.int 1))) .nil))) .nil))) .nil))))))))) (.cons (.asg (.nm 1) (.bin .add (.var 1) (.lst (.cons (.tup (.cons (.tup (.cons (.cst (.bool true)) (.cons (.cst (.int 0)) .nil))) (.cons (.tup (.cons (.cst (.int 0)) (.cons (.cst (.int 1)) .nil))) .nil))) (.cons (.cst (.int 0)) (.cons .dnil .nil)))))) (.cons (.asg (.nm 4) (.call 25 (.cons (.var 0) (.cons (.bin .add (.var 1) (.lst (.cons (.bin .mul (.tup (.cons (.tup (.cons (.cst (.int 1)) (.cons (.cst (.int 0)) (.cons (.cst (.int 0)) .nil)))) .nil)) (.cst (.int 3))) (.cons (.call 38 (.cons (.var 0) .nil)) .nil)))) .nil)))) B)))
theorem rf3_eq : rf2 = rf3s rf3 := rfl
def rf4 : IB := (.cons (.asg (.nm 6) (.lst (.cons (.lam 39 (.call 11 (.cons (.var 2) (.cons (.var 3) .nil)))) .nil))) (.cons (.app 6 (.lam 39 (.call 13 (.cons (.var 2) .nil)))) (.cons (.app 6 (.lam 39 (.call 16 (.cons (.var 2) .nil)))) (.cons (.app 6 (.lam 39 (.call 18 (.cons (.var 2) .nil)))) (.cons (.app 6 (.lam 39 (.call 22 (.cons (.var 2) (.cons (.var 4) .nil))))) (.cons (.app 6 (.lam 39 (.call 11 (.cons (.var 5) (.cons (.var 3) .nil))))) (.cons (.app 6 (.lam 39 (.call 22 (.cons (.var 5) (.cons (.var 4) .nil))))) (.cons (.ret (.cmp .eq (.var 6) (.bin .add (.bin .mul (.lst (.cons (.tup (.cons (.cst (.str (PySem.Str.ofString "q"))) (.cons (.cst .none) .nil))) .nil)) (.cst (.int 5))) (.lst (.cons (.tup (.cons (.cst (.str (PySem.Str.ofString "line"))) (.cons (.cst .none) .nil))) (.cons (.tup (.cons (.cst (.str (PySem.Str.ofString "turn"))) (.cons (.cst .none) .nil))) .nil)))))) .nil))))))))
def rf4s (B : IB) : IB := (.cons (.asg (.nm 5) (.tup (.cons (.tup (.cons (.cst (.int 1)) (.cons (.cst (.int 1)) .nil))) (.cons (.tup (.cons (.cst (.int 0)) (.cons (.cst (.int 1)) .nil))) .nil)))) B)
theorem rf4_eq : rf3 = rf4s rf4 := rfl
def rf5 : IB := (.cons (.app 6 (.lam 39 (.call 13 (.cons (.var 2) .nil)))) (.cons (.app 6 (.lam 39 (.call 16 (.cons (.var 2) .nil)))) (.cons (.app 6 (.lam 39 (.call 18 (.cons (.var 2) .nil)))) (.cons (.app 6 (.lam 39 (.call 22 (.cons (.var 2) (.cons (.var 4) .nil))))) (.cons (.app 6 (.lam 39 (.call 11 (.cons (.var 5) (.cons (.var 3) .nil))))) (.cons (.app 6 (.lam 39 (.call 22 (.cons (.var 5) (.cons (.var 4) .nil))))) (.cons (.ret (.cmp .eq (.var 6) (.bin .add (.bin .mul (.lst (.cons (.tup (.cons (.cst (.str (PySem.Str.ofString "q"))) (.cons (.cst .none) .nil))) .nil)) (.cst (.int 5))) (.lst (.cons (.tup (.cons (.cst (.str (PySem.Str.ofString "line"))) (.cons (.cst .none) .nil))) (.cons (.tup (.cons (.cst (.str (PySem.Str.ofString "turn"))) (.cons (.cst .none) .nil))) .nil)))))) .nil)))))))
def rf5s (B : IB) : IB := (.cons (.asg (.nm 6) (.lst (.cons (.lam 39 (.call 11 (.cons (.var 2) (.cons (.var 3) .nil)))) .nil))) B)
theorem rf5_eq : rf4 = rf5s rf5 := rfl
def rf6 : IB := (.cons (.app 6 (.lam 39 (.call 16 (.cons (.var 2) .nil)))) (.cons (.app 6 (.lam 39 (.call 18 (.cons (.var 2) .nil)))) (.cons (.app 6 (.lam 39 (.call 22 (.cons (.var 2) (.cons (.var 4) .nil))))) (.cons (.app 6 (.lam 39 (.call 11 (.cons (.var 5) (.cons (.var 3) .nil))))) (.cons (.app 6 (.lam 39 (.call 22 (.cons (.var 5) (.cons (.var 4) .nil))))) (.cons (.ret (.cmp .eq (.var 6) (.bin .add (.bin .mul (.lst (.cons (.tup (.cons (.cst (.str (PySem.Str.ofString "q"))) (.cons (.cst .none) .nil))) .nil)) (.cst (.int 5))) (.lst (.cons (.tup (.cons (.cst (.str (PySem.Str.ofString "line"))) (.cons (.cst .none) .nil))) (.cons (.tup (.cons (.cst (.str (PySem.Str.ofString "turn"))) (.cons (.cst .none) .nil))) .nil)))))) .nil))))))
def rf6s (B : IB) : IB := (.cons (.app 6 (.lam 39 (.call 13 (.cons (.var 2) .nil)))) B)
theorem rf6_eq : rf5 = rf6s rf6 := rfl
def rf7 : IB := (.cons (.app 6 (.lam 39 (.call 18 (.cons (.var 2) .nil)))) (.cons (.app 6 (.lam 39 (.call 22 (.cons (.var 2) (.cons (.var 4) .nil))))) (.cons (.app 6 (.lam 39 (.call 11 (.cons (.var 5) (.cons (.var 3) .nil))))) (.cons (.app 6 (.lam 39 (.call 22 (.cons (.var 5) (.cons (.var 4) .nil))))) (.cons (.ret (.cmp .eq (.var 6) (.bin .add (.bin .mul (.lst (.cons (.tup (.cons (.cst (.str (PySem.Str.ofString "q"))) (.cons (.cst .none) .nil))) .nil)) (.cst (.int 5))) (.lst (.cons (.tup (.cons (.cst (.str (PySem.Str.ofString "line"))) (.cons (.cst .none) .nil))) (.cons (.tup (.cons (.cst (.str (PySem.Str.ofString "turn"))) (.cons (.cst .none) .nil))) .nil)))))) .nil)))))
def rf7s (B : IB) : IB := (.cons (.app 6 (.lam 39 (.call 16 (.cons (.var 2) .nil)))) B)
theorem rf7_eq : rf6 = rf7s rf7 := rfl
def rf8 : IB := (.cons (.app 6 (.lam 39 (.call 22 (.cons (.var 2) (.cons (.var 4) .nil))))) (.cons (.app 6 (.lam 39 (.call 11 (.cons (.var 5) (.cons (.var 3) .nil))))) (.cons (.app 6 (.lam 39 (.call 22 (.cons (.var 5) (.cons (.var 4) .nil))))) (.cons (.ret (.cmp .eq (.var 6) (.bin .add (.bin .mul (.lst (.cons (.tup (.cons (.cst (.str (PySem.Str.ofString "q"))) (.cons (.cst .none) .nil))) .nil)) (.cst (.int 5))) (.lst (.cons (.tup (.cons (.cst (.str (PySem.Str.ofString "line"))) (.cons (.cst .none) .nil))) (.cons (.tup (.cons (.cst (.str (PySem.Str.ofString "turn"))) (.cons (.cst .none) .nil))) .nil)))))) .nil))))
def rf8s (B : IB) : IB := (.cons (.app 6 (.lam 39 (.call 18 (.cons (.var 2) .nil)))) B)
theorem rf8_eq : rf7 = rf8s rf8 := rfl
def rf9 : IB := (.cons (.app 6 (.lam 39 (.call 11 (.cons (.var 5) (.cons (.var 3) .nil))))) (.cons (.app 6 (.lam 39 (.call 22 (.cons (.var 5) (.cons (.var 4) .nil))))) (.cons (.ret (.cmp .eq (.var 6) (.bin .add (.bin .mul (.lst (.cons (.tup (.cons (.cst (.str (PySem.Str.ofString "q"))) (.cons (.cst .none) .nil))) .nil)) (.cst (.int 5))) (.lst (.cons (.tup (.cons (.cst (.str (PySem.Str.ofString "line"))) (.cons (.cst .none) .nil))) (.cons (.tup (.cons (.cst (.str (PySem.Str.ofString "turn"))) (.cons (.cst .none) .nil))) .nil)))))) .nil)))
def rf9s (B : IB) : IB := (.cons (.app 6 (.lam 39 (.call 22 (.cons (.var 2) (.cons (.var 4) .nil))))) B)
theorem rf9_eq : rf8 = rf9s rf9 := rfl
def rf10 : IB := (.cons (.app 6 (.lam 39 (.call 22 (.cons (.var 5) (.cons (.var 4) .nil))))) (.cons (.ret (.cmp .eq (.var 6) (.bin .add (.bin .mul (.lst (.cons (.tup (.cons (.cst (.str (PySem.Str.ofString "q"))) (.cons (.cst .none) .nil))) .nil)) (.cst (.int 5))) (.lst (.cons (.tup (.cons (.cst (.str (PySem.Str.ofString "line"))) (.cons (.cst .none) .nil))) (.cons (.tup (.cons (.cst (.str (PySem.Str.ofString "turn"))) (.cons (.cst .none) .nil))) .nil)))))) .nil))
def rf10s (B : IB) : IB := (.cons (.app 6 (.lam 39 (.call 11 (.cons (.var 5) (.cons (.var 3) .nil))))) B)
theorem rf10_eq : rf9 = rf10s rf10 := rfl
def rf11 : IB := (.cons (.ret (.cmp .eq (.var 6) (.bin .add (.bin .mul (.lst (.cons (.tup (.cons (.cst (.str (PySem.Str.ofString "q"))) (.cons (.cst .none) .nil))) .nil)) (.cst (.int 5))) (.lst (.cons (.tup (.cons (.cst (.str (PySem.Str.ofString "line"))) (.cons (.cst .none) .nil))) (.cons (.tup (.cons (.cst (.str (PySem.Str.ofString "turn"))) (.cons (.cst .none) .nil))) .nil)))))) .nil)
def rf11s (B : IB) : IB := (.cons (.app 6 (.lam 39 (.call 22 (.cons (.var 5) (.cons (.var 4) .nil))))) B)
theorem rf11_eq : rf10 = rf11s rf11 := rfl

abbrev iT (xs : List Int) : PD := .tuple (xs.map .int)
def badsQ (d : PD) : List PD := [.none, .tuple [], .tuple [.tuple []], .list [.tuple [.int 1]], .tuple [.tuple [.int 2]], .tuple [.tuple [.int (-1)]], .tuple [.tuple [.int 1, .int 0]], .tuple [.tuple [.int 1, .int 0], .tuple [.int 1, .int 0]], .tuple [.tuple [.bool true]], .tuple [.tuple [.list [.int 1]]], .int 0, .dict [],
  .tuple [.tuple [.int 0, .int 0, .int 0, .int 0, .int 0], .tuple [.int 0, .int 0, .int 0, .int 0, .int 0], .tuple [.int 0, .int 0, .int 0, .int 0, .int 0], .tuple [.int 0, .int 0, .int 0, .int 0, .int 0], .tuple [.int 0, .int 0, .int 0, .int 0, .int 0]], .tuple [.tuple [.none]], .tuple [.tuple [sP "1"]], d]
def linesQ (d : PD) : List PD := [.none, .tuple [], .list [.int 1, .int 0], .tuple [.int 1], .tuple [.int 1, .int 0, .int 0], .tuple [.int 2, .int 0], .tuple [.int (-1), .int 0], .tuple [.bool true, .int 0], .tuple [sP "1", .int 0], .int 0, .dict [], d]
def turnsQ (d : PD) : List PD := [.none, .tuple [], .list [.tuple [.int 1, .int 0], .tuple [.int 0, .int 1]], .tuple [.tuple [.int 1, .int 0]], .tuple [.tuple [.int 1, .int 0], .tuple [.int 2, .int 1]], .tuple [.tuple [.int 1]], .tuple [.tuple [.int 1, .int 0], .tuple [.int 0, .int (-1)]], .tuple [.tuple [.bool true, .int 0], .tuple [.int 0, .int 1]], .int 0, .dict [],
  .tuple [.tuple [.int 1, .int 0, .int 0], .tuple [.int 1, .int 0, .int 0], .tuple [.int 1, .int 0, .int 0]], d]
def badsQ0 : List PD := [.none, .tuple [], .tuple [.tuple []], .list [.tuple [.int 1]], .tuple [.tuple [.int 2]], .tuple [.tuple [.int (-1)]], .tuple [.tuple [.int 1, .int 0]], .tuple [.tuple [.int 1, .int 0], .tuple [.int 1, .int 0]], .tuple [.tuple [.bool true]], .tuple [.tuple [.list [.int 1]]], .int 0, .dict []]
def linesQ0 : List PD := [.none, .tuple [], .list [.int 1, .int 0], .tuple [.int 1], .tuple [.int 1, .int 0, .int 0], .tuple [.int 2, .int 0]]
def turnsQ0 : List PD := [.none, .tuple [], .list [.tuple [.int 1, .int 0], .tuple [.int 0, .int 1]], .tuple [.tuple [.int 1, .int 0]], .tuple [.tuple [.int 1, .int 0], .tuple [.int 2, .int 1]], .tuple [.tuple [.int 1]], .tuple [.tuple [.int 1, .int 0], .tuple [.int 0, .int (-1)]], .tuple [.tuple [.bool true, .int 0], .tuple [.int 0, .int 1]], .int 0, .dict []]
def rightQ : PD := .tuple [.tuple [.int 1, .int 1], .tuple [.int 0, .int 1]]
theorem b5 : binop .mul (.tuple [.int 0]) (.int 5) = some (.tuple [.int 0, .int 0, .int 0, .int 0, .int 0], false) := by rfl
theorem b55 : binop .mul (.tuple [.tuple [.int 0, .int 0, .int 0, .int 0, .int 0]]) (.int 5) = some (.tuple [.tuple [.int 0, .int 0, .int 0, .int 0, .int 0], .tuple [.int 0, .int 0, .int 0, .int 0, .int 0], .tuple [.int 0, .int 0, .int 0, .int 0, .int 0], .tuple [.int 0, .int 0, .int 0, .int 0, .int 0], .tuple [.int 0, .int 0, .int 0, .int 0, .int 0]], false) := by rfl
theorem b3 : binop .mul (.tuple [.tuple [.int 1, .int 0, .int 0]]) (.int 3) = some (.tuple [.tuple [.int 1, .int 0, .int 0], .tuple [.int 1, .int 0, .int 0], .tuple [.int 1, .int 0, .int 0]], false) := by rfl
section
variable {N : En} {B : IB} {h h1 h2 : Hd} {w1 w2 w3 w4 w5 w6 : Slot}
theorem rf_1 {d b : PD} (e1 : N.call 38 [.hnd] h = .ret (.dat d) false h1) (e2 : N.call 25 [.hnd, .dat (.list (badsQ d))] h1 = .ret (.dat b) false h2) :
    xb N (rf1s B) ⟨[.val .hnd, .emp, .emp, w3, w4, w5, w6], h⟩ = xb N B ⟨[.val .hnd, .own (.list badsQ0), .val (.dat b), w3, w4, w5, w6], h2⟩ := by
  unfold badsQ at e2
  have a1 : ∀ a b c d e f g i j k l m x y z u : PD, binop .add (.list [a, b, c, d, e, f, g, i, j, k, l, m]) (.list [x, y, z, u]) = some (.list [a, b, c, d, e, f, g, i, j, k, l, m, x, y, z, u], true) := fun _ _ _ _ _ _ _ _ _ _ _ _ _ _ _ _ => rfl
  unfold rf1s badsQ0
  push_cast [q_negD, e1, b5, b55, a1, e2]
theorem rf_2 {d b : PD} (e1 : N.call 38 [.hnd] h = .ret (.dat d) false h1) (e2 : N.call 25 [.hnd, .dat (.list (linesQ d))] h1 = .ret (.dat b) false h2) :
    xb N (rf2s B) ⟨[.val .hnd, w1, w2, .emp, w4, w5, w6], h⟩ = xb N B ⟨[.val .hnd, .own (.list linesQ0), w2, .val (.dat b), w4, w5, w6], h2⟩ := by
  unfold linesQ at e2
  have a1 : ∀ a b c d e f x y z u v w : PD, binop .add (.list [a, b, c, d, e, f]) (.list [x, y, z, u, v, w]) = some (.list [a, b, c, d, e, f, x, y, z, u, v, w], true) := fun _ _ _ _ _ _ _ _ _ _ _ _ => rfl
  unfold rf2s linesQ0
  push_cast [q_negD, e1, a1, e2]
theorem rf_3 {d b : PD} (e1 : N.call 38 [.hnd] h = .ret (.dat d) false h1) (e2 : N.call 25 [.hnd, .dat (.list (turnsQ d))] h1 = .ret (.dat b) false h2) :
    xb N (rf3s B) ⟨[.val .hnd, w1, w2, w3, .emp, w5, w6], h⟩ = xb N B ⟨[.val .hnd, .own (.list turnsQ0), w2, w3, .val (.dat b), w5, w6], h2⟩ := by
  unfold turnsQ at e2
  have a1 : ∀ a b c d e f g x y z : PD, binop .add (.list [a, b, c, d, e, f, g]) (.list [x, y, z]) = some (.list [a, b, c, d, e, f, g, x, y, z], true) := fun _ _ _ _ _ _ _ _ _ _ => rfl
  have a2 : ∀ a b c d e f g x y z u v : PD, binop .add (.list [a, b, c, d, e, f, g, x, y, z]) (.list [u, v]) = some (.list [a, b, c, d, e, f, g, x, y, z, u, v], true) := fun _ _ _ _ _ _ _ _ _ _ _ _ => rfl
  unfold rf3s turnsQ0
  push_cast [q_negD, e1, a1, b3, a2, e2]
theorem rf_4 : xb N (rf4s B) ⟨[.val .hnd, w1, w2, w3, w4, .emp, w6], h⟩ = xb N B ⟨[.val .hnd, w1, w2, w3, w4, .val (.dat rightQ), w6], h⟩ := by
  unfold rf4s
  push_cast []
  rfl
section
variable {b l t D : PD} {ws : List PD} {w : PD} {c : Nat} (el : ∀ act : Hd → FO, act h = .exc c h → N.lamc 39 act h = .ret (.dat w) false h)
include el
theorem rf_5 (e : N.call 11 [.dat b, .dat l] h = .exc c h) :
    xb N (rf5s B) ⟨[.val .hnd, .own D, .val (.dat b), .val (.dat l), .val (.dat t), .val (.dat rightQ), .emp], h⟩ = xb N B ⟨[.val .hnd, .own D, .val (.dat b), .val (.dat l), .val (.dat t), .val (.dat rightQ), .own (.list [w])], h⟩ := by
  unfold rf5s
  push_cast []
  rw [el]
  · push_cast []
  · unfold clo
    push_cast [e]
theorem rf_6 (hl : ws.length < 100000) (e : N.call 13 [.dat b] h = .exc c h) :
    xb N (rf6s B) ⟨[.val .hnd, .own D, .val (.dat b), .val (.dat l), .val (.dat t), .val (.dat rightQ), .own (.list ws)], h⟩ = xb N B ⟨[.val .hnd, .own D, .val (.dat b), .val (.dat l), .val (.dat t), .val (.dat rightQ), .own (.list (ws ++ [w]))], h⟩ := by
  unfold rf6s
  push_cast []
  rw [el]
  · push_cast [hl]
  · unfold clo
    push_cast [e]
theorem rf_7 (hl : ws.length < 100000) (e : N.call 16 [.dat b] h = .exc c h) :
    xb N (rf7s B) ⟨[.val .hnd, .own D, .val (.dat b), .val (.dat l), .val (.dat t), .val (.dat rightQ), .own (.list ws)], h⟩ = xb N B ⟨[.val .hnd, .own D, .val (.dat b), .val (.dat l), .val (.dat t), .val (.dat rightQ), .own (.list (ws ++ [w]))], h⟩ := by
  unfold rf7s
  push_cast []
  rw [el]
  · push_cast [hl]
  · unfold clo
    push_cast [e]
theorem rf_8 (hl : ws.length < 100000) (e : N.call 18 [.dat b] h = .exc c h) :
    xb N (rf8s B) ⟨[.val .hnd, .own D, .val (.dat b), .val (.dat l), .val (.dat t), .val (.dat rightQ), .own (.list ws)], h⟩ = xb N B ⟨[.val .hnd, .own D, .val (.dat b), .val (.dat l), .val (.dat t), .val (.dat rightQ), .own (.list (ws ++ [w]))], h⟩ := by
  unfold rf8s
  push_cast []
  rw [el]
  · push_cast [hl]
  · unfold clo
    push_cast [e]
theorem rf_9 (hl : ws.length < 100000) (e : N.call 22 [.dat b, .dat t] h = .exc c h) :
    xb N (rf9s B) ⟨[.val .hnd, .own D, .val (.dat b), .val (.dat l), .val (.dat t), .val (.dat rightQ), .own (.list ws)], h⟩ = xb N B ⟨[.val .hnd, .own D, .val (.dat b), .val (.dat l), .val (.dat t), .val (.dat rightQ), .own (.list (ws ++ [w]))], h⟩ := by
  unfold rf9s
  push_cast []
  rw [el]
  · push_cast [hl]
  · unfold clo
    push_cast [e]
theorem rf_10 (hl : ws.length < 100000) (e : N.call 11 [.dat rightQ, .dat l] h = .exc c h) :
    xb N (rf10s B) ⟨[.val .hnd, .own D, .val (.dat b), .val (.dat l), .val (.dat t), .val (.dat rightQ), .own (.list ws)], h⟩ = xb N B ⟨[.val .hnd, .own D, .val (.dat b), .val (.dat l), .val (.dat t), .val (.dat rightQ), .own (.list (ws ++ [w]))], h⟩ := by
  unfold rf10s
  push_cast []
  rw [el]
  · push_cast [hl]
  · unfold clo
    push_cast [e]
theorem rf_11 (hl : ws.length < 100000) (e : N.call 22 [.dat rightQ, .dat t] h = .exc c h) :
    xb N (rf11s B) ⟨[.val .hnd, .own D, .val (.dat b), .val (.dat l), .val (.dat t), .val (.dat rightQ), .own (.list ws)], h⟩ = xb N B ⟨[.val .hnd, .own D, .val (.dat b), .val (.dat l), .val (.dat t), .val (.dat rightQ), .own (.list (ws ++ [w]))], h⟩ := by
  unfold rf11s
  push_cast []
  rw [el]
  · push_cast [hl]
  · unfold clo
    push_cast [e]
end
theorem rf_12 {D b l t x : PD} : xb N rf11 ⟨[.val .hnd, .own D, .val (.dat b), .val (.dat l), .val (.dat t), .val (.dat x), .own (.list [.tuple [sP "q", .none], .tuple [sP "q", .none], .tuple [sP "q", .none], .tuple [sP "q", .none], .tuple [sP "q", .none], .tuple [sP "line", .none], .tuple [sP "turn", .none]])], h⟩ = .ret ⟨.dat (.bool true), false⟩ ⟨[.val .hnd, .own D, .val (.dat b), .val (.dat l), .val (.dat t), .val (.dat x), .own (.list [.tuple [sP "q", .none], .tuple [sP "q", .none], .tuple [sP "q", .none], .tuple [sP "q", .none], .tuple [sP "q", .none], .tuple [sP "line", .none], .tuple [sP "turn", .none]])], h⟩ := by
  have m5 : binop .mul (.list [.tuple [sP "q", .none]]) (.int 5) = some (.list [.tuple [sP "q", .none], .tuple [sP "q", .none], .tuple [sP "q", .none], .tuple [sP "q", .none], .tuple [sP "q", .none]], true) := by rfl
  have a2 : ∀ a b c d e f g : PD, binop .add (.list [a, b, c, d, e]) (.list [f, g]) = some (.list [a, b, c, d, e, f, g], true) := fun _ _ _ _ _ _ _ => rfl
  have eq : eqop (.list [.tuple [sP "q", .none], .tuple [sP "q", .none], .tuple [sP "q", .none], .tuple [sP "q", .none], .tuple [sP "q", .none], .tuple [sP "line", .none], .tuple [sP "turn", .none]]) (.list [.tuple [sP "q", .none], .tuple [sP "q", .none], .tuple [sP "q", .none], .tuple [sP "q", .none], .tuple [sP "q", .none], .tuple [sP "line", .none], .tuple [sP "turn", .none]]) = some true := by kernel_rfl
  unfold rf11
  push_cast [m5, a2, eq]
end
section
variable (wf n : Nat)
theorem l_caught {act : Hd → FO} {h : Hd} {c : Nat} {w : PD} (hc : (c = 0 ∧ w = sP "line") ∨ (c = 1 ∧ w = sP "q") ∨ (c = 2 ∧ w = sP "turn")) {hd : List PD} (hh : h = some hd) (e : act h = .exc c h) : Pev.run tb wf (n + 1) act 39 [.lmb] h = .ret (.dat (.tuple [w, .none])) false h := by
  subst hh
  rw [l_law_caught]
  rcases hc with ⟨rfl, rfl⟩ | ⟨rfl, rfl⟩ | ⟨rfl, rfl⟩
  · have k1 : mthop .count (.list [.bool true, .bool false, .bool false]) [.bool true] = some (.int 1) := by kernel_rfl
    have k2 : mthop .index (.list [.bool true, .bool false, .bool false]) [.bool true] = some (.int 0) := by kernel_rfl
    push_cast [b_law_caught, e, k1, k2]
    rfl
  · have k1 : mthop .count (.list [.bool false, .bool true, .bool false]) [.bool true] = some (.int 1) := by kernel_rfl
    have k2 : mthop .index (.list [.bool false, .bool true, .bool false]) [.bool true] = some (.int 1) := by kernel_rfl
    push_cast [b_law_caught, e, k1, k2]
    rfl
  · have k1 : mthop .count (.list [.bool false, .bool false, .bool true]) [.bool true] = some (.int 1) := by kernel_rfl
    have k2 : mthop .index (.list [.bool false, .bool false, .bool true]) [.bool true] = some (.int 2) := by kernel_rfl
    push_cast [b_law_caught, e, k1, k2]
    rfl
theorem badQ_no {d b : PD} (D : Deep d) (hb : b ∈ badsQ d) (hd : List PD) : ∀ k, callF tb wf (k + 5) 9 [.dat b] (some hd) = .exc 1 (some hd) := fun k => by
  simp only [badsQ, List.mem_cons, List.not_mem_nil, or_false] at hb
  rcases hb with rfl | rfl | rfl | rfl | rfl | rfl | rfl | rfl | rfl | rfl | rfl | rfl | rfl | rfl | rfl | rfl
  rotate_left 15
  · exact c_check_q_no wf k (some hd) D.sq
  all_goals kernel_rfl
theorem lineQ_no {d l : PD} (D : Deep d) (hl : l ∈ linesQ d) (hd : List PD) : callF tb wf (n + 3) 7 [.dat l, .dat (.int 2)] (some hd) = .ret (.dat (.bool false)) false (some hd) := by
  simp only [linesQ, List.mem_cons, List.not_mem_nil, or_false] at hl
  rcases hl with rfl | rfl | rfl | rfl | rfl | rfl | rfl | rfl | rfl | rfl | rfl | rfl
  rotate_left 11
  · exact c_is_bits_no wf n (some hd) D.bits 2
  all_goals kernel_rfl
theorem turnQ_no {d t : PD} (D : Deep d) (ht : t ∈ turnsQ d) (hd : List PD) : callF tb wf (n + 4) 8 [.dat t, .dat (.int 2)] (some hd) = .ret (.dat (.bool false)) false (some hd) := by
  simp only [turnsQ, List.mem_cons, List.not_mem_nil, or_false] at ht
  rcases ht with rfl | rfl | rfl | rfl | rfl | rfl | rfl | rfl | rfl | rfl | rfl | rfl
  rotate_left 11
  · exact c_is_bsq_no wf n (some hd) D.sq 2
  all_goals kernel_rfl
theorem rightQ_ok (hd : List PD) : callF tb wf (n + 5) 9 [.dat rightQ] (some hd) = .ret (.dat .none) false (some hd) := by unfold rightQ; kernel_rfl
end
open PySem Pev
section
variable (wf n : Nat)
set_option maxHeartbeats 0 in
theorem c_refused96 {hd : List PD} (H : HandOk hd) : ∃ hd', HandOk hd' ∧ callF tb wf (n + 7) 41 [.hnd] (some hd) = .ret (.dat (.bool true)) false (some hd') := by
  obtain ⟨d1, hd1, H1, D1, e1⟩ := c_law_deep wf (n + 3) H
  obtain ⟨b, hd2, H2, hb, e2⟩ := c_any0 wf (n + 4) H1 (xs := badsQ d1) (by simp [badsQ]) (by simp [badsQ])
  obtain ⟨d2, hd3, H3, D2, e3⟩ := c_law_deep wf (n + 3) H2
  obtain ⟨l, hd4, H4, hl, e4⟩ := c_any0 wf (n + 4) H3 (xs := linesQ d2) (by simp [linesQ]) (by simp [linesQ])
  obtain ⟨d3, hd5, H5, D3, e5⟩ := c_law_deep wf (n + 3) H4
  obtain ⟨t, hd6, H6, ht, e6⟩ := c_any0 wf (n + 4) H5 (xs := turnsQ d3) (by simp [turnsQ]) (by simp [turnsQ])
  have cb := badQ_no wf D1 hb hd6
  have cl := lineQ_no wf (n + 2) D2 hl hd6
  have ct := turnQ_no wf (n + 1) D3 ht hd6
  have cr := rightQ_ok wf n hd6
  have k1 : callF tb wf (n + 6) 11 [.dat b, .dat l] (some hd6) = .exc 1 (some hd6) := by
    rw [e_q_worth]; push_cast [b_q_worth, cb]
  have k2 : callF tb wf (n + 6) 13 [.dat b] (some hd6) = .exc 1 (some hd6) := by
    rw [e_q_pairs]; push_cast [b_q_pairs, cb]
  have k3 : callF tb wf (n + 6) 16 [.dat b] (some hd6) = .exc 1 (some hd6) := by
    rw [e_q_counts]; push_cast [b_q_counts, cb]
  have k4 : callF tb wf (n + 6) 18 [.dat b] (some hd6) = .exc 1 (some hd6) := by
    rw [e_q_marks]; push_cast [b_q_marks, cb]
  have k5 : callF tb wf (n + 6) 22 [.dat b, .dat t] (some hd6) = .exc 1 (some hd6) := by
    rw [e_q_by]; push_cast [b_q_by, cb]
  have lr : bltop .len [rightQ] = some (.int 2, false) := rfl
  have k6 : callF tb wf (n + 6) 11 [.dat rightQ, .dat l] (some hd6) = .exc 0 (some hd6) := by
    rw [e_q_worth]; push_cast [b_q_worth, cr, lr, cl]
  have k7 : callF tb wf (n + 6) 22 [.dat rightQ, .dat t] (some hd6) = .exc 2 (some hd6) := by
    rw [e_q_by]; push_cast [b_q_by, cr, lr, ct]
  have k6' : (EN tb wf (n + 6) nB).call 11 [.dat rightQ, .dat l] (some hd6) = .exc 0 (some hd6) := by rw [q_ENc]; exact k6
  have k7' : (EN tb wf (n + 6) nB).call 22 [.dat rightQ, .dat t] (some hd6) = .exc 2 (some hd6) := by rw [q_ENc]; exact k7
  have el := fun (c : Nat) (w : PD) hc (act : Hd → FO) => l_caught (act := act) wf (n + 5) (h := some hd6) (c := c) (w := w) hc rfl
  have el1 := el 1 (sP "q") (.inr (.inl ⟨rfl, rfl⟩))
  have el0 := el 0 (sP "line") (.inl ⟨rfl, rfl⟩)
  have el2 := el 2 (sP "turn") (.inr (.inr ⟨rfl, rfl⟩))
  refine ⟨hd6, H6, ?_⟩
  rw [e_law_refused_right]
  rw [rf1_eq, rf_1 (N := EN tb wf (n + 6) nB) e1 e2, rf2_eq, rf_2 (N := EN tb wf (n + 6) nB) e3 e4, rf3_eq, rf_3 (N := EN tb wf (n + 6) nB) e5 e6, rf4_eq, rf_4,
    rf5_eq, rf_5 (N := EN tb wf (n + 6) nB) el1 k1, rf6_eq, rf_6 (N := EN tb wf (n + 6) nB) el1 (by simp) k2, rf7_eq, rf_7 (N := EN tb wf (n + 6) nB) el1 (by simp) k3, rf8_eq, rf_8 (N := EN tb wf (n + 6) nB) el1 (by simp) k4, rf9_eq, rf_9 (N := EN tb wf (n + 6) nB) el1 (by simp) k5,
    rf10_eq, rf_10 (N := EN tb wf (n + 6) nB) el0 (by simp) k6', rf11_eq, rf_11 (N := EN tb wf (n + 6) nB) el2 (by simp) k7']
  simp only [List.cons_append, List.nil_append]
  rw [rf_12]
  rfl
theorem tests96 (hd : List PD) : callF tb wf (n + 6) 16 [.dat (.tuple [.tuple [.int 0, .int 1], .tuple [.int 0, .int 0]])] (some hd) = .ret (.dat (.tuple [.int 3, .int 1])) false (some hd) ∧
    callF tb wf (n + 6) 18 [.dat (.tuple [.tuple [.int 1, .int 1], .tuple [.int 0, .int 1]])] (some hd) = .ret (.dat (.tuple [.int 2, .int 1])) false (some hd) ∧
    callF tb wf (n + 6) 22 [.dat (.tuple [.tuple [.int 1, .int 0], .tuple [.int 0, .int 0]]), .dat (.tuple [.tuple [.int 1, .int 1], .tuple [.int 0, .int 1]])] (some hd) = .ret (.dat (.tuple [.tuple [.int 1, .int 0], .tuple [.int 0, .int 1]])) false (some hd) := by
  refine ⟨?_, ?_, ?_⟩ <;> kernel_rfl
theorem main_law (hw : 100 ≤ wf) (ns : List Int) : callF tb wf (n + 9) 42 [.scr ns] none = .ret (.dat (.bool true)) false none := by
  obtain ⟨cells, mix, e0⟩ := c_law_hand wf (n + 7) ns
  rw [e_law]
  have z4 : (4 : Int) ≤ 100000 ∧ (-100000 : Int) ≤ 4 := by omega
  have z5 : (List.range 4).length ≤ 100000 := by simp
  push_cast [b_law, e0]
  generalize hE : ([.list (cells.map .int), .int 0, .int 0, .int mix, .int 0] : List PD) = hd0
  have H0 : HandOk hd0 := by rw [← hE]; exact ⟨cells, 0, 0, _, 0, rfl⟩
  obtain ⟨t1, t2, t3⟩ := tests96 wf (n + 2) hd0
  have q1 : eqop (.tuple [.int 3, .int 1]) (.tuple [.int 3, .int 1]) = some true := by kernel_rfl
  have q2 : eqop (.tuple [.int 2, .int 1]) (.tuple [.int 2, .int 1]) = some true := by kernel_rfl
  have q3 : eqop (.tuple [.tuple [.int 1, .int 0], .tuple [.int 0, .int 1]]) (.tuple [.tuple [.int 1, .int 0], .tuple [.int 0, .int 1]]) = some true := by kernel_rfl
  push_cast [t1, t2, t3, q_nec, q1, q2, q3, q_omap, q_rng1 z4, rng_n, z5]
  generalize hL : lcL _ _ _ _ _ _ _ _ = L
  obtain ⟨s', rfl, hd', H', rfl⟩ := lc_toI (enc := fun (i : Nat) => PyData.int (i : Int)) hL (fun s => ∃ hd, HandOk hd ∧ s = ⟨[.val (.scr ns), .val .hnd, .emp], some hd⟩) (fun _ => .bool true) ⟨hd0, H0, rfl⟩ fun x hx s ⟨hd, H, hs⟩ => by
    subst hs
    obtain ⟨hd1, H1, e1⟩ := c_law_right wf (n + 1) H hw
    obtain ⟨hd2, H2, e2⟩ := c_refused96 wf (n + 1) H1
    push_cast [e1, e2]
    exact ⟨_, rfl, _, H2, rfl⟩
  push_cast [all_true]
end
end Pq
/-! the text, its checks, printed by gen.py -/
set_option autoImplicit false
set_option maxRecDepth 100000
namespace Pev
open PySem PySem.Spec PyProof.Rows L2 Pq
def topS (i : Nat) : Stmt := PySem.Challenge.pw_fewrows_k96_whole_q_rows.main.body.getD i (.Pass ⟨0, 0, 0, 0⟩)
def p_is_integer : PDef := ⟨topS 1, "is_integer", ["thing"], ["thing"], d_is_integer, false, false⟩
def p_is_within : PDef := ⟨topS 2, "is_within", ["thing", "low", "high"], ["thing", "low", "high"], d_is_within, false, false⟩
def p_is_tuple : PDef := ⟨topS 3, "is_tuple", ["thing", "least", "most"], ["thing", "least", "most"], d_is_tuple, false, false⟩
def p_back_number : PDef := ⟨topS 10, "back_number", ["one", "p", "other"], ["one", "p"], d_back_number, false, false⟩
def p_echelon_by : PDef := ⟨topS 11, "echelon_by", ["rows", "p", "left", "found", "one", "row", "at", "good", "number", "by", "other"], ["rows", "p"], d_echelon_by, false, false⟩
def p_cleared_by : PDef := ⟨topS 12, "cleared_by", ["line", "row", "at", "p", "one", "other"], ["line", "row", "at", "p"], d_cleared_by, false, false⟩
def p_rank_by : PDef := ⟨topS 13, "rank_by", ["rows", "p"], ["rows", "p"], d_rank_by, false, false⟩
def p_is_bits : PDef := ⟨topS 16, "is_bits", ["thing", "many", "one"], ["thing", "many"], d_is_bits, false, false⟩
def p_is_bit_square : PDef := ⟨topS 17, "is_bit_square", ["thing", "many", "row"], ["thing", "many"], d_is_bit_square, false, false⟩
def p_check_q : PDef := ⟨topS 18, "check_q", ["rows", "at", "row"], ["rows"], d_check_q, false, false⟩
def p_worth_of : PDef := ⟨topS 19, "worth_of", ["rows", "line", "size", "j", "i"], ["rows", "line"], d_worth_of, false, false⟩
def p_q_worth : PDef := ⟨topS 20, "q_worth", ["rows", "line"], ["rows", "line"], d_q_worth, false, false⟩
def p_pairs_of : PDef := ⟨topS 21, "pairs_of", ["rows", "size", "j", "i"], ["rows"], d_pairs_of, false, false⟩
def p_q_pairs : PDef := ⟨topS 22, "q_pairs", ["rows"], ["rows"], d_q_pairs, false, false⟩
def p_all_bits : PDef := ⟨topS 23, "all_bits", ["many", "found", "turn", "longer", "line"], ["many"], d_all_bits, false, false⟩
def p_counts_of : PDef := ⟨topS 24, "counts_of", ["rows", "some", "line"], ["rows"], d_counts_of, false, false⟩
def p_q_counts : PDef := ⟨topS 25, "q_counts", ["rows"], ["rows"], d_q_counts, false, false⟩
def p_marks_of : PDef := ⟨topS 26, "marks_of", ["rows"], ["rows"], d_marks_of, false, false⟩
def p_q_marks : PDef := ⟨topS 27, "q_marks", ["rows"], ["rows"], d_q_marks, false, false⟩
def p_paired : PDef := ⟨topS 28, "paired", ["pairs", "one", "other", "size", "j", "i"], ["pairs", "one", "other"], d_paired, false, false⟩
def p_by_columns : PDef := ⟨topS 29, "by_columns", ["rows", "columns", "pairs", "size", "found", "i", "row", "j"], ["rows", "columns"], d_by_columns, false, false⟩
def p_columns_of : PDef := ⟨topS 30, "columns_of", ["turn", "row", "j"], ["turn"], d_columns_of, false, false⟩
def p_q_by : PDef := ⟨topS 31, "q_by", ["rows", "turn"], ["rows", "turn"], d_q_by, false, false⟩
def p_law_hand : PDef := ⟨topS 33, "_law_hand", ["script", "cells", "cell"], ["script"], d_law_hand, false, false⟩
def p_law_draw : PDef := ⟨topS 34, "_law_draw", ["hand", "many", "cell", "digit", "number"], ["hand", "many"], d_law_draw, false, false⟩
def p_law_some : PDef := ⟨topS 35, "_law_some", ["hand", "things"], ["hand", "things"], d_law_some, false, false⟩
def p_law_rows : PDef := ⟨topS 36, "_law_rows", ["hand", "high", "wide", "numbers", "place", "row"], ["hand", "high", "wide", "numbers"], d_law_rows, false, false⟩
def p_law_turned : PDef := ⟨topS 37, "_law_turned", ["rows", "row", "place"], ["rows"], d_law_turned, false, false⟩
def p_law_product : PDef := ⟨topS 38, "_law_product", ["one", "other", "its", "a", "b", "column", "row"], ["one", "other"], d_law_product, false, false⟩
def p_law_led : PDef := ⟨topS 39, "_law_led", ["rows", "line", "a", "b", "row"], ["rows", "line"], d_law_led, false, false⟩
def p_law_lines : PDef := ⟨topS 40, "_law_lines", ["size", "found", "place", "line"], ["size"], d_law_lines, false, false⟩
def p_law_q : PDef := ⟨topS 41, "_law_q", ["hand", "most", "size", "rows", "at", "row"], ["hand", "most"], d_law_q, false, false⟩
def p_law_worth : PDef := ⟨topS 42, "_law_worth", ["rows", "line", "total", "a", "row", "b"], ["rows", "line"], d_law_worth, false, false⟩
def p_law_mod : PDef := ⟨topS 43, "_law_mod", ["rows", "one", "row"], ["rows"], d_law_mod, false, false⟩
def p_law_rank_two : PDef := ⟨topS 44, "_law_rank_two", ["rows", "left", "found", "row", "heads", "place", "one", "head", "its", "other"], ["rows"], d_law_rank_two, false, false⟩
def p_law_pairs_of : PDef := ⟨topS 45, "_law_pairs_of", ["rows", "a", "b", "row", "its"], ["rows"], d_law_pairs_of, false, false⟩
def p_law_q_by : PDef := ⟨topS 46, "_law_q_by", ["rows", "turn", "size", "units", "place", "at", "led", "one", "unit", "found", "a", "row", "b", "both", "other"], ["rows", "turn"], d_law_q_by, false, false⟩
def p_law_marks : PDef := ⟨topS 47, "_law_marks", ["rows", "noughts", "line"], ["rows"], d_law_marks, false, false⟩
def p_law_deep : PDef := ⟨topS 48, "_law_deep", ["hand", "found", "turn"], ["hand"], d_law_deep, false, false⟩
def p_law_caught : PDef := ⟨topS 49, "_law_caught", ["call", "found", "e", "flags"], ["call"], d_law_caught, true, false⟩
def p_law_right : PDef := ⟨topS 50, "_law_right", ["hand", "rows", "size", "lines", "pairs", "worths", "line", "one", "other", "both", "a", "b", "bent", "turn", "second", "told", "unit"], ["hand"], d_law_right, false, false⟩
def p_law_refused_right : PDef := ⟨topS 51, "_law_refused_right", ["hand", "some", "bad", "line", "turn", "right", "words"], ["hand"], d_law_refused_right, false, true⟩
def p_law : PDef := ⟨topS 52, "law", ["script", "hand", "turn"], ["script"], d_law, false, false⟩
def prg : Prg := ⟨[p_is_integer, p_is_within, p_is_tuple, p_back_number, p_echelon_by, p_cleared_by, p_rank_by, p_is_bits, p_is_bit_square, p_check_q, p_worth_of, p_q_worth, p_pairs_of, p_q_pairs, p_all_bits, p_counts_of, p_q_counts, p_marks_of, p_q_marks, p_paired, p_by_columns, p_columns_of, p_q_by, p_law_hand, p_law_draw, p_law_some, p_law_rows, p_law_turned, p_law_product, p_law_led, p_law_lines, p_law_q, p_law_worth, p_law_mod, p_law_rank_two, p_law_pairs_of, p_law_q_by, p_law_marks, p_law_deep, p_law_caught, p_law_right, p_law_refused_right, p_law], ["NoLine", "NoQ", "NoTurn"], [("MOST", 4)], [("NoLine", [true, false, false]), ("NoQ", [false, true, false]), ("NoTurn", [false, false, true]), ("ValueError", [true, true, true])], some "RowError"⟩
theorem T_eq : prg.T = tb := by
  funext i
  show (prg.defs[i]?).map (·.code) = tbl[i]?
  rw [← List.getElem?_map]
  rfl
theorem ok_is_integer : prg.okD p_is_integer = true := by decide +kernel
theorem ok_is_within : prg.okD p_is_within = true := by decide +kernel
theorem ok_is_tuple : prg.okD p_is_tuple = true := by decide +kernel
theorem ok_back_number : prg.okD p_back_number = true := by decide +kernel
theorem ok_echelon_by : prg.okD p_echelon_by = true := by decide +kernel
theorem ok_cleared_by : prg.okD p_cleared_by = true := by decide +kernel
theorem ok_rank_by : prg.okD p_rank_by = true := by decide +kernel
theorem ok_is_bits : prg.okD p_is_bits = true := by decide +kernel
theorem ok_is_bit_square : prg.okD p_is_bit_square = true := by decide +kernel
theorem ok_check_q : prg.okD p_check_q = true := by decide +kernel
theorem ok_worth_of : prg.okD p_worth_of = true := by decide +kernel
theorem ok_q_worth : prg.okD p_q_worth = true := by decide +kernel
theorem ok_pairs_of : prg.okD p_pairs_of = true := by decide +kernel
theorem ok_q_pairs : prg.okD p_q_pairs = true := by decide +kernel
theorem ok_all_bits : prg.okD p_all_bits = true := by decide +kernel
theorem ok_counts_of : prg.okD p_counts_of = true := by decide +kernel
theorem ok_q_counts : prg.okD p_q_counts = true := by decide +kernel
theorem ok_marks_of : prg.okD p_marks_of = true := by decide +kernel
theorem ok_q_marks : prg.okD p_q_marks = true := by decide +kernel
theorem ok_paired : prg.okD p_paired = true := by decide +kernel
theorem ok_by_columns : prg.okD p_by_columns = true := by decide +kernel
theorem ok_columns_of : prg.okD p_columns_of = true := by decide +kernel
theorem ok_q_by : prg.okD p_q_by = true := by decide +kernel
theorem ok_law_hand : prg.okD p_law_hand = true := by decide +kernel
theorem ok_law_draw : prg.okD p_law_draw = true := by decide +kernel
theorem ok_law_some : prg.okD p_law_some = true := by decide +kernel
theorem ok_law_rows : prg.okD p_law_rows = true := by decide +kernel
theorem ok_law_turned : prg.okD p_law_turned = true := by decide +kernel
theorem ok_law_product : prg.okD p_law_product = true := by decide +kernel
theorem ok_law_led : prg.okD p_law_led = true := by decide +kernel
theorem ok_law_lines : prg.okD p_law_lines = true := by decide +kernel
theorem ok_law_q : prg.okD p_law_q = true := by decide +kernel
theorem ok_law_worth : prg.okD p_law_worth = true := by decide +kernel
theorem ok_law_mod : prg.okD p_law_mod = true := by decide +kernel
theorem ok_law_rank_two : prg.okD p_law_rank_two = true := by decide +kernel
theorem ok_law_pairs_of : prg.okD p_law_pairs_of = true := by decide +kernel
theorem ok_law_q_by : prg.okD p_law_q_by = true := by decide +kernel
theorem ok_law_marks : prg.okD p_law_marks = true := by decide +kernel
theorem ok_law_deep : prg.okD p_law_deep = true := by decide +kernel
theorem ok_law_caught : prg.okD p_law_caught = true := by decide +kernel
theorem ok_law_right : prg.okD p_law_right = true := by decide +kernel
theorem ok_law_refused_right : prg.okD p_law_refused_right = true := by decide +kernel
theorem ok_law : prg.okD p_law = true := by decide +kernel
theorem ds_is_integer : DStat p_is_integer := ⟨⟨rfl, rfl, rfl, by decide +kernel, rfl, by decide +kernel, by decide +kernel⟩, fun _ _ _ _ _ _ us hl => (match us, hl with | [_], _ => rfl), by decide, by decide⟩
theorem ds_is_within : DStat p_is_within := ⟨⟨rfl, rfl, rfl, by decide +kernel, rfl, by decide +kernel, by decide +kernel⟩, fun _ _ _ _ _ _ us hl => (match us, hl with | [_, _, _], _ => rfl), by decide, by decide⟩
theorem ds_is_tuple : DStat p_is_tuple := ⟨⟨rfl, rfl, rfl, by decide +kernel, rfl, by decide +kernel, by decide +kernel⟩, fun _ _ _ _ _ _ us hl => (match us, hl with | [_, _, _], _ => rfl), by decide, by decide⟩
theorem ds_back_number : DStat p_back_number := ⟨⟨rfl, rfl, rfl, by decide +kernel, rfl, by decide +kernel, by decide +kernel⟩, fun _ _ _ _ _ _ us hl => (match us, hl with | [_, _], _ => rfl), by decide, by decide⟩
theorem ds_echelon_by : DStat p_echelon_by := ⟨⟨rfl, rfl, rfl, by decide +kernel, rfl, by decide +kernel, by decide +kernel⟩, fun _ _ _ _ _ _ us hl => (match us, hl with | [_, _], _ => rfl), by decide, by decide⟩
theorem ds_cleared_by : DStat p_cleared_by := ⟨⟨rfl, rfl, rfl, by decide +kernel, rfl, by decide +kernel, by decide +kernel⟩, fun _ _ _ _ _ _ us hl => (match us, hl with | [_, _, _, _], _ => rfl), by decide, by decide⟩
theorem ds_rank_by : DStat p_rank_by := ⟨⟨rfl, rfl, rfl, by decide +kernel, rfl, by decide +kernel, by decide +kernel⟩, fun _ _ _ _ _ _ us hl => (match us, hl with | [_, _], _ => rfl), by decide, by decide⟩
theorem ds_is_bits : DStat p_is_bits := ⟨⟨rfl, rfl, rfl, by decide +kernel, rfl, by decide +kernel, by decide +kernel⟩, fun _ _ _ _ _ _ us hl => (match us, hl with | [_, _], _ => rfl), by decide, by decide⟩
theorem ds_is_bit_square : DStat p_is_bit_square := ⟨⟨rfl, rfl, rfl, by decide +kernel, rfl, by decide +kernel, by decide +kernel⟩, fun _ _ _ _ _ _ us hl => (match us, hl with | [_, _], _ => rfl), by decide, by decide⟩
theorem ds_check_q : DStat p_check_q := ⟨⟨rfl, rfl, rfl, by decide +kernel, rfl, by decide +kernel, by decide +kernel⟩, fun _ _ _ _ _ _ us hl => (match us, hl with | [_], _ => rfl), by decide, by decide⟩
theorem ds_worth_of : DStat p_worth_of := ⟨⟨rfl, rfl, rfl, by decide +kernel, rfl, by decide +kernel, by decide +kernel⟩, fun _ _ _ _ _ _ us hl => (match us, hl with | [_, _], _ => rfl), by decide, by decide⟩
theorem ds_q_worth : DStat p_q_worth := ⟨⟨rfl, rfl, rfl, by decide +kernel, rfl, by decide +kernel, by decide +kernel⟩, fun _ _ _ _ _ _ us hl => (match us, hl with | [_, _], _ => rfl), by decide, by decide⟩
theorem ds_pairs_of : DStat p_pairs_of := ⟨⟨rfl, rfl, rfl, by decide +kernel, rfl, by decide +kernel, by decide +kernel⟩, fun _ _ _ _ _ _ us hl => (match us, hl with | [_], _ => rfl), by decide, by decide⟩
theorem ds_q_pairs : DStat p_q_pairs := ⟨⟨rfl, rfl, rfl, by decide +kernel, rfl, by decide +kernel, by decide +kernel⟩, fun _ _ _ _ _ _ us hl => (match us, hl with | [_], _ => rfl), by decide, by decide⟩
theorem ds_all_bits : DStat p_all_bits := ⟨⟨rfl, rfl, rfl, by decide +kernel, rfl, by decide +kernel, by decide +kernel⟩, fun _ _ _ _ _ _ us hl => (match us, hl with | [_], _ => rfl), by decide, by decide⟩
theorem ds_counts_of : DStat p_counts_of := ⟨⟨rfl, rfl, rfl, by decide +kernel, rfl, by decide +kernel, by decide +kernel⟩, fun _ _ _ _ _ _ us hl => (match us, hl with | [_], _ => rfl), by decide, by decide⟩
theorem ds_q_counts : DStat p_q_counts := ⟨⟨rfl, rfl, rfl, by decide +kernel, rfl, by decide +kernel, by decide +kernel⟩, fun _ _ _ _ _ _ us hl => (match us, hl with | [_], _ => rfl), by decide, by decide⟩
theorem ds_marks_of : DStat p_marks_of := ⟨⟨rfl, rfl, rfl, by decide +kernel, rfl, by decide +kernel, by decide +kernel⟩, fun _ _ _ _ _ _ us hl => (match us, hl with | [_], _ => rfl), by decide, by decide⟩
theorem ds_q_marks : DStat p_q_marks := ⟨⟨rfl, rfl, rfl, by decide +kernel, rfl, by decide +kernel, by decide +kernel⟩, fun _ _ _ _ _ _ us hl => (match us, hl with | [_], _ => rfl), by decide, by decide⟩
theorem ds_paired : DStat p_paired := ⟨⟨rfl, rfl, rfl, by decide +kernel, rfl, by decide +kernel, by decide +kernel⟩, fun _ _ _ _ _ _ us hl => (match us, hl with | [_, _, _], _ => rfl), by decide, by decide⟩
theorem ds_by_columns : DStat p_by_columns := ⟨⟨rfl, rfl, rfl, by decide +kernel, rfl, by decide +kernel, by decide +kernel⟩, fun _ _ _ _ _ _ us hl => (match us, hl with | [_, _], _ => rfl), by decide, by decide⟩
theorem ds_columns_of : DStat p_columns_of := ⟨⟨rfl, rfl, rfl, by decide +kernel, rfl, by decide +kernel, by decide +kernel⟩, fun _ _ _ _ _ _ us hl => (match us, hl with | [_], _ => rfl), by decide, by decide⟩
theorem ds_q_by : DStat p_q_by := ⟨⟨rfl, rfl, rfl, by decide +kernel, rfl, by decide +kernel, by decide +kernel⟩, fun _ _ _ _ _ _ us hl => (match us, hl with | [_, _], _ => rfl), by decide, by decide⟩
theorem ds_law_hand : DStat p_law_hand := ⟨⟨rfl, rfl, rfl, by decide +kernel, rfl, by decide +kernel, by decide +kernel⟩, fun _ _ _ _ _ _ us hl => (match us, hl with | [_], _ => rfl), by decide, by decide⟩
theorem ds_law_draw : DStat p_law_draw := ⟨⟨rfl, rfl, rfl, by decide +kernel, rfl, by decide +kernel, by decide +kernel⟩, fun _ _ _ _ _ _ us hl => (match us, hl with | [_, _], _ => rfl), by decide, by decide⟩
theorem ds_law_some : DStat p_law_some := ⟨⟨rfl, rfl, rfl, by decide +kernel, rfl, by decide +kernel, by decide +kernel⟩, fun _ _ _ _ _ _ us hl => (match us, hl with | [_, _], _ => rfl), by decide, by decide⟩
theorem ds_law_rows : DStat p_law_rows := ⟨⟨rfl, rfl, rfl, by decide +kernel, rfl, by decide +kernel, by decide +kernel⟩, fun _ _ _ _ _ _ us hl => (match us, hl with | [_, _, _, _], _ => rfl), by decide, by decide⟩
theorem ds_law_turned : DStat p_law_turned := ⟨⟨rfl, rfl, rfl, by decide +kernel, rfl, by decide +kernel, by decide +kernel⟩, fun _ _ _ _ _ _ us hl => (match us, hl with | [_], _ => rfl), by decide, by decide⟩
theorem ds_law_product : DStat p_law_product := ⟨⟨rfl, rfl, rfl, by decide +kernel, rfl, by decide +kernel, by decide +kernel⟩, fun _ _ _ _ _ _ us hl => (match us, hl with | [_, _], _ => rfl), by decide, by decide⟩
theorem ds_law_led : DStat p_law_led := ⟨⟨rfl, rfl, rfl, by decide +kernel, rfl, by decide +kernel, by decide +kernel⟩, fun _ _ _ _ _ _ us hl => (match us, hl with | [_, _], _ => rfl), by decide, by decide⟩
theorem ds_law_lines : DStat p_law_lines := ⟨⟨rfl, rfl, rfl, by decide +kernel, rfl, by decide +kernel, by decide +kernel⟩, fun _ _ _ _ _ _ us hl => (match us, hl with | [_], _ => rfl), by decide, by decide⟩
theorem ds_law_q : DStat p_law_q := ⟨⟨rfl, rfl, rfl, by decide +kernel, rfl, by decide +kernel, by decide +kernel⟩, fun _ _ _ _ _ _ us hl => (match us, hl with | [_, _], _ => rfl), by decide, by decide⟩
theorem ds_law_worth : DStat p_law_worth := ⟨⟨rfl, rfl, rfl, by decide +kernel, rfl, by decide +kernel, by decide +kernel⟩, fun _ _ _ _ _ _ us hl => (match us, hl with | [_, _], _ => rfl), by decide, by decide⟩
theorem ds_law_mod : DStat p_law_mod := ⟨⟨rfl, rfl, rfl, by decide +kernel, rfl, by decide +kernel, by decide +kernel⟩, fun _ _ _ _ _ _ us hl => (match us, hl with | [_], _ => rfl), by decide, by decide⟩
theorem ds_law_rank_two : DStat p_law_rank_two := ⟨⟨rfl, rfl, rfl, by decide +kernel, rfl, by decide +kernel, by decide +kernel⟩, fun _ _ _ _ _ _ us hl => (match us, hl with | [_], _ => rfl), by decide, by decide⟩
theorem ds_law_pairs_of : DStat p_law_pairs_of := ⟨⟨rfl, rfl, rfl, by decide +kernel, rfl, by decide +kernel, by decide +kernel⟩, fun _ _ _ _ _ _ us hl => (match us, hl with | [_], _ => rfl), by decide, by decide⟩
theorem ds_law_q_by : DStat p_law_q_by := ⟨⟨rfl, rfl, rfl, by decide +kernel, rfl, by decide +kernel, by decide +kernel⟩, fun _ _ _ _ _ _ us hl => (match us, hl with | [_, _], _ => rfl), by decide, by decide⟩
theorem ds_law_marks : DStat p_law_marks := ⟨⟨rfl, rfl, rfl, by decide +kernel, rfl, by decide +kernel, by decide +kernel⟩, fun _ _ _ _ _ _ us hl => (match us, hl with | [_], _ => rfl), by decide, by decide⟩
theorem ds_law_deep : DStat p_law_deep := ⟨⟨rfl, rfl, rfl, by decide +kernel, rfl, by decide +kernel, by decide +kernel⟩, fun _ _ _ _ _ _ us hl => (match us, hl with | [_], _ => rfl), by decide, by decide⟩
theorem ds_law_caught : DStat p_law_caught := ⟨⟨rfl, rfl, rfl, by decide +kernel, rfl, by decide +kernel, by decide +kernel⟩, fun _ _ _ _ _ _ us hl => (match us, hl with | [_], _ => rfl), by decide, by decide⟩
theorem ds_law_right : DStat p_law_right := ⟨⟨rfl, rfl, rfl, by decide +kernel, rfl, by decide +kernel, by decide +kernel⟩, fun _ _ _ _ _ _ us hl => (match us, hl with | [_], _ => rfl), by decide, by decide⟩
theorem ds_law_refused_right : DStat p_law_refused_right := ⟨⟨rfl, rfl, rfl, by decide +kernel, rfl, by decide +kernel, by decide +kernel⟩, fun _ _ _ _ _ _ us hl => (match us, hl with | [_], _ => rfl), by decide, by decide⟩
theorem ds_law : DStat p_law := ⟨⟨rfl, rfl, rfl, by decide +kernel, rfl, by decide +kernel, by decide +kernel⟩, fun _ _ _ _ _ _ us hl => (match us, hl with | [_], _ => rfl), by decide, by decide⟩
theorem ok_all : ∀ d ∈ prg.defs, prg.okD d = true := by
  intro d h
  simp only [prg, List.mem_cons, List.not_mem_nil, or_false] at h
  rcases h with rfl | rfl | rfl | rfl | rfl | rfl | rfl | rfl | rfl | rfl | rfl | rfl | rfl | rfl | rfl | rfl | rfl | rfl | rfl | rfl | rfl | rfl | rfl | rfl | rfl | rfl | rfl | rfl | rfl | rfl | rfl | rfl | rfl | rfl | rfl | rfl | rfl | rfl | rfl | rfl | rfl | rfl | rfl
  · exact ok_is_integer
  · exact ok_is_within
  · exact ok_is_tuple
  · exact ok_back_number
  · exact ok_echelon_by
  · exact ok_cleared_by
  · exact ok_rank_by
  · exact ok_is_bits
  · exact ok_is_bit_square
  · exact ok_check_q
  · exact ok_worth_of
  · exact ok_q_worth
  · exact ok_pairs_of
  · exact ok_q_pairs
  · exact ok_all_bits
  · exact ok_counts_of
  · exact ok_q_counts
  · exact ok_marks_of
  · exact ok_q_marks
  · exact ok_paired
  · exact ok_by_columns
  · exact ok_columns_of
  · exact ok_q_by
  · exact ok_law_hand
  · exact ok_law_draw
  · exact ok_law_some
  · exact ok_law_rows
  · exact ok_law_turned
  · exact ok_law_product
  · exact ok_law_led
  · exact ok_law_lines
  · exact ok_law_q
  · exact ok_law_worth
  · exact ok_law_mod
  · exact ok_law_rank_two
  · exact ok_law_pairs_of
  · exact ok_law_q_by
  · exact ok_law_marks
  · exact ok_law_deep
  · exact ok_law_caught
  · exact ok_law_right
  · exact ok_law_refused_right
  · exact ok_law
theorem ds_all : ∀ d ∈ prg.defs, DStat d := by
  intro d h
  simp only [prg, List.mem_cons, List.not_mem_nil, or_false] at h
  rcases h with rfl | rfl | rfl | rfl | rfl | rfl | rfl | rfl | rfl | rfl | rfl | rfl | rfl | rfl | rfl | rfl | rfl | rfl | rfl | rfl | rfl | rfl | rfl | rfl | rfl | rfl | rfl | rfl | rfl | rfl | rfl | rfl | rfl | rfl | rfl | rfl | rfl | rfl | rfl | rfl | rfl | rfl | rfl
  · exact ds_is_integer
  · exact ds_is_within
  · exact ds_is_tuple
  · exact ds_back_number
  · exact ds_echelon_by
  · exact ds_cleared_by
  · exact ds_rank_by
  · exact ds_is_bits
  · exact ds_is_bit_square
  · exact ds_check_q
  · exact ds_worth_of
  · exact ds_q_worth
  · exact ds_pairs_of
  · exact ds_q_pairs
  · exact ds_all_bits
  · exact ds_counts_of
  · exact ds_q_counts
  · exact ds_marks_of
  · exact ds_q_marks
  · exact ds_paired
  · exact ds_by_columns
  · exact ds_columns_of
  · exact ds_q_by
  · exact ds_law_hand
  · exact ds_law_draw
  · exact ds_law_some
  · exact ds_law_rows
  · exact ds_law_turned
  · exact ds_law_product
  · exact ds_law_led
  · exact ds_law_lines
  · exact ds_law_q
  · exact ds_law_worth
  · exact ds_law_mod
  · exact ds_law_rank_two
  · exact ds_law_pairs_of
  · exact ds_law_q_by
  · exact ds_law_marks
  · exact ds_law_deep
  · exact ds_law_caught
  · exact ds_law_right
  · exact ds_law_refused_right
  · exact ds_law
/- law at 52, def 42; loose ['__name__', 'is_integer', 'is_within', 'is_tuple', 'RowError', 'NoLine', 'NoQ', 'NoTurn', 'back_number', 'echelon_by', 'cleared_by', 'rank_by', 'MOST', 'is_bits', 'is_bit_square', 'check_q', 'worth_of', 'q_worth', 'pairs_of', 'q_pairs', 'all_bits', 'counts_of', 'q_counts', 'marks_of', 'q_marks', 'paired', 'by_columns', 'columns_of', 'q_by', '_law_hand', '_law_draw', '_law_some', '_law_rows', '_law_turned', '_law_product', '_law_led', '_law_lines', '_law_q', '_law_worth', '_law_mod', '_law_rank_two', '_law_pairs_of', '_law_q_by', '_law_marks', '_law_deep', '_law_caught', '_law_right', '_law_refused_right'] -/
def loose : List Str := (["__name__", "is_integer", "is_within", "is_tuple", "RowError", "NoLine", "NoQ", "NoTurn", "back_number", "echelon_by", "cleared_by", "rank_by", "MOST", "is_bits", "is_bit_square", "check_q", "worth_of", "q_worth", "pairs_of", "q_pairs"] : List Str) ++ (["all_bits", "counts_of", "q_counts", "marks_of", "q_marks", "paired", "by_columns", "columns_of", "q_by", "_law_hand", "_law_draw", "_law_some", "_law_rows", "_law_turned", "_law_product", "_law_led", "_law_lines", "_law_q", "_law_worth", "_law_mod"] : List Str) ++ (["_law_rank_two", "_law_pairs_of", "_law_q_by", "_law_marks", "_law_deep", "_law_caught", "_law_right", "_law_refused_right"] : List Str)
abbrev lw : PySem.W.OpenLaw := PySem.Challenge.rw_fewrows_k96_whole_q_rows
abbrev lR : PySem.W.OpenRow := PySem.W.OpenLaw.row lw
abbrev qv : Program := PySem.W.view lR.prog [52]
abbrev hk : PySem.W.Hook := hookY 4 prg (exP lw.prog prg)
abbrev ob : PySem.W.SharedT → He.AlT × Bool := obY 4 prg (exP lw.prog prg)
set_option maxHeartbeats 0 in
theorem run_eq (w : World) : HandSHeadRun.RunEq lR qv hk ob 6000 loose w := by
  intro os
  kernel_rfl
open PySem PySem.W PySem.Calls PyProof.Rows in
set_option maxHeartbeats 0 in
theorem holds_of {wf n : Nat} (hr : Room (lev n) callerA) (main : ∀ ns : List Int, ns.length ≤ 63 → callF tb wf n 42 [.scr ns] none = .ret (.dat (.bool true)) false none) : PySem.Challenge.rw_fewrows_k96_whole_q_rows.Holds := by
  w_on; o_law
  refine HandSHeadRun.head_any (r := PySem.W.OpenLaw.row PySem.Challenge.rw_fewrows_k96_whole_q_rows) (q := qv) (H := hk) (ob := ob) (M := 6000) (loose := loose) (d := HandSHeadRun.topDef lR.prog 52) (kwd := []) (obY_eq 4 prg _)
    (by kernel_rfl) (fun s => by kernel_rfl) run_eq (by kernel_rfl) (by kernel_rfl) (by kernel_rfl) (by rfl) (by first | assumption | decide +kernel) (by decide +kernel) ⟨rfl, rfl, rfl, rfl, rfl, by decide +kernel⟩ ?hw ?hc
  case hw => w_witness2
  case hc => exact walkP (l := lw) (p := prg) (n := n) (lf := 42) (m := 4) (dl := p_law) rfl (by kernel_rfl) (by kernel_rfl) hr ds_all ok_all rfl rfl rfl (by rw [T_eq]; exact main)
end Pev
theorem PySem.Challenge.cw_fewrows_k96_whole_q_rows_holds : PySem.Challenge.rw_fewrows_k96_whole_q_rows.Holds :=
  Pev.holds_of (wf := 1000) (n := 9) ⟨rfl, by decide, by decide⟩ fun ns _ => Pq.main_law 1000 0 (by decide) ns
