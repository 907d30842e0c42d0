import PyProof.Rows.All
import KE.LtData
import KE.DataEq
import KE.DataAny
import KE.DataIsa
import KE.SortData
import PyProof.StrBlock
import PyProof.DictFindH
import KE.KeyNested
import KE.KDictPairs
import HandS.ForMost
import HandS.Exc
import HandS.ExcOwn
import HandS.WordsExc
import HandS.Defaults
import HandS.Walk
import HandS.Wide
import HandS.WideBits
import HandS.IsInst
import HandS.HeadHook1
import HandS.Flow
import HandS.CallSlots
import HandS.TupAny
import KE.DataCmp
import HandS.Style
import KE.KDictCopyH
import KE.KIsAll
import HandS.Rev
import KE.GoesEnum
import KE.GoesMore
import PyProof.ReprReads
import PyProof.ReprRoads
import HandS.More
import HandS.ListItems
import OpenK.KMore
import HandS.ExcInit
import KE.KExcSuper
import KE.KSuper
import HandS.ExcIs
import HandS.ExcField
import HandS.Dict
import HandS.Text
import PyProof.Rows.StrFit
import HandS.Ends
import HandS.EndBits
import HandS.HeadEnd
import HandS.HeadHook2
import HandS.Head2
import Wide.All
import OpenK.AllK
import Wide.FinOn
import PySem.Challenge.RW_waysround_k77_prices_of_changes
set_option Elab.async false
set_option linter.all false
/-! DL, part a: a small language over PyData, read off the program's own text, and its evaluator in plain Lean. -/
namespace DL
open PySem PySem.W
/-- what a run gives: a value, an own error of the class c with its value, or no word -/
inductive Out (α : Type) where
  | ok (a : α)
  | exc (c : Str) (d : PyData)
  | bad
def Out.bind {α β : Type} : Out α → (α → Out β) → Out β
  | .ok a, f => f a
  | .exc c d, _ => .exc c d
  | .bad, _ => .bad
def Out.ofOpt {α β : Type} (o : Option α) (b : β) : Out (α × β) := match o with
  | some a => .ok (a, b)
  | none => .bad
/-- a name's slot: no value; a value that never changes; a list, a dict that this def alone changes (r: handed in to be changed) -/
inductive Slot where
  | no
  | val (d : PyData)
  | own (r : Bool) (l : List PyData)
  | ownD (r : Bool) (kvs : List (PyData × PyData))
  /-- a caught error of the class c, with its value -/
  | exc (c : Str) (d : PyData)
abbrev DEnv := List Slot
/-- a def's work: the arguments, the answer and what it left of the one that it changes -/
abbrev Fun := List PyData → Out (PyData × PyData)
inductive BinO where | add | sub | mul | mod | fdiv | pow | shl | shr | band | bor
inductive CmpO where | eq | ne | lt | le | gt | ge | inn | nin | is | isn
/-- one-place built-ins -/
inductive B1 where
  | len | int | list | tuple | sorted | sortedLen | all | any | sum | bits | repr | dict | itemsL | setSorted | abs | upper | neg | keysL | dictP | minl | maxl | sumL
inductive B2 where | max | min | index
inductive Tg where
  | n (i : Nat)
  | t (is : List Nat)
mutual
inductive E where
  | v (i : Nat)
  | bor (i : Nat)
  | k (d : PyData)
  | g (j : Nat)
  | bin (o : BinO) (a b : E)
  | cmp (o : CmpO) (a b : E)
  | isN (neg : Bool) (a : E)
  | chain (o1 o2 : CmpO) (a b c : E)
  | andL (es : List E)
  | orL (es : List E)
  | not (a : E)
  | ite (c a b : E)
  | tup (es : List E)
  | lst (es : List E)
  | dct (es : List E)
  | sub (a i : E)
  | sl (a : E) (lo hi : Option E)
  | rev (a : E)
  | call (f : Nat) (es : List E)
  | callK (f : Nat) (ks : List Nat) (es : List E)
  | b1 (f : B1) (a : E)
  | b2 (f : B2) (a b : E)
  | isa (ts : List String) (a : E)
  | popA (i : Nat) (a : E)
  | isX (i : Nat) (x : Str) (cs : List Str)
  | isNX (neg : Bool) (i : Nat)
  | valX (i : Nat) (cs : List Str)
  | callN (g : Nat) (es : List E)
  | callT (f g : Nat) (es : List E)
  /-- no word -/
  | bot
  | lc (own : List Nat) (tg : Tg) (it : It) (test : Option E) (elt : E)
inductive It where
  | e (a : E)
  | bor (i : Nat)
  | range1 (a : E)
  | range2 (a b : E)
  | enum (a : E)
  | zip2 (a b : E)
  | zip3 (a b c : E)
  | rev (a : E)
  | items (a : E)
end
/-- what stands in a try: calls, in the branches of tests -/
inductive TB where
  | call (f : Nat) (es : List E)
  | ite (c : E) (a b : TB)
inductive S where
  | asg (i : Nat) (e : E)
  | asgO (i : Nat) (e : E)
  | asgT (is : List Nat) (e : E)
  | par (is : List Nat) (os : List Bool) (es : List E)
  | ex (e : E)
  | app (i : Nat) (e : E)
  | ext (i : Nat) (e : E)
  | set (i : Nat) (ie e : E)
  | ret (e : E)
  | ite (c : E) (a b : List S)
  | for (tg : Tg) (it : It) (body : List S)
  | whl (c : E) (body : List S)
  | brk | cnt | pas
  | rai (c : Str) (e : E)
  | try (b : TB) (c : Str) (cs : List Str) (n i : Nat)
  | bot
inductive Fl where
  | nx (ρ : DEnv)
  | rt (d : PyData) (ρ : DEnv)
  | bk (ρ : DEnv)
  | ct (ρ : DEnv)
  | exc (c : Str) (d : PyData)
  | bad
/-! ### operations on data -/
def listD : List PyData → PyData := .list
def rep {α : Type} (l : List α) (n : Nat) : List α := (List.replicate n l).flatten
def binD : BinO → PyData → PyData → Option PyData
  | .add, .int a, .int b => some (.int (a + b))
  | .add, .str a, .str b => if a.length + b.length ≤ sizeLine then some (.str (a ++ b)) else none
  | .add, .list a, .list b => if a.length + b.length ≤ sizeLine then some (.list (a ++ b)) else none
  | .add, .tuple a, .tuple b => if a.length + b.length ≤ sizeLine then some (.tuple (a ++ b)) else none
  | .sub, .int a, .int b => some (.int (a - b))
  | .mul, .int a, .int b => if a.natAbs < 2 ^ 64 ∨ b.natAbs < 2 ^ 64 then some (.int (a * b)) else none
  | .mul, .list a, .int b => if -(2 ^ 63) ≤ b ∧ b < 2 ^ 63 ∧ a.length * b.toNat ≤ sizeLine then some (.list (rep a b.toNat)) else none
  | .mod, .int a, .int b => if 0 < b then some (.int (a % b)) else none
  | .fdiv, .int a, .int b => if 0 < b ∧ b < 1073741824 then some (.int (a / b)) else none
  | .pow, .int a, .int b => if 0 ≤ b ∧ (Builtin.Int.intBits a : Int) * b ≤ 2 ^ 27 then some (.int (a ^ b.toNat)) else none
  | .shl, .int a, .int b => if 0 ≤ b ∧ b ≤ 1000000 ∧ a.natAbs < 2 ^ 64 then some (.int (a * 2 ^ b.toNat)) else none
  | .shr, .int a, .int b => if 0 ≤ b then some (.int (a / 2 ^ b.toNat)) else none
  | .band, .int a, .int b => some (.int (Builtin.bitAnd a b))
  | .bor, .int a, .int b => some (.int (Builtin.bitOr a b))
  | _, _, _ => none
/-- a key of a dict: an int or a text -/
def isKey : PyData → Bool
  | .int _ => true
  | .str _ => true
  | _ => false
def keyEq : PyData → PyData → Bool
  | .int a, .int b => decide (a = b)
  | .str a, .str b => decide (a = b)
  | _, _ => false
/-- all keys are whole numbers or texts -/
def plainKeys (l : List (PyData × PyData)) : Bool := l.all fun q => isKey q.1
def subC (c x : Str) : Bool := decide (c = x) || decide (x = "OfficeError")
def look (k : PyData) (l : List (PyData × PyData)) : Option PyData := (l.find? fun q => keyEq q.1 k).map (·.2)
def put (k v : PyData) (l : List (PyData × PyData)) : List (PyData × PyData) :=
  if l.any fun q => keyEq q.1 k then l.map fun q => if keyEq q.1 k then (q.1, v) else q else l ++ [(k, v)]
def strIn (x y : Str) : Bool := !(Builtin.Str.occurrences y x 0 y.length 1).isEmpty
def isNoneD : PyData → Bool
  | .none => true
  | _ => false
def ordOk (a b : PyData) : Bool := alike a b && !isNoneD a && decide (min a.depth b.depth ≤ 60)
def cmpD : CmpO → PyData → PyData → Option Bool
  | .eq, a, b => if a.plain && b.plain && decide (min a.depth b.depth ≤ 60) then some (PyData.eqv a b) else none
  | .ne, a, b => if a.plain && b.plain && decide (min a.depth b.depth ≤ 60) then some (!PyData.eqv a b) else none
  | .lt, .int a, .int b => some (decide (a < b))
  | .le, .int a, .int b => some (decide (a ≤ b))
  | .gt, .int a, .int b => some (decide (b < a))
  | .ge, .int a, .int b => some (decide (b ≤ a))
  | .lt, a, b => if ordOk a b then some (dataLt a b) else none
  | .le, a, b => if ordOk a b then some (!dataLt b a) else none
  | .gt, a, b => if ordOk a b then some (dataLt b a) else none
  | .ge, a, b => if ordOk a b then some (!dataLt a b) else none
  | .inn, .str a, .str b => some (strIn a b)
  | .nin, .str a, .str b => some (!strIn a b)
  | .inn, x, .list l => if x.plain && PyData.plainAll l && decide (x.depth ≤ 60) then some (l.any fun z => PyData.eqv z x) else none
  | .nin, x, .list l => if x.plain && PyData.plainAll l && decide (x.depth ≤ 60) then some (!l.any fun z => PyData.eqv z x) else none
  | .inn, x, .tuple l => if x.plain && PyData.plainAll l && decide (x.depth ≤ 60) then some (l.any fun z => PyData.eqv z x) else none
  | .nin, x, .tuple l => if x.plain && PyData.plainAll l && decide (x.depth ≤ 60) then some (!l.any fun z => PyData.eqv z x) else none
  | .inn, x, .dict kvs => if isKey x && plainKeys kvs then some (look x kvs).isSome else none
  | .nin, x, .dict kvs => if isKey x && plainKeys kvs then some !(look x kvs).isSome else none
  | .is, .bool a, .bool b => some (decide (a = b))
  | .isn, .bool a, .bool b => some (!decide (a = b))
  | _, _, _ => none
def isT (t : String) : PyData → Bool
  | .none => t == "NoneType"
  | .bool _ => t == "bool" || t == "int"
  | .int _ => t == "int"
  | .str _ => t == "str"
  | .list _ => t == "list"
  | .tuple _ => t == "tuple"
  | .dict _ => t == "dict"
def seqIx (n : Nat) (i : Int) : Option Nat := if 0 ≤ i then (if i < n then some i.toNat else none) else (if -(n : Int) ≤ i then some (i + n).toNat else none)
def subD : PyData → PyData → Option PyData
  | .list l, .int i => (seqIx l.length i).bind fun j => l[j]?
  | .tuple l, .int i => (seqIx l.length i).bind fun j => l[j]?
  | .str x, .int i => ((seqIx x.cps.toList.length i).bind fun j => x.cps.toList[j]?).map fun c => .str ⟨#[c]⟩
  | .dict kvs, k => if isKey k then look k kvs else none
  | _, _ => none
def clampIx (n : Nat) (d : Nat) : Option Int → Nat
  | none => d
  | some i => if i < 0 then (i + (n : Int)).toNat else min i.toNat n
def slD : PyData → Option Int → Option Int → Option PyData
  | .list l, lo, hi => some (.list ((l.drop (clampIx l.length 0 lo)).take (clampIx l.length l.length hi - clampIx l.length 0 lo)))
  | .tuple l, lo, hi => some (.tuple ((l.drop (clampIx l.length 0 lo)).take (clampIx l.length l.length hi - clampIx l.length 0 lo)))
  | _, _, _ => none
def signs (x : Str) : List PyData := x.cps.toList.map fun c => .str ⟨#[c]⟩
def iterD : PyData → Option (List PyData)
  | .list l => some l
  | .tuple l => some l
  | .str x => some (signs x)
  | .dict kvs => some (kvs.map (·.1))
  | _ => none
def seqD : PyData → Option (List PyData)
  | .list l => some l
  | .tuple l => some l
  | _ => none
def allAlike (l : List PyData) : Bool := l.all fun a => l.all fun b => alike a b
def sortable (l : List PyData) : Bool := (l.all fun d => match d with | .tuple (_ :: _) => true | _ => false) || (l.all fun d => match d with | .tuple _ => false | .none => false | _ => true)
def dle (a b : PyData) : Bool := !dataLt b a
def sortD (l : List PyData) : Option PyData := if allAlike l && sortable l && decide (PyData.depthAll l ≤ 60) then some (.list (l.mergeSort dle)) else none
def sumI : List PyData → Option Int
  | [] => some 0
  | .int i :: r => (sumI r).map (i + ·)
  | _ => none
def b1D : B1 → PyData → Option PyData
  | .len, .list l => some (.int l.length)
  | .len, .tuple l => some (.int l.length)
  | .len, .str x => some (.int x.length)
  | .len, .dict l => some (.int l.length)
  | .int, .int i => some (.int i)
  | .int, .bool b => some (.int (if b then 1 else 0))
  | .list, .list l => some (.list l)
  | .list, .tuple l => some (.list l)
  | .list, .dict kvs => if plainKeys kvs then some (.list (kvs.map (·.1))) else none
  | .tuple, .list l => some (.tuple l)
  | .tuple, .tuple l => some (.tuple l)
  | .sorted, .list l => sortD l
  | .sorted, .dict kvs => if plainKeys kvs then sortD (kvs.map (·.1)) else none
  | .all, .list l => if PyData.plainAll l then some (.bool (l.all PyData.truthy)) else none
  | .any, .list l => if PyData.plainAll l then some (.bool (l.any PyData.truthy)) else none
  | .sum, .list l => (sumI l).map .int
  | .bits, .int i => some (.int (Builtin.Int.intBits i : Nat))
  | .repr, d => if d.showable && decide (d.depth ≤ 60) && decide (d.shown.length ≤ sizeLine) then some (.str d.shown) else none
  | .itemsL, .dict kvs => if plainKeys kvs then some (.list (kvs.map fun q => .tuple [q.1, q.2])) else none
  | .neg, .int i => some (.int (-i))
  | .abs, .int i => some (.int (if i < 0 then -i else i))
  | .upper, .str x => if x.length ≤ 100000 then some (.str (Txt.upper x)) else none
  | _, _ => none
def b2D : B2 → PyData → PyData → Option PyData
  | .max, .int a, .int b => some (.int (if b > a then b else a))
  | .min, .int a, .int b => some (.int (if b < a then b else a))
  | _, _, _ => none
end DL
set_option Elab.async false
set_option linter.all false
/-! DL, part b: the evaluator. -/
namespace DL
open PySem PySem.W
abbrev OV := Out (PyData × DEnv)
/-- a name that is borrowed is read again where it is used -/
def opd : E → PyData → DEnv → Option PyData
  | .bor i, _, ρ => (match ρ[i]? with
    | some (.own _ l) => some (.list l)
    | some (.ownD _ kvs) => some (.dict kvs)
    | _ => none)
  | _, d, _ => some d
def getV (i : Nat) (ρ : DEnv) : OV := match ρ[i]? with
  | some (.val d) => .ok (d, ρ)
  | some (.own false l) => .ok (.list l, ρ.set i (.val (.list l)))
  | some (.ownD false kvs) => .ok (.dict kvs, ρ.set i (.val (.dict kvs)))
  | _ => .bad
def getB (i : Nat) (ρ : DEnv) : OV := match ρ[i]? with
  | some (.own _ l) => .ok (.list l, ρ)
  | some (.ownD _ kvs) => .ok (.dict kvs, ρ)
  | _ => .bad
def bindL : List Nat → List PyData → DEnv → Option DEnv
  | [], [], ρ => some ρ
  | i :: is, d :: ds, ρ => bindL is ds (ρ.set i (.val d))
  | _, _, _ => none
def bindT : Tg → PyData → DEnv → Option DEnv
  | .n i, d, ρ => some (ρ.set i (.val d))
  | .t is, .tuple ds, ρ => bindL is ds ρ
  | .t _, _, _ => none
def wipeD (ρ : DEnv) : List Nat → DEnv
  | [] => ρ
  | i :: is => (wipeD ρ is).set i .no
/-- a list that is walked as it stands: its name is out of sight as long -/
def holdOf : It → Option Nat
  | .bor i => some i
  | _ => none
def unholdD (h : Option Nat) (ρ0 ρ : DEnv) : DEnv := match h with
  | some i => ρ.set i (ρ0.getD i .no)
  | none => ρ
/-- behind a comprehension: its own names as they stood -/
def backD (ρ ρ' : DEnv) : List Nat → DEnv
  | [] => ρ'
  | i :: is => (backD ρ ρ' is).set i (ρ.getD i .no)
def Slot.isOwn : Slot → Bool
  | .own _ _ => true
  | .ownD _ _ => true
  | _ => false
/-- in a comprehension no error may leave -/
def noExc {α : Type} : Out α → Out α
  | .ok x => .ok x
  | _ => .bad
def lcLoop (own : List Nat) (step : PyData → DEnv → Out (Option PyData × DEnv)) : List PyData → List PyData → DEnv → Out (List PyData × DEnv)
  | [], acc, ρ => .ok (acc, ρ)
  | x :: xs, acc, ρ => (noExc (step x (wipeD ρ own))).bind fun r => lcLoop own step xs (match r.1 with
    | some y => acc ++ [y]
    | none => acc) r.2
def isBor : E → Option Nat
  | .bor i => some i
  | _ => none
def dictOf : List PyData → List (PyData × PyData) → Option (List (PyData × PyData))
  | [], acc => some acc
  | k :: v :: r, acc => if isKey k then dictOf r (put k v acc) else none
  | _, _ => none
def pairsD : List PyData → List (PyData × PyData) → Option (List (PyData × PyData))
  | [], acc => some acc
  | .tuple [k, v] :: r, acc => if isKey k then pairsD r (put k v acc) else none
  | _, _ => none
/-- a key of another kind, as the last one: None, a tuple of texts, whole numbers and None -/
def oddFlat : PyData → Bool
  | .none => true
  | .int _ => true
  | .str _ => true
  | _ => false
def oddKey : PyData → Bool
  | .none => true
  | .tuple ds => ds.all oddFlat
  | _ => false
def pairsX (l : List PyData) : Option (List (PyData × PyData)) := match pairsD l [] with
  | some o => some o
  | none => (match l.getLast? with
    | some (.tuple [k, v]) => if oddKey k && decide (l.length ≤ sizeLine) then (pairsD l.dropLast []).map (· ++ [(k, v)]) else none
    | _ => none)
def enumD : Nat → List PyData → List PyData
  | _, [] => []
  | n, x :: xs => .tuple [.int n, x] :: enumD (n + 1) xs
def zipD : List PyData → List PyData → List PyData
  | x :: xs, y :: ys => .tuple [x, y] :: zipD xs ys
  | _, _ => []
def zip3D : List PyData → List PyData → List PyData → List PyData
  | x :: xs, y :: ys, z :: zs => .tuple [x, y, z] :: zip3D xs ys zs
  | _, _, _ => []
def rangeD : Int → Nat → List PyData
  | _, 0 => []
  | i, n + 1 => .int i :: rangeD (i + 1) n
/-- a value's truth -/
def tru (e : E) (o : OV) : Out (Bool × DEnv) := o.bind fun x => Out.ofOpt ((opd e x.1 x.2).map (·.truthy)) x.2
/-- at which place the def f takes what it changes -/
abbrev Refs := Nat → Option Nat
def two (g : PyData → PyData → Option PyData) (a b : E) (x y : PyData) (ρ : DEnv) : Option PyData := (opd a x ρ).bind fun x1 => (opd b y ρ).bind fun y1 => g x1 y1
def opds : List E → List PyData → DEnv → Option (List PyData)
  | [], [], _ => some []
  | e :: es, d :: ds, ρ => (opd e d ρ).bind fun x => (opds es ds ρ).map (x :: ·)
  | _, _, _ => none
section
variable (GT : List (Str × PyData)) (PhU : Nat → Fun) (RF : Refs) (KP : Nat → List Nat → List Nat)
def putBack (i : Nat) (o : PyData) (ρ : DEnv) : Option DEnv := match ρ[i]?, o with
  | some (.own r _), .list l => some (ρ.set i (.own r l))
  | some (.ownD r _), .dict l => some (ρ.set i (.ownD r l))
  | _, _ => none
def refArg (es : List E) (j : Nat) : Option Nat := match es[j]? with
  | some e => cond ((es.eraseIdx j).all fun e => (isBor e).isNone) (isBor e) none
  | none => none
def doCall (f : Nat) (es : List E) (ds : List PyData) (ρ : DEnv) : OV := match RF f with
  | none => if es.all fun e => (isBor e).isNone then (PhU f ds).bind fun r => .ok (r.1, ρ) else .bad
  | some j => (match refArg es j, opds es ds ρ with
    | some i, some xs => (PhU f xs).bind fun r => (match putBack i r.2 ρ with
      | some ρ' => .ok (r.1, ρ')
      | none => .bad)
    | _, _ => .bad)
def popD (i : Nat) (j : PyData) (ρ : DEnv) : OV := match ρ[i]?, j with
  | some (.own r l), .int n => if -(2 ^ 63) ≤ n ∧ n < 2 ^ 63 then (match seqIx l.length n with
    | some m => (match l[m]? with
      | some d => .ok (d, ρ.set i (.own r (l.eraseIdx m)))
      | none => .bad)
    | none => .bad) else .bad
  | _, _ => .bad
def b1X (f : B1) (d : PyData) : Option PyData := match f, d with
  | .dict, .dict kvs => if plainKeys kvs then some (.dict kvs) else none
  | .dictP, .list l => (pairsX l).map .dict
  | .sortedLen, .list l => if PyData.plainAll l then (if l.all fun d => (match d with | .list _ => true | _ => false) then some (.list (l.mergeSort fun a b => (match a, b with | .list x, .list y => decide (x.length ≤ y.length) | _, _ => true))) else none) else none
  | _, d => b1D f d
mutual
def ev : E → DEnv → OV
  | .v i, ρ => getV i ρ
  | .bor i, ρ => getB i ρ
  | .k d, ρ => .ok (d, ρ)
  | .g j, ρ => (match GT[j]? with
    | some q => .ok (q.2, ρ)
    | none => .bad)
  | .bin o a b, ρ => (ev a ρ).bind fun x => (ev b x.2).bind fun y => Out.ofOpt (two (binD o) a b x.1 y.1 y.2) y.2
  | .cmp o a b, ρ => (ev a ρ).bind fun x => (ev b x.2).bind fun y => Out.ofOpt (two (fun u v => (cmpD o u v).map .bool) a b x.1 y.1 y.2) y.2
  | .isN neg a, ρ => (ev a ρ).bind fun x => .ok (.bool (match x.1 with | .none => !neg | _ => neg), x.2)
  | .chain o1 o2 a b c, ρ => (ev a ρ).bind fun x => (ev b x.2).bind fun y => (match cmpD o1 x.1 y.1 with
    | some true => (ev c y.2).bind fun z => Out.ofOpt ((cmpD o2 y.1 z.1).map .bool) z.2
    | some false => .ok (.bool false, y.2)
    | none => .bad)
  | .andL es, ρ => evAnd es ρ
  | .orL es, ρ => evOr es ρ
  | .not a, ρ => (ev a ρ).bind fun x => Out.ofOpt ((opd a x.1 x.2).map fun d => .bool (!d.truthy)) x.2
  | .ite c a b, ρ => (tru c (ev c ρ)).bind fun x => if x.1 then ev a x.2 else ev b x.2
  | .tup es, ρ => (evs es ρ).bind fun x => .ok (.tuple x.1, x.2)
  | .lst es, ρ => (evs es ρ).bind fun x => .ok (.list x.1, x.2)
  | .dct es, ρ => (evs es ρ).bind fun x => Out.ofOpt ((dictOf x.1 []).map .dict) x.2
  | .sub a i, ρ => (ev a ρ).bind fun x => (ev i x.2).bind fun y => Out.ofOpt (two subD a i x.1 y.1 y.2) y.2
  | .sl a lo hi, ρ => (ev a ρ).bind fun x => (evo lo x.2).bind fun y => (evo hi y.2).bind fun z => Out.ofOpt ((opd a x.1 z.2).bind fun x1 => slD x1 y.1 z.1) z.2
  | .rev a, ρ => (ev a ρ).bind fun x => (match x.1 with
    | .list l => .ok (.list l.reverse, x.2)
    | _ => .bad)
  | .call f es, ρ => (evs es ρ).bind fun x => doCall PhU RF f es x.1 x.2
  | .callK f ks es, ρ => (evs es ρ).bind fun x => (PhU f ((KP f ks).filterMap fun j => x.1[j]?)).bind fun r => .ok (r.1, x.2)
  | .b1 f a, ρ => (ev a ρ).bind fun x => Out.ofOpt ((opd a x.1 x.2).bind (b1X f)) x.2
  | .b2 f a b, ρ => (ev a ρ).bind fun x => (ev b x.2).bind fun y => Out.ofOpt (two (b2D f) a b x.1 y.1 y.2) y.2
  | .isa ts a, ρ => (ev a ρ).bind fun x => .ok (.bool (ts.any fun t => isT t x.1), x.2)
  | .isX i x cs, ρ => (match ρ[i]? with
    | some (.exc c _) => if c ∈ cs then .ok (.bool (subC c x), ρ) else .bad
    | some (.val .none) => .ok (.bool false, ρ)
    | _ => .bad)
  | .isNX neg i, ρ => (match ρ[i]? with
    | some (.exc _ _) => .ok (.bool neg, ρ)
    | some (.val .none) => .ok (.bool !neg, ρ)
    | _ => .bad)
  | .valX i cs, ρ => (match ρ[i]? with
    | some (.exc c d) => if c ∈ cs then .ok (d, ρ) else .bad
    | _ => .bad)
  | .callN g es, ρ => (evs es ρ).bind fun x => (PhU g x.1).bind fun r => (match r.1 with
    | .list l => .ok (.list l, x.2)
    | _ => .bad)
  | .callT f g es, ρ => (evs es ρ).bind fun x => (PhU g x.1).bind fun r => (match r.1 with
    | .list l => (PhU f [.list l]).bind fun q => .ok (q.1, x.2)
    | _ => .bad)
  | .bot, _ => .bad
  | .popA i a, ρ => (match ρ[i]? with
    | some (.own _ _) => (ev a ρ).bind fun x => popD i x.1 x.2
    | _ => .bad)
  | .lc own tg it test elt, ρ => (evi it ρ).bind fun x => if own.any (fun i => (x.2.getD i .no).isOwn) || decide (sizeLine < x.1.length) then .bad else (lcLoop own (fun d ρ1 => (match bindT tg d ρ1 with
    | some ρ2 => (evq test ρ2).bind fun q => if q.1 then (ev elt q.2).bind fun y => .ok (some y.1, y.2) else .ok (none, q.2)
    | none => .bad)) x.1 [] x.2).bind fun y => .ok (.list y.1, unholdD (holdOf it) ρ (backD x.2 (wipeD y.2 own) own))
def evs : List E → DEnv → Out (List PyData × DEnv)
  | [], ρ => .ok ([], ρ)
  | e :: es, ρ => (ev e ρ).bind fun x => (evs es x.2).bind fun y => .ok (x.1 :: y.1, y.2)
def evAnd : List E → DEnv → OV
  | [], _ => .bad
  | [e], ρ => ev e ρ
  | e :: es, ρ => (ev e ρ).bind fun x => if x.1.truthy then evAnd es x.2 else .ok x
def evOr : List E → DEnv → OV
  | [], _ => .bad
  | [e], ρ => ev e ρ
  | e :: es, ρ => (ev e ρ).bind fun x => if x.1.truthy then .ok x else evOr es x.2
def evo : Option E → DEnv → Out (Option Int × DEnv)
  | none, ρ => .ok (none, ρ)
  | some e, ρ => (ev e ρ).bind fun x => (match x.1 with
    | .int i => .ok (some i, x.2)
    | _ => .bad)
def evq : Option E → DEnv → Out (Bool × DEnv)
  | none, ρ => .ok (true, ρ)
  | some e, ρ => tru e (ev e ρ)
def evi : It → DEnv → Out (List PyData × DEnv)
  | .e a, ρ => (ev a ρ).bind fun x => Out.ofOpt (iterD x.1) x.2
  | .bor i, ρ => (match ρ[i]? with
    | some (.own _ l) => .ok (l, ρ.set i .no)
    | _ => .bad)
  | .range1 a, ρ => (ev a ρ).bind fun x => (match x.1 with
    | .int n => if -(2 ^ 62) ≤ n ∧ n < 2 ^ 62 then .ok (rangeD 0 n.toNat, x.2) else .bad
    | _ => .bad)
  | .range2 a b, ρ => (ev a ρ).bind fun x => (ev b x.2).bind fun y => (match x.1, y.1 with
    | .int m, .int n => if -(2 ^ 62) ≤ m ∧ m < 2 ^ 62 ∧ -(2 ^ 62) ≤ n ∧ n < 2 ^ 62 then .ok (rangeD m (n - m).toNat, y.2) else .bad
    | _, _ => .bad)
  | .enum a, ρ => (ev a ρ).bind fun x => Out.ofOpt ((seqD x.1).map (enumD 0)) x.2
  | .zip2 a b, ρ => (ev a ρ).bind fun x => (ev b x.2).bind fun y => Out.ofOpt ((seqD x.1).bind fun l => (seqD y.1).map fun m => zipD l m) y.2
  | .zip3 a b c, ρ => (ev a ρ).bind fun x => (ev b x.2).bind fun y => (ev c y.2).bind fun z => Out.ofOpt ((seqD x.1).bind fun l => (seqD y.1).bind fun m => (seqD z.1).map fun n => zip3D l m n) z.2
  | .rev a, ρ => (ev a ρ).bind fun x => Out.ofOpt ((seqD x.1).map List.reverse) x.2
  | .items a, ρ => (ev a ρ).bind fun x => (match x.1 with
    | .dict kvs => if plainKeys kvs then .ok (kvs.map fun q => .tuple [q.1, q.2], x.2) else .bad
    | _ => .bad)
end
def Fl.of (o : OV) (f : PyData → DEnv → Fl) : Fl := match o with
  | .ok x => f x.1 x.2
  | .exc c d => .exc c d
  | .bad => .bad
def forLoop (step : PyData → DEnv → Fl) : List PyData → DEnv → Fl
  | [], ρ => .nx ρ
  | x :: xs, ρ => (match step x ρ with
    | .nx ρ' => forLoop step xs ρ'
    | .ct ρ' => forLoop step xs ρ'
    | .bk ρ' => .nx ρ'
    | r => r)
def whlLoop (test : DEnv → Out (Bool × DEnv)) (step : DEnv → Fl) : Nat → DEnv → Fl
  | 0, _ => .bad
  | n + 1, ρ => (match test ρ with
    | .ok (true, ρ') => (match step ρ' with
      | .nx ρ2 => whlLoop test step n ρ2
      | .ct ρ2 => whlLoop test step n ρ2
      | .bk ρ2 => .nx ρ2
      | r => r)
    | .ok (false, ρ') => .nx ρ'
    | .exc c d => .exc c d
    | .bad => .bad)
def ownOf : PyData → Option Slot
  | .list l => some (.own false l)
  | .dict l => if plainKeys l then some (.ownD false l) else none
  | _ => none
def parSet : List Nat → List Bool → List PyData → DEnv → Option DEnv
  | [], [], [], ρ => some ρ
  | i :: is, o :: os, d :: ds, ρ => if o then (ownOf d).bind fun s => parSet is os ds (ρ.set i s) else parSet is os ds (ρ.set i (.val d))
  | _, _, _, _ => none
def setAt (i : Nat) (j d : PyData) (ρ : DEnv) : Fl := match ρ[i]?, j with
  | some (.own r l), .int n => (match seqIx l.length n with
    | some m => .nx (ρ.set i (.own r (l.set m d)))
    | none => .bad)
  | some (.ownD r l), k => if isKey k && decide (l.length < sizeLine) then .nx (ρ.set i (.ownD r (put k d l))) else .bad
  | _, _ => .bad
/-- the values for several names, from the left -/
def evPs : List Bool → List E → DEnv → Out (List PyData × DEnv)
  | [], [], ρ => .ok ([], ρ)
  | false :: os, e :: es, ρ => (ev GT PhU RF KP e ρ).bind fun x => (evPs os es x.2).bind fun y => .ok (x.1 :: y.1, y.2)
  | true :: os, e :: es, ρ => (ev GT PhU RF KP e ρ).bind fun x => (match ownOf x.1 with
    | some _ => (evPs os es x.2).bind fun y => .ok (x.1 :: y.1, y.2)
    | none => .bad)
  | _, _, _ => .bad
/-- a try's body: the names' own things are out of sight -/
def hideD (ρ : DEnv) : DEnv := ρ.map fun s => if s.isOwn then .no else s
def evT : TB → DEnv → Out Unit
  | .call f es, ρ => (noExc (evs GT PhU RF KP es (hideD ρ))).bind fun x => (match RF f with
    | none => if es.all fun e => (isBor e).isNone then (PhU f x.1).bind fun _ => .ok () else .bad
    | some _ => .bad)
  | .ite c a b, ρ => (noExc (tru c (ev GT PhU RF KP c (hideD ρ)))).bind fun x => if x.1 then evT a x.2 else evT b x.2
variable (fu : Nat)
mutual
def exec : S → DEnv → Fl
  | .asg i e, ρ => Fl.of (ev GT PhU RF KP e ρ) fun d ρ' => .nx (ρ'.set i (.val d))
  | .asgO i e, ρ => Fl.of (ev GT PhU RF KP e ρ) fun d ρ' => (match ownOf d with
    | some s => .nx (ρ'.set i s)
    | none => .bad)
  | .asgT is e, ρ => Fl.of (ev GT PhU RF KP e ρ) fun d ρ' => (match bindT (.t is) d ρ' with
    | some ρ2 => .nx ρ2
    | none => .bad)
  | .par is os es, ρ => (match evPs GT PhU RF KP os es ρ with
    | .ok x => (match parSet is os x.1 x.2 with
      | some ρ2 => .nx ρ2
      | none => .bad)
    | .exc c d => .exc c d
    | .bad => .bad)
  | .ex e, ρ => Fl.of (ev GT PhU RF KP e ρ) fun _ ρ' => .nx ρ'
  | .app i e, ρ => (match ρ[i]? with
    | some (.own _ _) => Fl.of (ev GT PhU RF KP e ρ) fun d ρ' => (match ρ'[i]? with
      | some (.own r l) => if l.length < sizeLine then .nx (ρ'.set i (.own r (l ++ [d]))) else .bad
      | _ => .bad)
    | _ => .bad)
  | .ext i e, ρ => Fl.of (ev GT PhU RF KP e ρ) fun d ρ' => (match ρ'[i]?, d with
    | some (.own r l), .list m => if l.length + m.length ≤ sizeLine then .nx (ρ'.set i (.own r (l ++ m))) else .bad
    | _, _ => .bad)
  | .set i ie e, ρ => (match ρ[i]? with
    | some .no => .bad
    | none => .bad
    | _ => Fl.of (ev GT PhU RF KP e ρ) fun d ρ' => Fl.of (ev GT PhU RF KP ie ρ') fun j ρ2 => setAt i j d ρ2)
  | .ret e, ρ => Fl.of (ev GT PhU RF KP e ρ) fun d ρ' => .rt d ρ'
  | .ite c a b, ρ => (match tru c (ev GT PhU RF KP c ρ) with
    | .ok x => if x.1 then execs a x.2 else execs b x.2
    | .exc c d => .exc c d
    | .bad => .bad)
  | .for tg it body, ρ => (match evi GT PhU RF KP it ρ with
    | .ok x => (match holdOf it with
      | some _ => .bad
      | none => forLoop (fun d ρ1 => match bindT tg d ρ1 with
        | some ρ2 => execs body ρ2
        | none => .bad) x.1 x.2)
    | .exc c d => .exc c d
    | .bad => .bad)
  | .whl c body, ρ => whlLoop (fun ρ1 => tru c (ev GT PhU RF KP c ρ1)) (execs body) fu ρ
  | .brk, ρ => .bk ρ
  | .cnt, ρ => .ct ρ
  | .pas, ρ => .nx ρ
  | .rai c e, ρ => Fl.of (ev GT PhU RF KP e ρ) fun d _ => .exc c d
  | .bot, _ => .bad
  | .try b c cs n i, ρ => (match evT GT PhU RF KP b ρ with
    | .ok _ => .nx ρ
    | .exc c' d => if c' ∉ cs then .bad else if subC c' c then .nx ((ρ.set i (.exc c' d)).set n .no) else .exc c' d
    | .bad => .bad)
def execs : List S → DEnv → Fl
  | [], ρ => .nx ρ
  | s :: ss, ρ => (match exec s ρ with
    | .nx ρ' => execs ss ρ'
    | r => r)
end
end
/-- a def: how many parameters, the one that it changes, how many names, its body -/
structure Def where
  pn : Nat
  ref : Option Nat
  nn : Nat
  body : List S
def refSlot : PyData → Option Slot
  | .list l => some (.own true l)
  | .dict l => some (.ownD true l)
  | _ => none
def startD (ref : Option Nat) (ds : List PyData) : Option DEnv := match ref with
  | none => some (ds.map .val)
  | some j => (ds[j]?).bind fun d => (refSlot d).map fun s => (ds.map Slot.val).set j s
def outD (ρ : DEnv) : Option Nat → Option PyData
  | none => some .none
  | some i => (match ρ[i]? with
    | some (.own true l) => some (.list l)
    | some (.ownD true l) => some (.dict l)
    | _ => none)
def runD (GT : List (Str × PyData)) (PhU : Nat → Fun) (RF : Refs) (KP : Nat → List Nat → List Nat) (fu : Nat) (D : Def) : Fun := fun ds =>
  if ds.length = D.pn then (match startD D.ref ds with
    | some ρ => (match execs GT PhU RF KP fu D.body (ρ ++ List.replicate (D.nn - D.pn) .no) with
      | .rt d ρ' => Out.ofOpt (some d) () |>.bind fun q => (match outD ρ' D.ref with
        | some o => .ok (q.1, o)
        | none => .bad)
      | .nx ρ' => (match outD ρ' D.ref with
        | some o => .ok (.none, o)
        | none => .bad)
      | .exc c d => .exc c d
      | _ => .bad)
    | none => .bad) else .bad
end DL
set_option Elab.async false
set_option linter.all false
set_option maxRecDepth 100000
set_option maxHeartbeats 4000000
/-! DL, part bn: a dict whose keys are of several kinds (texts, whole numbers, None, tuples of such): a key is sought, laid. -/
namespace DL
open PySem PySem.SeqAt
abbrev NEnt := NestedKey × Value × Value
def entN (w : World) (x : NEnt) : DictEntry := ⟨x.1.hash w, x.2.1, x.2.2⟩
def IsN (h : Heap) (k : NestedKey) (v : Value) : Prop := NestedIs h k v ∧ k.depth ≤ 8
section
variable {prog : Program} {w : World} {A : Around} {E : Value → Shared → Prop} {s : Shared}
theorem wpAny_ite_split {α : Type} {c : Prop} [Decidable c] {a b : Sem α} {Q : α → Shared → Prop} {M : Model} (h1 : c → wpAny M A a Q E s) (h2 : ¬ c → wpAny M A b Q E s) : wpAny M A (if c then a else b) Q E s := by
  split
  · exact h1 ‹_›
  · exact h2 ‹_›
theorem mayTell_n {k : NestedKey} {v : Value} {stored : List Value} {Q : Bool → Shared → Prop} (hkey : IsN s.heap k v) (hst : ∀ u ∈ stored, ∃ k', IsN s.heap k' u) (h : Q false s) : wpAny (model prog w) A (tableMayTell v stored) Q E s := by
  unfold tableMayTell
  split
  · exact wpAny_pure h
  · refine wpAny_bind (quiet_key k v 8 s hkey.1 hkey.2 A E _ ?_)
    simp only [Bool.not_true, Bool.false_eq_true, if_false]
    refine wpAny_bind ?_
    refine wpAny_forIn_list _ (fun rest r s' => s' = s ∧ r = (none, ()) ∧ ∀ u ∈ rest, ∃ k', IsN s.heap k' u) _ ?_ ?_ _ _ ⟨rfl, rfl, hst⟩
    · rintro x rest r s' ⟨rfl, rfl, hr⟩
      obtain ⟨k', hb⟩ := hr x List.mem_cons_self
      refine wpAny_bind (quiet_key k' x 8 s' hb.1 hb.2 A E _ ?_)
      simp only [Bool.not_true, Bool.false_eq_true, if_false]
      exact wpAny_pure ⟨rfl, rfl, fun v hv => hr v (List.mem_cons_of_mem _ hv)⟩
    · rintro r s' ⟨rfl, rfl, _⟩
      exact wpAny_pure h
theorem entN_at {es : Array DictEntry} {xs : List NEnt} (he : es.toList = xs.map (entN w)) (j : Nat) : es[j]? = (xs[j]?).map (entN w) := by
  rw [← Array.getElem?_toList, he, List.getElem?_map]
theorem sizeN {es : Array DictEntry} {xs : List NEnt} (he : es.toList = xs.map (entN w)) : es.size = xs.length := by
  rw [← Array.length_toList, he, List.length_map]
theorem eqN (hu : A.units + 8 < cLine) {x y : NestedKey} {a b : Value} (hx : IsN s.heap x a) (hy : IsN s.heap y b) {Q : Bool → Shared → Prop} (h : Q (decide (x = y)) s) : wpAny (model prog w) A (eqBool a b) Q E s :=
  eqAt_key x y A s _ _ hx.1 hy.1 (by have := hx.2; omega) _ _ _ _ (by rw [← NestedKey.decide_eq]; exact h)
theorem nodupN {xs : List NEnt} (hn : (xs.map (·.1)).Nodup) {i j : Nat} {k : NestedKey} {p q : Value × Value} (hi : xs[i]? = some (k, p)) (hj : xs[j]? = some (k, q)) : i = j := by
  have hi' : (xs.map (·.1))[i]? = some k := by rw [List.getElem?_map, hi]; rfl
  have hj' : (xs.map (·.1))[j]? = some k := by rw [List.getElem?_map, hj]; rfl
  exact (List.getElem?_inj (List.getElem?_eq_some_iff.mp hi').1 hn).mp (hi'.trans hj'.symm)
theorem find_n {d : Addr} {o : Obj} {es ep} {xs : List NEnt} {k : NestedKey} {kv : Value} {Q : Option Nat → Shared → Prop} (hu : A.units + 8 < cLine) (hkey : IsN s.heap k kv)
    (hodd : (∀ x t, kv ≠ .str x t) ∨ ∃ e ∈ es, isExactStrKey e.key = false)
    (ho : s.heap.get? d = some o) (hd : o.data = .dict es ep) (he : es.toList = xs.map (entN w)) (his : ∀ x ∈ xs, IsN s.heap x.1 x.2.1) (hn : (xs.map (·.1)).Nodup)
    (hnone : (∀ (j : Nat) (p : Value × Value), xs[j]? ≠ some (k, p)) → Q none s) (hsome : ∀ (j : Nat) (p : Value × Value), xs[j]? = some (k, p) → Q (some j) s) :
    wpAny (model prog w) A (dictFind d kv (k.hash w)) Q E s := by
  have hsz : es.size = xs.length := sizeN he
  have haskey : ∀ (j : Nat) (p : Value × Value), xs[j]? = some (k, p) → ((es[j]?.map (·.hash)) == some (k.hash w)) = true := by
    intro j p hj
    rw [entN_at he j, hj]
    simp [entN]
  have hmem : ∀ e ∈ es, ∃ x ∈ xs, e = entN w x := by
    intro e hin
    have : e ∈ xs.map (entN w) := he ▸ Array.mem_toList_iff.mpr hin
    obtain ⟨x, hx, rfl⟩ := List.mem_map.mp this
    exact ⟨x, hx, rfl⟩
  have hany : ∀ a, kv = .ref a → ¬ (es.any fun e => e.key == Value.ref a && e.hash != k.hash w) = true := by
    intro a ea
    subst ea
    rw [← Array.any_toList, List.any_eq_true]
    rintro ⟨e, hin, hc⟩
    obtain ⟨x, hx, rfl⟩ := hmem e (Array.mem_toList_iff.mp hin)
    simp only [entN, Bool.and_eq_true, beq_iff_eq, bne_iff_ne, ne_eq] at hc
    obtain ⟨hxa, hne⟩ := hc
    have := (his x hx).1
    rw [hxa] at this
    exact hne (by rw [NestedIs.inj _ _ _ this hkey.1])
  have hst : ∀ v ∈ (placesWithHash es.size (fun i => es[i]?.map (·.hash)) (k.hash w)).filterMap (fun i => es[i]?.map (·.key)), ∃ k', IsN s.heap k' v := by
    intro v hv
    obtain ⟨i, _, hi⟩ := List.mem_filterMap.mp hv
    cases hei : es[i]? with
    | none => rw [hei] at hi; cases hi
    | some e =>
      rw [hei] at hi
      obtain rfl : e.key = v := by simpa using hi
      obtain ⟨x, hx, rfl⟩ := hmem e (Array.mem_of_getElem? hei)
      exact ⟨x.1, his x hx⟩
  have hplain : wpAny (model prog w) A (dictWalkPlain d kv (k.hash w) es (placesWithHash es.size (fun i => es[i]?.map (·.hash)) (k.hash w))) Q E s := by
    unfold dictWalkPlain
    refine wpAny_bind ?_
    refine wpAny_forIn_list _
      (fun rest b s' => s' = s ∧ b = (none, ()) ∧ ∃ i, rest = (List.range' i (es.size - i)).filter (fun i => (es[i]?.map (·.hash)) == some (k.hash w)) ∧ i ≤ es.size ∧ ∀ j p, j < i → xs[j]? ≠ some (k, p)) _ ?_ ?_ _ _
      ⟨rfl, rfl, 0, by rw [placesWithHash, List.range_eq_range', Nat.sub_zero], Nat.zero_le _, fun _ _ h => absurd h (Nat.not_lt_zero _)⟩
    · rintro x rest b s' ⟨rfl, rfl, i, hr, hi, hno⟩
      obtain ⟨hix, hxn, hpx, hskip, hrest⟩ := filter_range'_cons _ _ _ _ _ hr.symm
      have hlt : x < es.size := by omega
      have hrest' : rest = (List.range' (x + 1) (es.size - (x + 1))).filter (fun i => (es[i]?.map (·.hash)) == some (k.hash w)) := by rw [hrest]; congr 2; omega
      obtain ⟨⟨k', b, v'⟩, hkv⟩ : ∃ y, xs[x]? = some y := ⟨xs[x]'(by rw [← hsz]; exact hlt), List.getElem?_eq_getElem _⟩
      have hib : IsN s'.heap k' b := his _ (List.mem_of_getElem? hkv)
      have hex : es[x]? = some ⟨k'.hash w, b, v'⟩ := by rw [entN_at he x, hkv]; rfl
      have hstay : ¬ k' = k → ∀ j p, j < x + 1 → xs[j]? ≠ some (k, p) := fun hne j p hjx hj => by
        rcases Nat.lt_or_ge j i with h | h
        · exact hno j p h hj
        · rcases Nat.lt_or_ge j x with h' | h'
          · have := hskip j h h'
            rw [haskey j p hj] at this
            exact absurd this (by decide)
          · have hjx' : j = x := by omega
            subst hjx'
            rw [hkv] at hj
            injection hj with hj
            injection hj with hj
            exact hne hj
      rw [hex]
      dsimp only
      by_cases hh : (k'.hash w == k.hash w) = true
      · rw [if_pos hh]
        refine wpAny_bind (wpAny_dictEpoch ho hd (wpAny_bind (eqN hu hib hkey (wpAny_bind (wpAny_dictEpoch ho hd ?_)))))
        show wpAny _ _ (if (ep != ep) = true then _ else _) _ E _
        rw [if_neg (by simp)]
        by_cases hkk : k' = k
        · rw [decide_eq_true hkk]
          subst hkk
          exact wpAny_bind (wpAny_rule (wpAny_pure (wpAny_pure (hsome x _ hkv))))
        · rw [decide_eq_false hkk]
          exact wpAny_bind (wpAny_rule (wpAny_pure ⟨rfl, rfl, x + 1, hrest', hlt, hstay hkk⟩))
      · rw [if_neg hh]
        refine wpAny_pure ⟨rfl, rfl, x + 1, hrest', hlt, hstay ?_⟩
        intro hkk
        rw [hkk] at hh; simp at hh
    · rintro b s' ⟨rfl, rfl, i, hr, hi, hno⟩
      have hall : ∀ j, i ≤ j → j < es.size → ((es[j]?.map (·.hash)) == some (k.hash w)) = false := by
        intro j h1 h2
        have := List.filter_eq_nil_iff.mp hr.symm j (List.mem_range'_1.mpr ⟨h1, by omega⟩)
        simpa using this
      refine wpAny_pure (hnone fun j p hj => ?_)
      rcases Nat.lt_or_ge j i with h | h
      · exact hno j p h hj
      · have hjl : j < es.size := by
          rw [hsz]
          exact (List.getElem?_eq_some_iff.mp hj).1
        have := hall j h hjl
        rw [haskey j p hj] at this
        exact absurd this (by decide)
  have notstr : ∀ x t, kv = .str x t → ¬ ((es.all fun e => isExactStrKey e.key) = true) := fun x t ek hall => by
    rcases hodd with h | ⟨e, he1, he2⟩
    · exact h x t ek
    · rw [← Array.all_toList, List.all_eq_true] at hall
      have := hall e (Array.mem_toList_iff.mpr he1)
      rw [he2] at this
      cases this
  unfold dictFind
  try with_reducible refine wpAny_holding ?_
  refine wpAny_bind (wpAny_dictEntries ho hd ?_)
  dsimp only
  cases kv
  all_goals first
    | (exfalso; obtain ⟨z, _⟩ := hkey; cases z; done)
    | skip
  all_goals dsimp only
  all_goals try rw [if_neg (notstr _ _ rfl)]
  all_goals refine wpAny_ite_split (fun _ => hplain) fun _ => ?_
  all_goals try rw [if_neg (hany _ rfl)]
  all_goals refine wpAny_ite_split (fun _ => ?_) fun _ => ?_
  all_goals (first | refine wpAny_bind (wpAny_pure ?_) | refine wpAny_bind (mayTell_n hkey hst ?_))
  all_goals (
    rw [if_neg (by simp)]
    refine wpAny_bind ?_
    refine wpAny_forIn_list _
      (fun rest b s' => s' = s ∧ ∃ i hit, b = (none, hit) ∧ rest = (List.range' i (es.size - i)).filter (fun i => (es[i]?.map (·.hash)) == some (k.hash w)) ∧ i ≤ es.size ∧
        ((hit = none ∧ ∀ j p, j < i → xs[j]? ≠ some (k, p)) ∨ ∃ j p, hit = some j ∧ j < i ∧ xs[j]? = some (k, p))) _ ?_ ?_ _ _
      ⟨rfl, 0, none, rfl, by rw [placesWithHash, List.range_eq_range', Nat.sub_zero], Nat.zero_le _, .inl ⟨rfl, fun _ _ h => absurd h (Nat.not_lt_zero _)⟩⟩
    · rintro x rest b s' ⟨rfl, i, hit, rfl, hr, hi, hH⟩
      obtain ⟨hix, hxn, hpx, hskip, hrest⟩ := filter_range'_cons _ _ _ _ _ hr.symm
      have hlt : x < es.size := by omega
      have hrest' : rest = (List.range' (x + 1) (es.size - (x + 1))).filter (fun i => (es[i]?.map (·.hash)) == some (k.hash w)) := by rw [hrest]; congr 2; omega
      obtain ⟨⟨k', b, v'⟩, hkv⟩ : ∃ y, xs[x]? = some y := ⟨xs[x]'(by rw [← hsz]; exact hlt), List.getElem?_eq_getElem _⟩
      have hib : IsN s'.heap k' b := his _ (List.mem_of_getElem? hkv)
      have hex : es[x]? = some ⟨k'.hash w, b, v'⟩ := by rw [entN_at he x, hkv]; rfl
      have hHx : (hit = none ∧ ∀ j p, j < x → xs[j]? ≠ some (k, p)) ∨ ∃ j p, hit = some j ∧ j < x ∧ xs[j]? = some (k, p) := by
        rcases hH with ⟨h0, hno⟩ | ⟨j, p, h1, hji, hj⟩
        · refine .inl ⟨h0, fun j p hjx hj => ?_⟩
          rcases Nat.lt_or_ge j i with h | h
          · exact hno j p h hj
          · have := hskip j h hjx
            rw [haskey j p hj] at this
            exact absurd this (by decide)
        · exact .inr ⟨j, p, h1, by omega, hj⟩
      have hstay : ¬ k' = k → ((hit = none ∧ ∀ j p, j < x + 1 → xs[j]? ≠ some (k, p)) ∨ ∃ j p, hit = some j ∧ j < x + 1 ∧ xs[j]? = some (k, p)) := by
        intro hne
        rcases hHx with ⟨h0, hno⟩ | ⟨j, p, h1, hjx, hj⟩
        · refine .inl ⟨h0, fun j p hjx hj => ?_⟩
          rcases Nat.lt_or_ge j x with h | h
          · exact hno j p h hj
          · have hjx' : j = x := by omega
            subst hjx'
            rw [hkv] at hj
            injection hj with hj
            injection hj with hj
            exact hne hj
        · exact .inr ⟨j, p, h1, by omega, hj⟩
      rw [hex]
      dsimp only
      by_cases hh : (k'.hash w == k.hash w) = true
      · rw [if_pos hh]
        refine wpAny_bind (wpAny_dictEpoch ho hd (wpAny_bind (eqN hu hib hkey (wpAny_bind (wpAny_dictEpoch ho hd ?_)))))
        show wpAny _ _ (if (ep != ep) = true then _ else _) _ E _
        rw [if_neg (by simp)]
        by_cases hkk : k' = k
        · rw [decide_eq_true hkk]
          subst hkk
          rcases hHx with ⟨rfl, _⟩ | ⟨j, p, _, hjx, hj⟩
          · first | rw [if_pos rfl] | skip
            simp only [Option.isSome_none, Bool.false_eq_true, if_false]
            first | refine wpAny_bind (wpAny_pure ?_) | skip
            refine wpAny_bind (wpAny_rule ?_)
            split
            · exact wpAny_pure (wpAny_pure (hsome x _ hkv))
            · exact wpAny_pure ⟨rfl, x + 1, some x, rfl, hrest', hlt, .inr ⟨x, _, rfl, Nat.lt_succ_self x, hkv⟩⟩
          · exact absurd (nodupN hn hj hkv) (by omega)
        · rw [decide_eq_false hkk]
          simp only [Bool.false_eq_true, if_false]
          refine wpAny_bind (wpAny_rule ?_)
          first | rw [if_neg (by simp)] | skip
          first
            | exact wpAny_pure ⟨rfl, x + 1, hit, rfl, hrest', hlt, hstay hkk⟩
            | exact wpAny_bind (wpAny_pure (wpAny_pure ⟨rfl, x + 1, hit, rfl, hrest', hlt, hstay hkk⟩))
      · rw [if_neg hh]
        refine wpAny_pure ⟨rfl, x + 1, hit, rfl, hrest', hlt, hstay ?_⟩
        intro hkk
        rw [hkk] at hh; simp at hh
    · rintro b s' ⟨rfl, i, hit, rfl, hr, hi, hH⟩
      have hall : ∀ j, i ≤ j → j < es.size → ((es[j]?.map (·.hash)) == some (k.hash w)) = false := by
        intro j h1 h2
        have := List.filter_eq_nil_iff.mp hr.symm j (List.mem_range'_1.mpr ⟨h1, by omega⟩)
        simpa using this
      rcases hH with ⟨rfl, hno⟩ | ⟨j, p, rfl, _, hj⟩
      · refine wpAny_pure (hnone fun j p hj => ?_)
        rcases Nat.lt_or_ge j i with h | h
        · exact hno j p h hj
        · have hjl : j < es.size := by
            rw [hsz]
            exact (List.getElem?_eq_some_iff.mp hj).1
          have := hall j h hjl
          rw [haskey j p hj] at this
          exact absurd this (by decide)
      · exact wpAny_pure (hsome j p hj))
end
end DL
set_option Elab.async false
set_option linter.all false
set_option maxRecDepth 100000
set_option maxHeartbeats 1000000
/-! DL, part c: what of the heap a datum is. -/
namespace DL
open PySem PySem.Spec PyProof.Rows L2
/-- the written part, with the world -/
structure Frg where
  fr : PySem.W.Frag
  w : World
  cl : Str → Addr
instance : Coe Frg PySem.W.Frag := ⟨Frg.fr⟩
/-- where a class of the text stands -/
def clOf (mg : Str → Option Value) (c : Str) : Addr := match mg c with
  | some (.ref a) => a
  | _ => 0
abbrev _root_.L2.Cx.F (X : L2.Cx) : Frg := ⟨X.K, X.w, clOf X.mg⟩
/-- an own error, held: its class at C, its dict at dx -/
def ExD (C dx a : Addr) : HO := .ext fun h => ∃ (oe : Obj) (vs : Array Value), h.get? a = some oe ∧ Zc (.ref C) (some dx) oe ∧ oe.data = .fields vs
theorem exD_ok {P : Program} {w : World} {H : Hp} {h : Heap} {a C dx : Addr} {oe : Obj} {vs : Array Value} (e : h.get? a = some oe) (z : Zc (.ref C) (some dx) oe) (d : oe.data = .fields vs) : ObjOk P w H h a (ExD C dx a) :=
  ⟨⟨oe, vs, e, z, d⟩, ⟨oe, e⟩, fun _ _ ⟨o, v, q, r⟩ k => ⟨o, v, k o q, r⟩⟩
/-- a tuple of the written part -/
def KT (K : Frg) (a : Addr) (xs : List V) : Prop :=
  ∃ (o : Obj) (its : Array Value) (n : Nat), K.fr.lookup a = some o ∧ o.cls = .type "tuple" ∧ o.data = .seq its n ∧ its.size ≤ sizeLine ∧ Vals xs its.toList
def kD : Key → PyData
  | .inl i => .int i
  | .inr x => .str x
def keyFit : Key → Prop
  | .inl _ => True
  | .inr x => x.length ≤ sizeLine
/-- a key of another kind -/
def oddF : PyData → Option NestedKey
  | .none => some .none
  | .int i => some (.num i)
  | .str x => some (.text x)
  | _ => none
def oddL : List PyData → Option (List NestedKey)
  | [] => some []
  | d :: ds => (oddF d).bind fun k => (oddL ds).map (k :: ·)
def oddN : PyData → Option NestedKey
  | .none => some .none
  | .tuple ds => (oddL ds).map .tup
  | _ => none
/-- the object of a dict: keys of the common kinds, then one of another kind -/
structure XD (w : World) (o : Obj) (xs : List (Key × Value × Value)) (kn : NestedKey) (ko vo : Value) : Prop where
  ex : o.ExactDict
  dat : ∃ es ep, o.data = .dict es ep ∧ es.toList = (xs.map fun x => ⟨keyH w x.1, x.2.1, x.2.2⟩) ++ [⟨kn.hash w, ko, vo⟩]
  keys : ∀ x ∈ xs, keyIs x.1 x.2.1 = true
  nd : (xs.map (·.1)).Nodup
  sz : xs.length < sizeLine
abbrev KX (ks : List (Key × V)) (xs : List (Key × Value × Value)) : Prop := Paired (fun (p : Key × V) (q : Key × Value × Value) => p.1 = q.1 ∧ RelV p.2 q.2.2) ks xs
mutual
/-- v is the datum d, by the part R of the heap that never changes -/
inductive Rp (K : Frg) (R : Hp) : V → PyData → Prop
  | non : Rp K R .non .none
  | bl (b : Bool) : Rp K R (.bl b) (.bool b)
  | int (i : Int) : Rp K R (.int i) (.int i)
  | str (x : Str) : x.length ≤ sizeLine → Rp K R (.str x) (.str x)
  | lst {a : Addr} {xs : List V} {ds : List PyData} : R a = some (.lst xs) → RpL K R xs ds → Rp K R (.ref a) (.list ds)
  | tup {a : Addr} {xs : List V} {ds : List PyData} : R a = some (.tup xs) ∨ KT K a xs → RpL K R xs ds → Rp K R (.ref a) (.tuple ds)
  | dic {a : Addr} {o : Obj} {ks : List (Key × V)} {ds : List (PyData × PyData)} : R a = some (.frz o (.dK ks)) → RpD K R ks ds → Rp K R (.ref a) (.dict ds)
  | dicX {a : Addr} {o : Obj} {xs : List (Key × Value × Value)} {ks : List (Key × V)} {kn : NestedKey} {ko vo : Value} {vk vv : V} {ds l : List (PyData × PyData)} {kd vd : PyData} :
    R a = some (.frz o (.ext fun _ => True)) → (a == sysModules) = false → XD K.w o xs kn ko vo → KX ks xs → RpD K R ks ds → oddN kd = some kn → Rp K R vk kd → RelV vk ko → Rp K R vv vd → RelV vv vo → l = ds ++ [(kd, vd)] → Rp K R (.ref a) (.dict l)
inductive RpL (K : Frg) (R : Hp) : List V → List PyData → Prop
  | nil : RpL K R [] []
  | cons {v : V} {vs : List V} {d : PyData} {ds : List PyData} : Rp K R v d → RpL K R vs ds → RpL K R (v :: vs) (d :: ds)
inductive RpD (K : Frg) (R : Hp) : List (Key × V) → List (PyData × PyData) → Prop
  | nil : RpD K R [] []
  | cons {k : Key} {v : V} {ks : List (Key × V)} {d : PyData} {ds : List (PyData × PyData)} : keyFit k → Rp K R v d → RpD K R ks ds → RpD K R ((k, v) :: ks) ((kD k, d) :: ds)
end
def Le (R R' : Hp) : Prop := ∀ a u, R a = some u → R' a = some u
theorem Le.refl (R : Hp) : Le R R := fun _ _ e => e
theorem Le.trans {R R1 R2 : Hp} (h : Le R R1) (h' : Le R1 R2) : Le R R2 := fun a u e => h' a u (h a u e)
theorem Le.upd {R : Hp} {a : Addr} {u : HO} (h : R a = none) : Le R (upd R a u) := fun b w e => by
  rw [upd_ne (fun z => by rw [z, h] at e; cases e)]
  exact e
section
variable {K : Frg} {R R' : Hp}
mutual
theorem Rp.mono (l : Le R R') : ∀ {v : V} {d : PyData}, Rp K R v d → Rp K R' v d
  | _, _, .non => .non
  | _, _, .bl b => .bl b
  | _, _, .int i => .int i
  | _, _, .str x h => .str x h
  | _, _, .lst h q => .lst (l _ _ h) (RpL.mono l q)
  | _, _, .tup h q => .tup (h.imp (l _ _) id) (RpL.mono l q)
  | _, _, .dic h q => .dic (l _ _ h) (RpD.mono l q)
  | _, _, .dicX h n x k q o p1 r1 p2 r2 e => .dicX (l _ _ h) n x k (RpD.mono l q) o (Rp.mono l p1) r1 (Rp.mono l p2) r2 e
theorem RpL.mono (l : Le R R') : ∀ {vs : List V} {ds : List PyData}, RpL K R vs ds → RpL K R' vs ds
  | _, _, .nil => .nil
  | _, _, .cons h q => .cons (Rp.mono l h) (RpL.mono l q)
theorem RpD.mono (l : Le R R') : ∀ {ks : List (Key × V)} {ds : List (PyData × PyData)}, RpD K R ks ds → RpD K R' ks ds
  | _, _, .nil => .nil
  | _, _, .cons f h q => .cons f (Rp.mono l h) (RpD.mono l q)
end
theorem RpL.len : ∀ {vs : List V} {ds : List PyData}, RpL K R vs ds → vs.length = ds.length
  | _, _, .nil => rfl
  | _, _, .cons _ q => congrArg Nat.succ q.len
theorem RpD.len : ∀ {ks : List (Key × V)} {ds : List (PyData × PyData)}, RpD K R ks ds → ks.length = ds.length
  | _, _, .nil => rfl
  | _, _, .cons _ _ q => congrArg Nat.succ q.len
theorem RpL.at : ∀ {vs : List V} {ds : List PyData} {i : Nat} {v : V}, RpL K R vs ds → vs[i]? = some v → ∃ d, ds[i]? = some d ∧ Rp K R v d
  | _, _, _, _, .nil, e => by simp at e
  | _, _, 0, _, .cons h _, e => by simp at e; subst e; exact ⟨_, rfl, h⟩
  | _, _, i + 1, _, .cons _ q, e => by
    obtain ⟨d, h1, h2⟩ := q.at (i := i) (by simpa using e)
    exact ⟨d, by simpa using h1, h2⟩
theorem RpL.atD : ∀ {vs : List V} {ds : List PyData} {i : Nat} {d : PyData}, RpL K R vs ds → ds[i]? = some d → ∃ v, vs[i]? = some v ∧ Rp K R v d
  | _, _, _, _, .nil, e => by simp at e
  | _, _, 0, _, .cons h _, e => by simp at e; subst e; exact ⟨_, rfl, h⟩
  | _, _, i + 1, _, .cons _ q, e => by
    obtain ⟨d, h1, h2⟩ := q.atD (i := i) (by simpa using e)
    exact ⟨d, by simpa using h1, h2⟩
theorem RpL.app : ∀ {vs ws : List V} {ds es : List PyData}, RpL K R vs ds → RpL K R ws es → RpL K R (vs ++ ws) (ds ++ es)
  | _, _, _, _, .nil, q => q
  | _, _, _, _, .cons h q, q' => .cons h (q.app q')
theorem RpL.one {v : V} {d : PyData} (h : Rp K R v d) : RpL K R [v] [d] := .cons h .nil
theorem RpL.take : ∀ {vs : List V} {ds : List PyData} (n : Nat), RpL K R vs ds → RpL K R (vs.take n) (ds.take n)
  | _, _, 0, _ => .nil
  | _, _, _ + 1, .nil => .nil
  | _, _, n + 1, .cons h q => .cons h (q.take n)
theorem RpL.drop : ∀ {vs : List V} {ds : List PyData} (n : Nat), RpL K R vs ds → RpL K R (vs.drop n) (ds.drop n)
  | _, _, 0, q => q
  | _, _, _ + 1, .nil => .nil
  | _, _, n + 1, .cons _ q => q.drop n
theorem RpL.set {v : V} {d : PyData} (h : Rp K R v d) : ∀ {vs : List V} {ds : List PyData} (n : Nat), RpL K R vs ds → RpL K R (vs.set n v) (ds.set n d)
  | _, _, _, .nil => .nil
  | _, _, 0, .cons _ q => .cons h q
  | _, _, n + 1, .cons h' q => .cons h' (q.set h n)
theorem RpL.rev : ∀ {vs : List V} {ds : List PyData}, RpL K R vs ds → RpL K R vs.reverse ds.reverse
  | _, _, .nil => .nil
  | _, _, .cons h q => by
    rw [List.reverse_cons, List.reverse_cons]
    exact q.rev.app (.one h)
theorem RpL.erase : ∀ {vs : List V} {ds : List PyData} (n : Nat), RpL K R vs ds → RpL K R (vs.eraseIdx n) (ds.eraseIdx n)
  | _, _, _, .nil => .nil
  | _, _, 0, .cons _ q => q
  | _, _, n + 1, .cons h q => .cons h (q.erase n)
end
/-- R stands in H (the script's own list is locked there) -/
def Sb (R H : Hp) : Prop := ∀ a u, R a = some u → H a = some u ∨ ∃ o xs, u = .lst xs ∧ H a = some (.frz o (.lst xs))
theorem Sb.lst {R H : Hp} (s : Sb R H) {a : Addr} {xs : List V} (h : R a = some (.lst xs)) : Rd H a (.lst xs) := by
  rcases s a _ h with q | ⟨o, ys, e, q⟩
  · exact .inl q
  · cases e
    exact .inr ⟨o, q⟩
theorem Sb.tup {R H : Hp} (s : Sb R H) {a : Addr} {xs : List V} (h : R a = some (.tup xs)) : H a = some (.tup xs) := by
  rcases s a _ h with q | ⟨o, ys, e, q⟩
  · exact q
  · cases e
theorem Sb.frz {R H : Hp} (s : Sb R H) {a : Addr} {o : Obj} {u : HO} (h : R a = some (.frz o u)) : H a = some (.frz o u) := by
  rcases s a _ h with q | ⟨o, ys, e, q⟩
  · exact q
  · cases e
/-- v is d here and now: by what never changes, or an object that this def alone changes -/
inductive Wp (K : Frg) (R H : Hp) : V → PyData → Prop
  | rp {v : V} {d : PyData} : Rp K R v d → Wp K R H v d
  | own {a : Addr} {xs : List V} {ds : List PyData} : H a = some (.lst xs) → RpL K R xs ds → Wp K R H (.ref a) (.list ds)
  | ownD {a : Addr} {ks : List (Key × V)} {ds : List (PyData × PyData)} : H a = some (.dK ks) → RpD K R ks ds → Wp K R H (.ref a) (.dict ds)
section
variable {X : Cx} {pins : List (Addr × Obj)} {σ : L2.St} {R H : Hp} {s : Shared}
theorem Wp.list (sb : Sb R H) {v : V} {ds : List PyData} (h : Wp X.F R H v (.list ds)) : ∃ a xs, v = .ref a ∧ Rd H a (.lst xs) ∧ RpL X.F R xs ds := by
  cases h with
  | rp h =>
    cases h with
    | lst h q => exact ⟨_, _, rfl, sb.lst h, q⟩
  | own h q => exact ⟨_, _, rfl, .inl h, q⟩
theorem Rp.tuple (sb : Sb R H) {v : V} {ds : List PyData} (h : Rp X.F R v (.tuple ds)) : ∃ a xs, v = .ref a ∧ SqT X.F H a xs ∧ RpL X.F R xs ds := by
  cases h with
  | tup h q =>
    refine ⟨_, _, rfl, ?_, q⟩
    rcases h with h | h
    · exact .inl (.inl (sb.tup h))
    · exact .inr h
theorem Wp.tuple (sb : Sb R H) {v : V} {ds : List PyData} (h : Wp X.F R H v (.tuple ds)) : ∃ a xs, v = .ref a ∧ SqT X.F H a xs ∧ RpL X.F R xs ds := by
  cases h with
  | rp h => exact h.tuple sb
theorem RpD.plain {K : Frg} {R : Hp} : ∀ {ks : List (Key × V)} {ds : List (PyData × PyData)}, RpD K R ks ds → plainKeys ds = true
  | _, _, .nil => rfl
  | _, _, .cons (k := k) _ _ q => by
    unfold plainKeys
    rw [List.all_cons, Bool.and_eq_true]
    exact ⟨by cases k <;> rfl, q.plain⟩
theorem oddN_key {d : PyData} {k : NestedKey} (h : oddN d = some k) : isKey d = false := by
  cases d <;> first | rfl | cases h
theorem not_plainX {l ds : List (PyData × PyData)} {kd vd : PyData} {kn : NestedKey} (o : oddN kd = some kn) (e : l = ds ++ [(kd, vd)]) : plainKeys l = false := by
  subst e
  unfold plainKeys
  rw [List.all_append]
  simp [oddN_key o]
theorem Wp.dict (sb : Sb R H) {v : V} {ds : List (PyData × PyData)} (h : Wp X.F R H v (.dict ds)) (pk : plainKeys ds = true) : ∃ a ks, v = .ref a ∧ Rd H a (.dK ks) ∧ RpD X.F R ks ds := by
  cases h with
  | rp h =>
    cases h with
    | dic h q => exact ⟨_, _, rfl, .inr ⟨_, sb.frz h⟩, q⟩
    | dicX _ _ _ _ _ o _ _ _ _ e => rw [not_plainX o e] at pk; cases pk
  | ownD h q => exact ⟨_, _, rfl, .inl h, q⟩
theorem pairs_split {P : Program} {w : World} : ∀ {es : List DictEntry} {ks : List (Key × V)} {vs : List (Key × Value)}, KV ks vs → Pairs (mixKind P w) es vs →
    Vals (ks.map fun q => kV q.1) (es.map (·.key)) ∧ Vals (ks.map (·.2)) (es.map (·.val))
  | _, _, _, .nil, .nil => ⟨.nil, .nil⟩
  | _, _, _, @Paired.cons _ _ _ (k, x) (k', u) _ _ c t, @Pairs.cons _ _ _ _ _ en _ _ _ h1 h2 p => by
    obtain ⟨a, b⟩ := pairs_split t p
    obtain ⟨e, r⟩ : k = k' ∧ RelV x u := c
    have e2 : en.val = u := h2
    subst e
    refine ⟨.cons ?_ a, .cons (by show RelV x en.val; rw [e2]; exact r) b⟩
    show RelV (kV k) en.key
    rcases keyIs_shape (show keyIs k en.key = true from h1) with ⟨i, t, e1, e2⟩ | ⟨x, t, e1, e2⟩
    · rw [e1, e2]; exact ⟨t, rfl⟩
    · rw [e1, e2]; exact ⟨t, rfl⟩
/-- the entries of a dict -/
theorem Inv.entries (I : Inv X pins σ H s) {a : Addr} {ks : List (Key × V)} (h : Rd H a (.dK ks)) :
    ∃ o es ep, s.heap.get? a = some o ∧ o.ExactDict ∧ o.data = .dict es ep ∧ Vals (ks.map fun q => kV q.1) (es.toList.map (·.key)) ∧ Vals (ks.map (·.2)) (es.toList.map (·.val)) := by
  obtain ⟨_, _, vs, r, o, es, ep, h1, h2, h3, _, h5, _⟩ := dk_rd I.hok h
  obtain ⟨p, q⟩ := pairs_split r h5
  exact ⟨o, es, ep, h1, h2, h3, p, q⟩
theorem RpD.keys {K : Frg} : ∀ {ks : List (Key × V)} {ds : List (PyData × PyData)}, RpD K R ks ds → RpL K R (ks.map fun q => kV q.1) (ds.map (·.1))
  | _, _, .nil => .nil
  | _, _, .cons (k := k) f _ q => by
    refine .cons ?_ q.keys
    cases k with
    | inl i => exact .int i
    | inr x => exact .str x f
theorem RpD.vals {K : Frg} : ∀ {ks : List (Key × V)} {ds : List (PyData × PyData)}, RpD K R ks ds → RpL K R (ks.map (·.2)) (ds.map (·.2))
  | _, _, .nil => .nil
  | _, _, .cons _ h q => .cons h q.vals
theorem Inv.rdl (I : Inv X pins σ H s) {a : Addr} {xs : List V} (h : Rd H a (.lst xs)) : ∃ its : List Value, Vals xs its ∧ PlainL s.heap a its.toArray ∧ xs.length ≤ sizeLine := I.list (.inl h)
theorem keys_read {K : Frg} {R : Hp} {h : Heap} : ∀ {ds : List (PyData × PyData)} {ks : List (Key × V)} {us : List Value}, RpD K R ks ds → Vals (ks.map fun q => kV q.1) us → ∃ as, ReadsAll h us (ds.map (·.1)) as ∧ as = []
  | [], _, _, q, r => by cases q; cases r; exact ⟨_, .nil, rfl⟩
  | (k, d) :: ds, _, _, q, r => by
    cases q with
    | cons f p q =>
      rename_i k ks v
      cases r with
      | cons r1 r2 =>
        obtain ⟨as, h1, h2⟩ := keys_read (h := h) q r2
        subst h2
        cases k with
        | inl i =>
          obtain ⟨t, rfl⟩ := r1
          exact ⟨_, .cons (.int i t) h1, rfl⟩
        | inr x =>
          obtain ⟨t, rfl⟩ := r1
          exact ⟨_, .cons (.str x t) h1, rfl⟩
theorem XD.split {w : World} {o : Obj} {xs : List (Key × Value × Value)} {kn : NestedKey} {ko vo : Value} (x : XD w o xs kn ko vo) :
    ∃ es ep, o.data = .dict es ep ∧ es.toList.map (·.key) = xs.map (·.2.1) ++ [ko] ∧ es.toList.map (·.val) = xs.map (·.2.2) ++ [vo] := by
  obtain ⟨es, ep, e1, e2⟩ := x.dat
  exact ⟨es, ep, e1, by rw [e2]; simp [Function.comp_def], by rw [e2]; simp [Function.comp_def]⟩
theorem KX.vals {ks : List (Key × V)} {xs : List (Key × Value × Value)} (h : KX ks xs) : Vals (ks.map (·.2)) (xs.map (·.2.2)) := by
  induction h with
  | nil => exact .nil
  | cons h _ ih => exact .cons h.2 ih
theorem KX.keys {ks : List (Key × V)} {xs : List (Key × Value × Value)} (h : KX ks xs) (hk : ∀ x ∈ xs, keyIs x.1 x.2.1 = true) : Vals (ks.map fun q => kV q.1) (xs.map (·.2.1)) := by
  induction h with
  | nil => exact .nil
  | @cons a b _ _ h _ ih =>
    refine .cons ?_ (ih fun x hx => hk x (List.mem_cons_of_mem _ hx))
    have h1 := hk b List.mem_cons_self
    rw [← h.1] at h1
    rcases keyIs_shape h1 with ⟨i, t, e1, e2⟩ | ⟨x, t, e1, e2⟩
    · show RelV (kV a.1) b.2.1
      rw [e1, e2]; exact ⟨t, rfl⟩
    · show RelV (kV a.1) b.2.1
      rw [e1, e2]; exact ⟨t, rfl⟩
theorem readsAll_app {h : Heap} : ∀ {us : List Value} {ds : List PyData} {as : List Addr} {u : Value} {d : PyData} {bs : List Addr}, ReadsAll h us ds as → Reads h u d bs → ReadsAll h (us ++ [u]) (ds ++ [d]) (as ++ bs)
  | _, _, _, _, _, _, .nil, r => by
    have z := ReadsAll.cons r .nil
    rw [List.append_nil] at z
    simpa using z
  | _, _, _, _, _, _, .cons h t, r => by
    have z := ReadsAll.cons h (readsAll_app t r)
    rw [← List.append_assoc] at z
    exact z
mutual
theorem Rp.reads (I : Inv X pins σ H s) (sb : Sb R H) : ∀ {d : PyData} {v : V}, Rp X.F R v d → ∀ (u : Value), RelV v u → ∃ as, Reads s.heap u d as ∧ ∀ a ∈ as, H a ≠ none
  | _, _, .non, _, r => by cases r; exact ⟨_, .none, fun _ z => nomatch z⟩
  | _, _, .bl b, _, r => by cases r; exact ⟨_, .bool b, fun _ z => nomatch z⟩
  | _, _, .int i, _, r => by obtain ⟨t, rfl⟩ := r; exact ⟨_, .int i t, fun _ z => nomatch z⟩
  | _, _, .str x _, _, r => by obtain ⟨t, rfl⟩ := r; exact ⟨_, .str x t, fun _ z => nomatch z⟩
  | _, _, .lst h q, _, r => by
    cases r
    have hd := sb.lst h
    obtain ⟨its, rv, ⟨o, n, ho, hc, _, hd'⟩, _⟩ := Inv.rdl I hd
    obtain ⟨as, hr, ha⟩ := RpL.reads I sb q its rv
    refine ⟨_, .list ho hc hd' (by simpa using hr), fun b hb => ?_⟩
    rcases List.mem_cons.mp hb with e | hb
    · subst e
      rcases hd with z | ⟨_, z⟩ <;> rw [z] <;> simp
    · exact ha b hb
  | _, _, .tup (a := a) (xs := xs) ht q, _, r => by
    cases r
    have ht : SqT X.F H a xs := by
      rcases ht with h | h
      · exact .inl (.inl (sb.tup h))
      · exact .inr h
    obtain ⟨its, rv, ⟨o, ho, hc, n, hd⟩, _⟩ := I.tuple ht
    obtain ⟨as, hr, ha⟩ := RpL.reads I sb q its rv
    exact ⟨_, .tuple ho hc hd (by simpa using hr), ha⟩
  | _, _, .dic h q, _, r => by
    cases r
    have hf := sb.frz h
    obtain ⟨o, es, ep, h1, h2, h3, r1, r2⟩ := Inv.entries I (.inr ⟨_, hf⟩)
    obtain ⟨bs, hr2, hb2⟩ := RpD.reads I sb q _ r2
    obtain ⟨as, hr1⟩ := keys_read (h := s.heap) q r1
    refine ⟨_, .dict h1 h2.1 h3 hr1.1 hr2, fun b hb => ?_⟩
    rcases List.mem_append.mp hb with hb | hb
    · rcases List.mem_cons.mp hb with e | hb
      · subst e
        rw [hf]
        simp
      · rw [hr1.2] at hb
        cases hb
    · exact hb2 b hb
  | _, _, .dicX h n x k q o p1 r1 p2 r2 e, _, r => by
    cases r
    have hf := sb.frz h
    obtain ⟨h1, _⟩ := I.hok _ _ hf
    obtain ⟨es, ep, e1, e2, e3⟩ := x.split
    obtain ⟨bs, hr2, hb2⟩ := RpD.reads I sb q _ k.vals
    obtain ⟨as, hr1⟩ := keys_read (h := s.heap) q (k.keys x.keys)
    obtain ⟨cs, hr3, hb3⟩ := Rp.reads I sb p1 _ r1
    obtain ⟨fs, hr4, hb4⟩ := Rp.reads I sb p2 _ r2
    have K1 := readsAll_app hr1.1 hr3
    have K2 := readsAll_app hr2 hr4
    rw [← e2] at K1
    rw [← e3] at K2
    subst e
    refine ⟨_, .dict h1 x.ex.1 e1 (by simpa using K1) (by simpa using K2), fun b hb => ?_⟩
    rcases List.mem_append.mp hb with hb | hb
    · rcases List.mem_cons.mp hb with e | hb
      · subst e
        rw [hf]
        simp
      · rcases List.mem_append.mp hb with hb | hb
        · rw [hr1.2] at hb
          cases hb
        · exact hb3 b hb
    · rcases List.mem_append.mp hb with hb | hb
      · exact hb2 b hb
      · exact hb4 b hb
theorem RpL.reads (I : Inv X pins σ H s) (sb : Sb R H) : ∀ {ds : List PyData} {vs : List V}, RpL X.F R vs ds → ∀ (us : List Value), Vals vs us → ∃ as, ReadsAll s.heap us ds as ∧ ∀ a ∈ as, H a ≠ none
  | _, _, .nil, _, r => by cases r; exact ⟨_, .nil, fun _ z => nomatch z⟩
  | _, _, .cons h q, _, r => by
    cases r with
    | cons r1 r2 =>
      obtain ⟨as, h1, a1⟩ := Rp.reads I sb h _ r1
      obtain ⟨bs, h2, a2⟩ := RpL.reads I sb q _ r2
      exact ⟨_, .cons h1 h2, fun a ha => (List.mem_append.mp ha).elim (a1 a) (a2 a)⟩
theorem RpD.reads (I : Inv X pins σ H s) (sb : Sb R H) : ∀ {ds : List (PyData × PyData)} {ks : List (Key × V)}, RpD X.F R ks ds → ∀ (us : List Value), Vals (ks.map (·.2)) us → ∃ as, ReadsAll s.heap us (ds.map (·.2)) as ∧ ∀ a ∈ as, H a ≠ none
  | _, _, .nil, _, r => by cases r; exact ⟨_, .nil, fun _ z => nomatch z⟩
  | _, _, .cons f h q, _, r => by
    cases r with
    | cons r1 r2 =>
      obtain ⟨as, h1, a1⟩ := Rp.reads I sb h _ r1
      obtain ⟨bs, h2, a2⟩ := RpD.reads I sb q _ r2
      exact ⟨_, .cons h1 h2, fun a ha => (List.mem_append.mp ha).elim (a1 a) (a2 a)⟩
end
theorem Wp.reads (I : Inv X pins σ H s) (sb : Sb R H) {d : PyData} {v : V} {u : Value} (h : Wp X.F R H v d) (r : RelV v u) : ∃ as, Reads s.heap u d as ∧ ∀ a ∈ as, H a ≠ none := by
  cases h with
  | rp h => exact h.reads I sb _ r
  | own h q =>
    cases r
    obtain ⟨its, rv, ⟨o, n, ho, hc, _, hd'⟩, _⟩ := Inv.rdl I (.inl h)
    obtain ⟨as, hr, ha⟩ := RpL.reads I sb q its rv
    refine ⟨_, .list ho hc hd' (by simpa using hr), fun b hb => ?_⟩
    rcases List.mem_cons.mp hb with e | hb
    · subst e
      rw [h]
      simp
    · exact ha b hb
  | ownD h q =>
    cases r
    obtain ⟨o, es, ep, h1, h2, h3, r1, r2⟩ := Inv.entries I (.inl h)
    obtain ⟨bs, hr2, hb2⟩ := RpD.reads I sb q _ r2
    obtain ⟨as, hr1⟩ := keys_read (h := s.heap) q r1
    refine ⟨_, .dict h1 h2.1 h3 hr1.1 hr2, fun b hb => ?_⟩
    rcases List.mem_append.mp hb with hb | hb
    · rcases List.mem_cons.mp hb with e | hb
      · subst e
        rw [h]
        simp
      · rw [hr1.2] at hb
        cases hb
    · exact hb2 b hb
end
end DL
set_option Elab.async false
set_option linter.all false
set_option maxRecDepth 100000
set_option maxHeartbeats 1000000
/-! DL, part d: the state of a def's run. -/
namespace DL
open PySem PySem.Spec PyProof.Rows L2
def SlotOk (K : Frg) (H0 : Hp) (G : List Addr) (R H : Hp) (s : Slot) (x : Option (Option V)) : Prop :=
  match s with
  | .no => True
  | .val d => ∃ v, x = some (some v) ∧ Rp K R v d
  | .own r l => ∃ a xs, x = some (some (.ref a)) ∧ H a = some (.lst xs) ∧ RpL K R xs l ∧ R a = none ∧ (if r = true then a ∈ G else H0 a = none)
  | .exc c d => ∃ a dx v, x = some (some (.ref a)) ∧ R a = some (ExD (K.cl c) dx a) ∧ R dx = some (.xd [(("value" : Str), v)]) ∧ Rp K R v d
  | .ownD r l => ∃ a ks, x = some (some (.ref a)) ∧ H a = some (.dK ks) ∧ RpD K R ks l ∧ R a = none ∧ (if r = true then a ∈ G else H0 a = none)
/-- R0, H0: at the def's entry; G: the objects that it was handed to be changed -/
structure Stt (K : Frg) (R0 H0 : Hp) (G : List Addr) (ρ : DEnv) (σ : L2.St) (R H : Hp) : Prop where
  sub : Sb R H
  old : Le R0 R
  new : ∀ a, R a ≠ none → R0 a ≠ none ∨ H0 a = none
  keep : ∀ b o, H0 b = some o → b ∉ G → H b = some o
  g0 : ∀ a ∈ G, H0 a ≠ none
  gH : ∀ a ∈ G, H a ≠ none ∧ R a = none
  len : ρ.length = σ.length
  sl : ∀ (i : Nat) (s : Slot), ρ[i]? = some s → SlotOk K H0 G R H s σ[i]?
  ap : ∀ (i j : Nat) (s s' : Slot) (a : Addr), ρ[i]? = some s → ρ[j]? = some s' → s.isOwn = true → s'.isOwn = true → σ[i]? = some (some (.ref a)) → σ[j]? = some (some (.ref a)) → i = j
/-- a stands outside: not frozen, no name's own, not there at the entry -/
structure Fresh (ρ : DEnv) (σ : L2.St) (R H0 : Hp) (a : Addr) : Prop where
  r : R a = none
  h : H0 a = none
  n : ∀ (i : Nat) (s : Slot), ρ[i]? = some s → s.isOwn = true → σ[i]? ≠ some (some (.ref a))
section
variable {K : Frg} {R0 H0 R R' H H' : Hp} {G : List Addr} {ρ : DEnv} {σ : L2.St}
theorem SlotOk.mono {s : Slot} {x : Option (Option V)} (h : SlotOk K H0 G R H s x) (l : Le R R') (hH : ∀ a, s.isOwn = true → x = some (some (.ref a)) → H' a = H a ∧ R' a = none) : SlotOk K H0 G R' H' s x := by
  cases s with
  | no => trivial
  | val d =>
    obtain ⟨v, e, q⟩ := h
    exact ⟨v, e, q.mono l⟩
  | own r m =>
    obtain ⟨a, xs, e, h1, h2, h3, h4⟩ := h
    obtain ⟨e1, e2⟩ := hH a rfl e
    exact ⟨a, xs, e, by rw [e1]; exact h1, h2.mono l, e2, h4⟩
  | ownD r m =>
    obtain ⟨a, xs, e, h1, h2, h3, h4⟩ := h
    obtain ⟨e1, e2⟩ := hH a rfl e
    exact ⟨a, xs, e, by rw [e1]; exact h1, h2.mono l, e2, h4⟩
  | exc c d =>
    obtain ⟨a, dx, v, e, h1, h2, h3⟩ := h
    exact ⟨a, dx, v, e, l _ _ h1, l _ _ h2, h3.mono l⟩
theorem Stt.h0 (S : Stt K R0 H0 G ρ σ R H) {a : Addr} (h : H a = none) : H0 a = none := by
  cases e : H0 a with
  | none => rfl
  | some o =>
    by_cases g : a ∈ G
    · exact absurd h (S.gH a g).1
    · rw [S.keep a o e g] at h
      cases h
theorem Stt.r0 (S : Stt K R0 H0 G ρ σ R H) {a : Addr} (h : H a = none) : R a = none := by
  cases e : R a with
  | none => rfl
  | some u =>
    rcases S.sub a u e with q | ⟨_, _, _, q⟩ <;> rw [h] at q <;> cases q
theorem SlotOk.ref {s : Slot} {x : Option (Option V)} (h : SlotOk K H0 G R H s x) (o : s.isOwn = true) : ∃ a, x = some (some (.ref a)) ∧ H a ≠ none ∧ R a = none := by
  cases s with
  | no => cases o
  | val d => cases o
  | exc c d => cases o
  | own r m =>
    obtain ⟨a, xs, e, h1, _, h3, _⟩ := h
    exact ⟨a, e, by rw [h1]; simp, h3⟩
  | ownD r m =>
    obtain ⟨a, xs, e, h1, _, h3, _⟩ := h
    exact ⟨a, e, by rw [h1]; simp, h3⟩
theorem Stt.ownAt (S : Stt K R0 H0 G ρ σ R H) {i : Nat} {s : Slot} {a : Addr} (e : ρ[i]? = some s) (o : s.isOwn = true) (x : σ[i]? = some (some (.ref a))) : H a ≠ none ∧ R a = none := by
  obtain ⟨b, e1, e2, e3⟩ := (S.sl i s e).ref o
  rw [x] at e1
  cases e1
  exact ⟨e2, e3⟩
/-- something new is laid -/
theorem Stt.fresh (S : Stt K R0 H0 G ρ σ R H) {p : Addr} (hp : H p = none) : Fresh ρ σ R H0 p := by
  refine ⟨S.r0 hp, S.h0 hp, fun i s e o x => ?_⟩
  exact (S.ownAt e o x).1 hp
theorem Stt.alloc (S : Stt K R0 H0 G ρ σ R H) {p : Addr} {u : HO} (hp : H p = none) : Stt K R0 H0 G ρ σ R (upd H p u) := by
  have ne : ∀ b o, H b = some o → b ≠ p := fun b o e => ne_of_none e hp
  refine ⟨fun a w e => ?_, S.old, S.new, fun b o e g => ?_, S.g0, fun a g => ?_, S.len, fun i s e => ?_, S.ap⟩
  · rcases S.sub a w e with q | ⟨o, xs, q1, q⟩
    · exact .inl (by rw [upd_ne (ne a _ q)]; exact q)
    · exact .inr ⟨o, xs, q1, by rw [upd_ne (ne a _ q)]; exact q⟩
  · have q := S.keep b o e g
    rw [upd_ne (ne b o q)]
    exact q
  · obtain ⟨h1, h2⟩ := S.gH a g
    refine ⟨?_, h2⟩
    rw [upd_ne (fun z => h1 (by rw [z]; exact hp))]
    exact h1
  · refine (S.sl i s e).mono (Le.refl R) fun a o x => ?_
    obtain ⟨h1, h2⟩ := S.ownAt e o x
    exact ⟨upd_ne fun z => h1 (by rw [z]; exact hp), h2⟩
/-- what stands outside is changed -/
theorem Stt.outer (S : Stt K R0 H0 G ρ σ R H) {p : Addr} {u : HO} (hp : Fresh ρ σ R H0 p) : Stt K R0 H0 G ρ σ R (upd H p u) := by
  refine ⟨fun a w e => ?_, S.old, S.new, fun b o e g => ?_, S.g0, fun a g => ?_, S.len, fun i s e => ?_, S.ap⟩
  · have n : a ≠ p := fun z => by rw [z, hp.r] at e; cases e
    rw [upd_ne n]
    exact S.sub a w e
  · rw [upd_ne (ne_of_none e hp.h)]
    exact S.keep b o e g
  · obtain ⟨h1, h2⟩ := S.gH a g
    have n : a ≠ p := fun z => S.g0 a g (by rw [z]; exact hp.h)
    rw [upd_ne n]
    exact ⟨h1, h2⟩
  · refine (S.sl i s e).mono (Le.refl R) fun a o x => ?_
    obtain ⟨h1, h2⟩ := S.ownAt e o x
    exact ⟨upd_ne fun z => hp.n i s e o (by rw [← z]; exact x), h2⟩
/-- what stands outside is frozen as it is -/
theorem Stt.freeze (S : Stt K R0 H0 G ρ σ R H) {p : Addr} {u : HO} (hp : Fresh ρ σ R H0 p) (e : H p = some u) : Stt K R0 H0 G ρ σ (upd R p u) H ∧ Le R (upd R p u) := by
  have l : Le R (upd R p u) := Le.upd hp.r
  refine ⟨⟨fun a w q => ?_, S.old.trans l, fun a q => ?_, S.keep, S.g0, fun a g => ?_, S.len, fun i s q => ?_, S.ap⟩, l⟩
  · by_cases n : a = p
    · rw [n, upd_same] at q
      cases q
      rw [n]
      exact .inl e
    · rw [upd_ne n] at q
      exact S.sub a w q
  · by_cases n : a = p
    · rw [n]
      exact .inr hp.h
    · rw [upd_ne n] at q
      exact S.new a q
  · have n : a ≠ p := fun z => S.g0 a g (by rw [z]; exact hp.h)
    rw [upd_ne n]
    exact S.gH a g
  · refine (S.sl i s q).mono l fun a o x => ⟨rfl, ?_⟩
    rw [upd_ne fun z => hp.n i s q o (by rw [← z]; exact x)]
    exact (S.ownAt q o x).2
/-- a new thing, frozen at once -/
theorem Stt.lay (S : Stt K R0 H0 G ρ σ R H) {p : Addr} {u : HO} (hp : H p = none) : Stt K R0 H0 G ρ σ (upd R p u) (upd H p u) ∧ Le R (upd R p u) :=
  (S.alloc hp).freeze (S.fresh hp) upd_same
theorem get_set {α : Type} {l : List α} {i j : Nat} {x y : α} (h : (l.set i x)[j]? = some y) : (j = i ∧ y = x) ∨ (j ≠ i ∧ l[j]? = some y) := by
  by_cases e : i = j
  · subst e
    rw [List.getElem?_set] at h
    simp at h
    exact .inl ⟨rfl, h.2.symm⟩
  · rw [List.getElem?_set_ne e] at h
    exact .inr ⟨fun z => e z.symm, h⟩
theorem set_at {α : Type} {l : List α} {i : Nat} {x : α} (h : i < l.length) : (l.set i x)[i]? = some x := by simp [h]
theorem set_ne {α : Type} {l : List α} {i j : Nat} {x : α} (h : j ≠ i) : (l.set i x)[j]? = l[j]? := by rw [List.getElem?_set_ne (Ne.symm h)]
/-- a name gets a value -/
theorem Stt.setVal (S : Stt K R0 H0 G ρ σ R H) {i : Nat} {v : V} {d : PyData} (h : Rp K R v d) : Stt K R0 H0 G (ρ.set i (.val d)) (σ.set i (some v)) R H := by
  refine ⟨S.sub, S.old, S.new, S.keep, S.g0, S.gH, by simp [S.len], fun j s e => ?_, fun j k s s' a e e' o o' x x' => ?_⟩
  · have hl : i < ρ.length ∨ ¬ i < ρ.length := Nat.lt_or_ge i ρ.length |>.imp id Nat.not_lt.mpr
    rcases get_set e with ⟨rfl, rfl⟩ | ⟨n, e⟩
    · have hj : j < ρ.length := by
        have := (List.getElem?_eq_some_iff.mp e).1
        simpa using this
      exact ⟨v, set_at (by rw [← S.len]; exact hj), h⟩
    · rw [set_ne n]
      exact S.sl j s e
  · rcases get_set e with ⟨rfl, rfl⟩ | ⟨n, e⟩
    · cases o
    rcases get_set e' with ⟨rfl, rfl⟩ | ⟨n', e'⟩
    · cases o'
    rw [set_ne n] at x
    rw [set_ne n'] at x'
    exact S.ap j k s s' a e e' o o' x x'
/-- a name gets what stands outside, as its own -/
theorem Stt.setOwn (S : Stt K R0 H0 G ρ σ R H) {i : Nat} {p : Addr} {xs : List V} {l : List PyData} (hp : Fresh ρ σ R H0 p) (e : H p = some (.lst xs)) (h : RpL K R xs l) :
    Stt K R0 H0 G (ρ.set i (.own false l)) (σ.set i (some (.ref p))) R H := by
  refine ⟨S.sub, S.old, S.new, S.keep, S.g0, S.gH, by simp [S.len], fun j s q => ?_, fun j k s s' a q q' o o' x x' => ?_⟩
  · rcases get_set q with ⟨rfl, rfl⟩ | ⟨n, q⟩
    · have hj : j < ρ.length := by
        have := (List.getElem?_eq_some_iff.mp q).1
        simpa using this
      exact ⟨p, xs, set_at (by rw [← S.len]; exact hj), e, h, hp.r, hp.h⟩
    · rw [set_ne n]
      exact S.sl j s q
  · rcases get_set q with ⟨rfl, rfl⟩ | ⟨n, q⟩ <;> rcases get_set q' with ⟨rfl, rfl⟩ | ⟨n', q'⟩
    · rfl
    · rw [set_ne n'] at x'
      rw [set_at (by have := (List.getElem?_eq_some_iff.mp x).1; simpa using this)] at x
      cases x
      exact absurd x' (hp.n k s' q' o')
    · rw [set_ne n] at x
      rw [set_at (by have := (List.getElem?_eq_some_iff.mp x').1; simpa using this)] at x'
      cases x'
      rcases get_set q with ⟨z, _⟩ | ⟨_, q⟩
      · exact z
      · exact absurd x (hp.n j s q o)
    · rw [set_ne n] at x
      rw [set_ne n'] at x'
      exact S.ap j k s s' a q q' o o' x x'
theorem Stt.setOwnD (S : Stt K R0 H0 G ρ σ R H) {i : Nat} {p : Addr} {xs : List (Key × V)} {l : List (PyData × PyData)} (hp : Fresh ρ σ R H0 p) (e : H p = some (.dK xs)) (h : RpD K R xs l) :
    Stt K R0 H0 G (ρ.set i (.ownD false l)) (σ.set i (some (.ref p))) R H := by
  refine ⟨S.sub, S.old, S.new, S.keep, S.g0, S.gH, by simp [S.len], fun j s q => ?_, fun j k s s' a q q' o o' x x' => ?_⟩
  · rcases get_set q with ⟨rfl, rfl⟩ | ⟨n, q⟩
    · have hj : j < ρ.length := by
        have := (List.getElem?_eq_some_iff.mp q).1
        simpa using this
      exact ⟨p, xs, set_at (by rw [← S.len]; exact hj), e, h, hp.r, hp.h⟩
    · rw [set_ne n]
      exact S.sl j s q
  · rcases get_set q with ⟨rfl, rfl⟩ | ⟨n, q⟩ <;> rcases get_set q' with ⟨rfl, rfl⟩ | ⟨n', q'⟩
    · rfl
    · rw [set_ne n'] at x'
      rw [set_at (by have := (List.getElem?_eq_some_iff.mp x).1; simpa using this)] at x
      cases x
      exact absurd x' (hp.n k s' q' o')
    · rw [set_ne n] at x
      rw [set_at (by have := (List.getElem?_eq_some_iff.mp x').1; simpa using this)] at x'
      cases x'
      rcases get_set q with ⟨z, _⟩ | ⟨_, q⟩
      · exact z
      · exact absurd x (hp.n j s q o)
    · rw [set_ne n] at x
      rw [set_ne n'] at x'
      exact S.ap j k s s' a q q' o o' x x'
/-- a name forgets -/
theorem Stt.setNo (S : Stt K R0 H0 G ρ σ R H) {i : Nat} : Stt K R0 H0 G (ρ.set i .no) (σ.set i none) R H := by
  refine ⟨S.sub, S.old, S.new, S.keep, S.g0, S.gH, by simp [S.len], fun j s e => ?_, fun j k s s' a e e' o o' x x' => ?_⟩
  · rcases get_set e with ⟨rfl, rfl⟩ | ⟨n, e⟩
    · trivial
    · rw [set_ne n]
      exact S.sl j s e
  · rcases get_set e with ⟨rfl, rfl⟩ | ⟨n, e⟩
    · cases o
    rcases get_set e' with ⟨rfl, rfl⟩ | ⟨n', e'⟩
    · cases o'
    rw [set_ne n] at x
    rw [set_ne n'] at x'
    exact S.ap j k s s' a e e' o o' x x'
/-- the slots' meaning alone changes at i (the values stand) -/
theorem Stt.slot (S : Stt K R0 H0 G ρ σ R H) {R' H' : Hp} {i : Nat} {s0 s1 : Slot} {p : Addr} (e0 : ρ[i]? = some s0) (o0 : s0.isOwn = true) (x0 : σ[i]? = some (some (.ref p)))
    (l : Le R R') (hR : ∀ a, a ≠ p → R' a = R a) (hH : ∀ a, a ≠ p → H' a = H a) (sub : Sb R' H') (new : ∀ a, R' a ≠ none → R0 a ≠ none ∨ H0 a = none)
    (hp : H' p ≠ none) (keep : H0 p ≠ none → p ∈ G) (gp : p ∈ G → R' p = none) (ok : SlotOk K H0 G R' H' s1 (some (some (.ref p)))) : Stt K R0 H0 G (ρ.set i s1) σ R' H' := by
  have other : ∀ (j : Nat) (s : Slot) (a : Addr), j ≠ i → ρ[j]? = some s → s.isOwn = true → σ[j]? = some (some (.ref a)) → a ≠ p := fun j s a n e o x z => by
    subst z
    exact n (S.ap j i s s0 a e e0 o o0 x x0)
  refine ⟨sub, S.old.trans l, new, fun b o e g => ?_, S.g0, fun a g => ?_, by simp [S.len], fun j s e => ?_, fun j k s s' a e e' o o' x x' => ?_⟩
  · rw [hH b (fun z => g (by rw [z]; exact keep (by rw [← z, e]; simp)))]
    exact S.keep b o e g
  · by_cases z : a = p
    · rw [z]
      exact ⟨hp, gp (by rw [← z]; exact g)⟩
    · rw [hH a z, hR a z]
      exact S.gH a g
  · rcases get_set e with ⟨rfl, rfl⟩ | ⟨n, e⟩
    · rw [x0]
      exact ok
    · refine (S.sl j s e).mono l fun a o x => ?_
      have z := other j s a n e o x
      exact ⟨hH a z, by rw [hR a z]; exact (S.ownAt e o x).2⟩
  · by_cases n : j = i <;> by_cases n' : k = i
    · rw [n, n']
    · rcases get_set e' with ⟨z, _⟩ | ⟨_, e'⟩
      · exact absurd z n'
      · rw [n, x0] at x
        cases x
        exact absurd rfl (other k s' p n' e' o' x')
    · rcases get_set e with ⟨z, _⟩ | ⟨_, e⟩
      · exact absurd z n
      · rw [n', x0] at x'
        cases x'
        exact absurd rfl (other j s p n e o x)
    · rcases get_set e with ⟨z, _⟩ | ⟨_, e⟩
      · exact absurd z n
      rcases get_set e' with ⟨z, _⟩ | ⟨_, e'⟩
      · exact absurd z n'
      exact S.ap j k s s' a e e' o o' x x'
/-- an own list is changed -/
theorem Stt.putOwn (S : Stt K R0 H0 G ρ σ R H) {i : Nat} {r : Bool} {l l' : List PyData} (e : ρ[i]? = some (.own r l)) {xs' : List V} (h : RpL K R xs' l') :
    ∃ a xs, σ[i]? = some (some (.ref a)) ∧ H a = some (.lst xs) ∧ RpL K R xs l ∧ Stt K R0 H0 G (ρ.set i (.own r l')) σ R (upd H a (.lst xs')) := by
  obtain ⟨a, xs, x, h1, h2, h3, h4⟩ := S.sl i _ e
  refine ⟨a, xs, x, h1, h2, S.slot e rfl x (Le.refl R) (fun _ _ => rfl) (fun b n => upd_ne n) (fun b w q => ?_) S.new (by rw [upd_same]; simp) (fun q => ?_) (fun _ => h3) ⟨a, xs', rfl, upd_same, h, h3, h4⟩⟩
  · have n : b ≠ a := fun z => by rw [z, h3] at q; cases q
    rw [upd_ne n]
    exact S.sub b w q
  · cases r with
    | true => exact h4
    | false => exact absurd h4 q
theorem Stt.putOwnD (S : Stt K R0 H0 G ρ σ R H) {i : Nat} {r : Bool} {l l' : List (PyData × PyData)} (e : ρ[i]? = some (.ownD r l)) {xs' : List (Key × V)} (h : RpD K R xs' l') :
    ∃ a xs, σ[i]? = some (some (.ref a)) ∧ H a = some (.dK xs) ∧ RpD K R xs l ∧ Stt K R0 H0 G (ρ.set i (.ownD r l')) σ R (upd H a (.dK xs')) := by
  obtain ⟨a, xs, x, h1, h2, h3, h4⟩ := S.sl i _ e
  refine ⟨a, xs, x, h1, h2, S.slot e rfl x (Le.refl R) (fun _ _ => rfl) (fun b n => upd_ne n) (fun b w q => ?_) S.new (by rw [upd_same]; simp) (fun q => ?_) (fun _ => h3) ⟨a, xs', rfl, upd_same, h, h3, h4⟩⟩
  · have n : b ≠ a := fun z => by rw [z, h3] at q; cases q
    rw [upd_ne n]
    exact S.sub b w q
  · cases r with
    | true => exact h4
    | false => exact absurd h4 q
/-- an own list is frozen -/
theorem Stt.freezeOwn (S : Stt K R0 H0 G ρ σ R H) {i : Nat} {l : List PyData} (e : ρ[i]? = some (.own false l)) :
    ∃ a xs, σ[i]? = some (some (.ref a)) ∧ Stt K R0 H0 G (ρ.set i (.val (.list l))) σ (upd R a (.lst xs)) H ∧ Le R (upd R a (.lst xs)) ∧ Rp K (upd R a (.lst xs)) (.ref a) (.list l) := by
  obtain ⟨a, xs, x, h1, h2, h3, h4⟩ := S.sl i _ e
  have h4 : H0 a = none := h4
  have le : Le R (upd R a (.lst xs)) := Le.upd h3
  have rp : Rp K (upd R a (.lst xs)) (.ref a) (.list l) := .lst upd_same (h2.mono le)
  refine ⟨a, xs, x, S.slot e rfl x le (fun b n => upd_ne n) (fun _ _ => rfl) (fun b w q => ?_) (fun b q => ?_) (by rw [h1]; simp) (fun q => absurd h4 q) (fun g => absurd h4 (S.g0 a g)) ⟨_, rfl, rp⟩, le, rp⟩
  · by_cases n : b = a
    · rw [n, upd_same] at q
      cases q
      rw [n]
      exact .inl h1
    · rw [upd_ne n] at q
      exact S.sub b w q
  · by_cases n : b = a
    · rw [n]
      exact .inr h4
    · rw [upd_ne n] at q
      exact S.new b q
/-- an own dict is frozen: it is locked for good -/
theorem Stt.freezeOwnD (S : Stt K R0 H0 G ρ σ R H) {i : Nat} {l : List (PyData × PyData)} (e : ρ[i]? = some (.ownD false l)) :
    ∃ a xs, σ[i]? = some (some (.ref a)) ∧ H a = some (.dK xs) ∧ ∀ o, Stt K R0 H0 G (ρ.set i (.val (.dict l))) σ (upd R a (.frz o (.dK xs))) (upd H a (.frz o (.dK xs))) ∧ Le R (upd R a (.frz o (.dK xs))) ∧ Rp K (upd R a (.frz o (.dK xs))) (.ref a) (.dict l) := by
  obtain ⟨a, xs, x, h1, h2, h3, h4⟩ := S.sl i _ e
  have h4 : H0 a = none := h4
  refine ⟨a, xs, x, h1, fun o => ?_⟩
  have le : Le R (upd R a (.frz o (.dK xs))) := Le.upd h3
  have rp : Rp K (upd R a (.frz o (.dK xs))) (.ref a) (.dict l) := .dic upd_same (h2.mono le)
  refine ⟨S.slot e rfl x le (fun b n => upd_ne n) (fun b n => upd_ne n) (fun b w q => ?_) (fun b q => ?_) (by rw [upd_same]; simp) (fun q => absurd h4 q) (fun g => absurd h4 (S.g0 a g)) ⟨_, rfl, rp⟩, le, rp⟩
  · by_cases n : b = a
    · rw [n, upd_same] at q
      cases q
      rw [n, upd_same]
      exact .inl rfl
    · rw [upd_ne n] at q
      rw [upd_ne n]
      exact S.sub b w q
  · by_cases n : b = a
    · rw [n]
      exact .inr h4
    · rw [upd_ne n] at q
      exact S.new b q
end
end DL
set_option Elab.async false
set_option linter.all false
set_option maxRecDepth 100000
set_option maxHeartbeats 1000000
/-! DL, part e: readings by the evaluator; defs' promises; the context. -/
namespace DL
open PySem PySem.Spec PyProof.Rows L2
abbrev Cls := Str → Addr
/-- what a call leaves of what stood at its entry -/
structure Aft (R H : Hp) (G : List Addr) (R' H' : Hp) : Prop where
  sub : Sb R' H'
  le : Le R R'
  new : ∀ a, R' a ≠ none → R a ≠ none ∨ H a = none
  keep : ∀ b o, H b = some o → b ∉ G → H' b = some o
  g : ∀ a ∈ G, R' a = none
theorem Stt.aft {K : Frg} {R0 H0 R H : Hp} {G : List Addr} {ρ : DEnv} {σ : L2.St} (S : Stt K R0 H0 G ρ σ R H) : Aft R0 H0 G R H :=
  ⟨S.sub, S.old, S.new, S.keep, fun a g => (S.gH a g).2⟩
/-- an own error of the class c with the value d may leave -/
def Wsh (K : Frg) (cl : Cls) (R0 H0 : Hp) (G : List Addr) (W : XK) (c : Str) (d : PyData) : Prop :=
  ∀ v R' H' dx, Aft R0 H0 G R' H' → H0 dx = none → R' dx = none → H' dx = some (.xd [("value", v)]) → Rp K R' v d → W (.ref (cl c)) (some dx) H'
def ownable : PyData → Bool
  | .list _ => true
  | .dict _ => true
  | _ => false
/-- it may hand back what was there before -/
def old : E → Bool
  | .lst _ => false
  | .callN _ _ => false
  | .dct _ => false
  | .lc _ _ _ _ _ => false
  | .bin _ _ _ => false
  | .sl _ _ _ => false
  | .rev _ => false
  | .b1 _ _ => false
  | .b2 _ _ _ => false
  | _ => true
/-- a value just made: still outside, or known for good (b: a list, a dict may be) -/
inductive NewP (b : Bool) (K : Frg) (ρ : DEnv) (σ : L2.St) (R H0 H : Hp) : V → PyData → Prop
  | rp {v : V} {d : PyData} (h : Rp K R v d) (o : b = true ∨ ownable d = false := by first | exact .inl rfl | exact .inr rfl) : NewP b K ρ σ R H0 H v d
  | lst {p : Addr} {xs : List V} {ds : List PyData} : Fresh ρ σ R H0 p → H p = some (.lst xs) → RpL K R xs ds → NewP b K ρ σ R H0 H (.ref p) (.list ds)
  | tup {p : Addr} {xs : List V} {ds : List PyData} : Fresh ρ σ R H0 p → H p = some (.tup xs) → RpL K R xs ds → NewP b K ρ σ R H0 H (.ref p) (.tuple ds)
  | dic {p : Addr} {ks : List (Key × V)} {ds : List (PyData × PyData)} : Fresh ρ σ R H0 p → H p = some (.dK ks) → RpD K R ks ds → NewP b K ρ σ R H0 H (.ref p) (.dict ds)
  | odd {p : Addr} {u : HO} {l : List (PyData × PyData)} : Fresh ρ σ R H0 p → H p = some u → Rp K (upd R p u) (.ref p) (.dict l) → plainKeys l = false → NewP b K ρ σ R H0 H (.ref p) (.dict l)
def OpN (K : Frg) (e : E) (ρ : DEnv) (σ : L2.St) (R H0 H : Hp) (v : V) (d : PyData) : Prop := match isBor e with
  | some i => σ[i]? = some (some v)
  | none => NewP (old e) K ρ σ R H0 H v d
def OpV (K : Frg) (e : E) (σ : L2.St) (R : Hp) (v : V) (d : PyData) : Prop := match isBor e with
  | some i => σ[i]? = some (some v)
  | none => Rp K R v d
section
variable (K : Frg) (cl : Cls) (W : XK)
def ResN (R0 H0 : Hp) (G : List Addr) (e : E) (σ : L2.St) (R : Hp) (Q : VK) : OV → Prop
  | .ok x => ∀ v R' H', Stt K R0 H0 G x.2 σ R' H' → Le R R' → OpN K e x.2 σ R' H0 H' v x.1 → Q v H'
  | .exc c d => Wsh K cl R0 H0 G W c d
  | .bad => False
def ResR (R0 H0 : Hp) (G : List Addr) (e : E) (σ : L2.St) (R : Hp) (Q : VK) : OV → Prop
  | .ok x => ∀ v R' H', Stt K R0 H0 G x.2 σ R' H' → Le R R' → OpV K e σ R' v x.1 → Q v H'
  | .exc c d => Wsh K cl R0 H0 G W c d
  | .bad => False
def tN (e : E) (f : DEnv → OV) : TE := fun σ H Q => ∃ R0 H0 G ρ R, Stt K R0 H0 G ρ σ R H ∧ ResN K cl W R0 H0 G e σ R Q (f ρ)
def tR (e : E) (f : DEnv → OV) : TE := fun σ H Q => ∃ R0 H0 G ρ R, Stt K R0 H0 G ρ σ R H ∧ ResR K cl W R0 H0 G e σ R Q (f ρ)
/-- a truth value -/
def ResT (R0 H0 : Hp) (G : List Addr) (σ : L2.St) (R : Hp) (Q : Bool → Hp → Prop) : Out (Bool × DEnv) → Prop
  | .ok x => ∀ R' H', Stt K R0 H0 G x.2 σ R' H' → Le R R' → Q x.1 H'
  | .exc c d => Wsh K cl R0 H0 G W c d
  | .bad => False
def tT (f : DEnv → Out (Bool × DEnv)) : TT := fun σ H Q => ∃ R0 H0 G ρ R, Stt K R0 H0 G ρ σ R H ∧ ResT K cl W R0 H0 G σ R Q (f ρ)
inductive OpVs (σ : L2.St) (R : Hp) : List E → List V → List PyData → Prop
  | nil : OpVs σ R [] [] []
  | cons {e : E} {es : List E} {v : V} {vs : List V} {d : PyData} {ds : List PyData} : OpV K e σ R v d → OpVs σ R es vs ds → OpVs σ R (e :: es) (v :: vs) (d :: ds)
def ResA (R0 H0 : Hp) (G : List Addr) (es : List E) (σ : L2.St) (R : Hp) (Q : List V → Hp → Prop) : Out (List PyData × DEnv) → Prop
  | .ok x => ∀ vs R' H', Stt K R0 H0 G x.2 σ R' H' → Le R R' → OpVs K σ R' es vs x.1 → Q vs H'
  | .exc c d => Wsh K cl R0 H0 G W c d
  | .bad => False
def tA (es : List E) (f : DEnv → Out (List PyData × DEnv)) : TA := fun σ H Q => ∃ R0 H0 G ρ R, Stt K R0 H0 G ρ σ R H ∧ ResA K cl W R0 H0 G es σ R Q (f ρ)
end
section
variable {K : Frg} {cl : Cls} {W : XK} {R0 H0 R R1 H : Hp} {G : List Addr} {e : E} {es : List E} {ρ : DEnv} {σ : L2.St}
theorem OpV.mono {R' : Hp} {v : V} {d : PyData} (h : OpV K e σ R v d) (l : Le R R') : OpV K e σ R' v d := by
  unfold OpV at *
  cases hb : isBor e with
  | some i => rw [hb] at h; exact h
  | none => rw [hb] at h; exact Rp.mono l h
theorem OpVs.mono {R' : Hp} {vs : List V} {ds : List PyData} (h : OpVs K σ R es vs ds) (l : Le R R') : OpVs K σ R' es vs ds := by
  induction h with
  | nil => exact .nil
  | cons h _ ih => exact .cons (h.mono l) ih
theorem ResN.mono {Q : VK} {o : OV} (h : ResN K cl W R0 H0 G e σ R Q o) (l : Le R R1) : ResN K cl W R0 H0 G e σ R1 Q o := by
  cases o with
  | ok x => exact fun v R' H' S l' q => h v R' H' S (l.trans l') q
  | exc c d => exact h
  | bad => exact h
theorem ResR.mono {Q : VK} {o : OV} (h : ResR K cl W R0 H0 G e σ R Q o) (l : Le R R1) : ResR K cl W R0 H0 G e σ R1 Q o := by
  cases o with
  | ok x => exact fun v R' H' S l' q => h v R' H' S (l.trans l') q
  | exc c d => exact h
  | bad => exact h
theorem ResT.mono {Q : Bool → Hp → Prop} {o : Out (Bool × DEnv)} (h : ResT K cl W R0 H0 G σ R Q o) (l : Le R R1) : ResT K cl W R0 H0 G σ R1 Q o := by
  cases o with
  | ok x => exact fun R' H' S l' => h R' H' S (l.trans l')
  | exc c d => exact h
  | bad => exact h
theorem ResA.mono {Q : List V → Hp → Prop} {o : Out (List PyData × DEnv)} (h : ResA K cl W R0 H0 G es σ R Q o) (l : Le R R1) : ResA K cl W R0 H0 G es σ R1 Q o := by
  cases o with
  | ok x => exact fun v R' H' S l' q => h v R' H' S (l.trans l') q
  | exc c d => exact h
  | bad => exact h
theorem opd_ok {v : V} {d d' : PyData} (S : Stt K R0 H0 G ρ σ R H) (h : OpV K e σ R v d) (q : opd e d ρ = some d') : Wp K R H v d' := by
  cases e with
  | bor i =>
    have h : σ[i]? = some (some v) := h
    have q : (match ρ[i]? with
      | some (.own _ l) => some (PyData.list l)
      | some (.ownD _ kvs) => some (PyData.dict kvs)
      | _ => none) = some d' := q
    cases hs : ρ[i]? with
    | none => rw [hs] at q; cases q
    | some s =>
      rw [hs] at q
      have ok := S.sl i s hs
      cases s with
      | no => cases q
      | val _ => cases q
      | exc _ _ => cases q
      | own r l =>
        cases q
        obtain ⟨a, xs, e1, h1, h2, _, _⟩ := ok
        rw [h] at e1
        cases e1
        exact .own h1 h2
      | ownD r l =>
        cases q
        obtain ⟨a, xs, e1, h1, h2, _, _⟩ := ok
        rw [h] at e1
        cases e1
        exact .ownD h1 h2
  | _ =>
    cases q
    exact .rp h
theorem opd_plain (h : isBor e = none) (d : PyData) (ρ : DEnv) : opd e d ρ = some d := by
  cases e <;> first | rfl | cases h
end
section
variable {X : Cx} {ex : Expr} {cl : Cls} {W : XK}
theorem pe_imp {t t' : TE} (h : PE X ex t) (k : ∀ σ H Q, t' σ H Q → t σ H Q) : PE X ex t' := ⟨fun pins s σ H Q I q => h.run pins s σ H Q I (k σ H Q q)⟩
theorem pt_imp {t t' : TT} (h : PT X ex t) (k : ∀ σ H Q, t' σ H Q → t σ H Q) : PT X ex t' := ⟨fun pins s σ H Q I q => h.run pins s σ H Q I (k σ H Q q)⟩
theorem pa_imp {es : List Expr} {t t' : TA} (h : PA X es t) (k : ∀ σ H Q, t' σ H Q → t σ H Q) : PA X es t' := ⟨fun pos pins s σ H Q I q => h.run pos pins s σ H Q I (k σ H Q q)⟩
/-- freezing what was just made -/
theorem pe_frz {e : E} {f : DEnv → OV} (h : PE X ex (tN X.F cl W e f)) : PE X ex (tR X.F cl W e f) := by
  refine ⟨fun pins s σ H Q I q => ?_⟩
  obtain ⟨R0, H0, G, ρ, R, S, q⟩ := q
  cases hf : f ρ with
  | bad => rw [hf] at q; exact q.elim
  | exc c d =>
    rw [hf] at q
    exact h.run pins s σ H Q I ⟨R0, H0, G, ρ, R, S, by rw [hf]; exact q⟩
  | ok x =>
    rw [hf] at q
    refine thn (h.run pins s σ H (fun v H' => ∃ R', Stt X.F R0 H0 G x.2 σ R' H' ∧ Le R R' ∧ OpN X.F e x.2 σ R' H0 H' v x.1) I ⟨R0, H0, G, ρ, R, S, by rw [hf]; exact fun v R' H' S' l n => ⟨R', S', l, n⟩⟩) fun u s1 z => ?_
    obtain ⟨v, H', I', r, R', S', l, n⟩ := z
    cases hb : isBor e with
    | some i =>
      refine ⟨v, H', I', r, q v R' H' S' l ?_⟩
      unfold OpN at n
      rw [hb] at n
      unfold OpV
      rw [hb]
      exact n
    | none =>
      have n' : NewP (old e) X.F x.2 σ R' H0 H' v x.1 := by
        unfold OpN at n
        rw [hb] at n
        exact n
      have go : ∀ R2 H2, Stt X.F R0 H0 G x.2 σ R2 H2 → Le R' R2 → Rp X.F R2 v x.1 → Q v H2 := fun R2 H2 S2 l2 p => q v R2 H2 S2 (l.trans l2) (by unfold OpV; rw [hb]; exact p)
      obtain ⟨d, ρ'⟩ := x
      cases n' with
      | rp p _ => exact ⟨v, H', I', r, go R' H' S' (Le.refl _) p⟩
      | lst fr hp p =>
        obtain ⟨S2, l2⟩ := S'.freeze fr hp
        exact ⟨_, H', I', r, go _ H' S2 l2 (.lst upd_same (p.mono l2))⟩
      | tup fr hp p =>
        obtain ⟨S2, l2⟩ := S'.freeze fr hp
        exact ⟨_, H', I', r, go _ H' S2 l2 (.tup (.inl upd_same) (p.mono l2))⟩
      | odd fr hp p _ =>
        obtain ⟨S2, l2⟩ := S'.freeze fr hp
        exact ⟨_, H', I', r, go _ H' S2 l2 p⟩
      | @dic _ ks _ fr hp p =>
        obtain ⟨od, I2⟩ := I'.lock hp trivial
        have S2 := S'.outer (u := .frz od (.dK ks)) fr
        obtain ⟨S3, l3⟩ := S2.freeze fr upd_same
        exact ⟨_, _, I2, r, go _ _ S3 l3 (.dic upd_same (p.mono l3))⟩
end
/-! ### promises -/
def CellIs (K : Frg) (R H : Hp) (a : Addr) : PyData → Prop
  | .list l => ∃ xs, H a = some (.lst xs) ∧ RpL K R xs l
  | .dict l => ∃ ks, H a = some (.dK ks) ∧ RpD K R ks l
  | _ => False
/-- the arguments, the one at the place j an object that is to be changed -/
inductive ArgR (K : Frg) (R H : Hp) (a : Addr) : Nat → List V → List PyData → Prop
  | here {vs : List V} {d : PyData} {ds : List PyData} : CellIs K R H a d → RpL K R vs ds → ArgR K R H a 0 (.ref a :: vs) (d :: ds)
  | there {j : Nat} {v : V} {vs : List V} {d : PyData} {ds : List PyData} : Rp K R v d → ArgR K R H a j vs ds → ArgR K R H a (j + 1) (v :: vs) (d :: ds)
def ArgsR (K : Frg) (R H : Hp) : Option Nat → List Addr → List V → List PyData → Prop
  | none, G, vs, ds => G = [] ∧ RpL K R vs ds
  | some j, G, vs, ds => ∃ a, G = [a] ∧ R a = none ∧ ArgR K R H a j vs ds
def spD (K : Frg) (cl : Cls) (rf : Option Nat) (φ : Fun) : Sp := fun vs H Q E => ∃ R ds G, Sb R H ∧ ArgsR K R H rf G vs ds ∧ (match φ ds with
  | .ok x => ∀ v R' H', Aft R H G R' H' → Rp K R' v x.1 → (∀ a ∈ G, CellIs K R' H' a x.2) → Q v H'
  | .exc c d => Wsh K cl R H G E c d
  | .bad => False)
/-- a def keeps its promise, wherever no repr is under way -/
structure FnG (P : Program) (w : World) (K : PySem.W.Frag) (mg : Str → Option Value) (base : Heap) (k : Nat) (f : Addr) (fd : FuncData) (ps : List Str) (sp : Sp) : Prop where
  len : ∀ vs H Q E, sp vs H Q E → vs.length = ps.length
  run : ∀ (A : Around) (outer : List Env) (s : Shared) (H : Hp) (args : Args) (us : List Value) (vs : List V) (Q : VK) (E : XK), Room k A → A.guards = some [] → Env0 P w K mg base A outer s H → BindsTo s fd args (ps.zip us) → Vals vs us →
    sp vs H Q E → codeAny (model P w) A (.call (.ref f) args) (CR (L2.CX P w) outer P w H s Q E) s
theorem FnG.of {P : Program} {w : World} {K : PySem.W.Frag} {mg : Str → Option Value} {base : Heap} {k : Nat} {f : Addr} {fd : FuncData} {ps : List Str} {sp : Sp} (F : FnOk P w K mg base (L2.CX P w) k f fd ps sp) : FnG P w K mg base k f fd ps sp :=
  ⟨F.len, fun A outer s H args us vs Q E hr _ => F.run A outer s H args us vs Q E hr⟩
/-- the def f of the text: where it stands, how it is called -/
structure FnAt (P : Program) (w : World) (K : PySem.W.Frag) (mg : Str → Option Value) (base : Heap) (cl : Cls) (k : Nat) (x : Str) (rf : Option Nat) (φ : Fun) : Prop where
  ex : ∃ (a : Addr) (fd : FuncData) (ps : List Str) (j : Nat), j ≤ k ∧ mg x = some (.ref a) ∧ PySem.W.keepIn K (.ref a) = true ∧ FnG P w K mg base j a fd ps (spD ⟨K, w, clOf mg⟩ cl rf φ) ∧ Binds K fd ps []
/-- the built-in names that the evaluator knows -/
def bnames : List Str := ["len", "int", "list", "tuple", "sorted", "all", "any", "sum", "repr", "dict", "set", "abs", "max", "min", "isinstance", "bool", "str", "range", "enumerate", "zip", "reversed"]
structure Cok (GT : List (Str × PyData)) (PhU : Nat → Fun) (RF : Refs) (Kn : Nat → Bool) (fnm : Nat → Str) (cl : Cls) (k : Nat) (X : Cx) (W : XK) : Prop where
  nd : X.N.Nodup
  calm : X.calm = true
  gd : X.A.guards = some []
  one : ∃ o, X.base.get? 1 = some o
  room : Room k X.A
  tk : Takes X fun c d _ H => W c d H
  po : PassesOwn (model X.prog X.w) X.A X.env X.xe
  fr : ∀ x ∈ bnames, X.mg x = none
  gl : ∀ (j : Nat) (q : Str × PyData), GT[j]? = some q → ∃ v u, X.mg q.1 = some u ∧ RelV v u ∧ Rp X.F (fun _ => none) v q.2
  fns : ∀ f, Kn f = true → FnAt X.prog X.w X.K X.mg X.base cl k (fnm f) (RF f) (PhU f)
end DL
set_option Elab.async false
set_option linter.all false
set_option maxRecDepth 100000
set_option maxHeartbeats 1000000
/-! DL, part f: what an operation leaves; operators and comparisons. -/
namespace DL
open PySem PySem.Spec PyProof.Rows L2
/-- new things are laid, frozen at once -/
inductive Grow (R H : Hp) : Hp → Hp → Prop
  | refl : Grow R H R H
  | lay {R' H' : Hp} {p : Addr} {u : HO} : Grow R H R' H' → H' p = none → Grow R H (upd R' p u) (upd H' p u)
/-- a value, just made -/
inductive Mk1 (b : Bool) (K : Frg) (R H : Hp) : Hp → V → PyData → Prop
  | rp {R' H' : Hp} {v : V} {d : PyData} (g : Grow R H R' H') (h : Rp K R' v d) (o : b = true ∨ ownable d = false := by first | exact .inl rfl | exact .inr rfl) : Mk1 b K R H H' v d
  | lst {R' H' : Hp} {p : Addr} {xs : List V} {ds : List PyData} : Grow R H R' H' → H' p = none → RpL K R' xs ds → Mk1 b K R H (upd H' p (.lst xs)) (.ref p) (.list ds)
  | tup {R' H' : Hp} {p : Addr} {xs : List V} {ds : List PyData} : Grow R H R' H' → H' p = none → RpL K R' xs ds → Mk1 b K R H (upd H' p (.tup xs)) (.ref p) (.tuple ds)
  | dic {R' H' : Hp} {p : Addr} {ks : List (Key × V)} {ds : List (PyData × PyData)} : Grow R H R' H' → H' p = none → RpD K R' ks ds → Mk1 b K R H (upd H' p (.dK ks)) (.ref p) (.dict ds)
  | odd {R' H' : Hp} {p : Addr} {u : HO} {l : List (PyData × PyData)} : Grow R H R' H' → H' p = none → Rp K (upd R' p u) (.ref p) (.dict l) → plainKeys l = false → Mk1 b K R H (upd H' p u) (.ref p) (.dict l)
section
variable {K : Frg} {R0 H0 R R' H H' : Hp} {G : List Addr} {ρ : DEnv} {σ : L2.St}
theorem Stt.grow (S : Stt K R0 H0 G ρ σ R H) (g : Grow R H R' H') : Stt K R0 H0 G ρ σ R' H' ∧ Le R R' := by
  induction g with
  | refl => exact ⟨S, Le.refl R⟩
  | lay g hp ih =>
    obtain ⟨S1, l1⟩ := ih
    obtain ⟨S2, l2⟩ := S1.lay (u := _) hp
    exact ⟨S2, l1.trans l2⟩
theorem Mk1.stt {b : Bool} {v : V} {d : PyData} (m : Mk1 b K R H H' v d) (S : Stt K R0 H0 G ρ σ R H) : ∃ R', Stt K R0 H0 G ρ σ R' H' ∧ Le R R' ∧ NewP b K ρ σ R' H0 H' v d := by
  cases m with
  | rp g h o =>
    obtain ⟨S1, l1⟩ := S.grow g
    exact ⟨_, S1, l1, .rp h o⟩
  | lst g hp h =>
    obtain ⟨S1, l1⟩ := S.grow g
    exact ⟨_, S1.alloc hp, l1, .lst (S1.fresh hp) upd_same h⟩
  | tup g hp h =>
    obtain ⟨S1, l1⟩ := S.grow g
    exact ⟨_, S1.alloc hp, l1, .tup (S1.fresh hp) upd_same h⟩
  | dic g hp h =>
    obtain ⟨S1, l1⟩ := S.grow g
    exact ⟨_, S1.alloc hp, l1, .dic (S1.fresh hp) upd_same h⟩
  | odd g hp h pk =>
    obtain ⟨S1, l1⟩ := S.grow g
    exact ⟨_, S1.alloc hp, l1, .odd (S1.fresh hp) upd_same h pk⟩
end
/-- what an operation on two data hands back -/
def r2 (b : Bool) (K : Frg) (g : PyData → PyData → Option PyData) : R2 := fun x y H Q => ∃ R d1 d2 d, Sb R H ∧ Wp K R H x d1 ∧ Wp K R H y d2 ∧ g d1 d2 = some d ∧ ∀ v H', Mk1 b K R H H' v d → Q v H'
def r1 (b : Bool) (K : Frg) (g : PyData → Option PyData) : V → Hp → VK → Prop := fun x H Q => ∃ R d1 d, Sb R H ∧ Wp K R H x d1 ∧ g d1 = some d ∧ ∀ v H', Mk1 b K R H H' v d → Q v H'
/-- what is so of a run's end -/
def Ok2 {α : Type} (K : Frg) (cl : Cls) (W : XK) (R0 H0 : Hp) (G : List Addr) (o : Out (α × DEnv)) (k : α → DEnv → Prop) : Prop := match o with
  | .ok x => k x.1 x.2
  | .exc c d => Wsh K cl R0 H0 G W c d
  | .bad => False
section
variable {α β : Type} {K : Frg} {cl : Cls} {W : XK} {R0 H0 R : Hp} {G : List Addr} {σ : L2.St} {e : E} {es : List E}
theorem resN_iff {Q : VK} {o : OV} : ResN K cl W R0 H0 G e σ R Q o ↔ Ok2 K cl W R0 H0 G o fun d ρ => ∀ v R' H', Stt K R0 H0 G ρ σ R' H' → Le R R' → OpN K e ρ σ R' H0 H' v d → Q v H' := by cases o <;> exact Iff.rfl
theorem resR_iff {Q : VK} {o : OV} : ResR K cl W R0 H0 G e σ R Q o ↔ Ok2 K cl W R0 H0 G o fun d ρ => ∀ v R' H', Stt K R0 H0 G ρ σ R' H' → Le R R' → OpV K e σ R' v d → Q v H' := by cases o <;> exact Iff.rfl
theorem resT_iff {Q : Bool → Hp → Prop} {o : Out (Bool × DEnv)} : ResT K cl W R0 H0 G σ R Q o ↔ Ok2 K cl W R0 H0 G o fun b ρ => ∀ R' H', Stt K R0 H0 G ρ σ R' H' → Le R R' → Q b H' := by cases o <;> exact Iff.rfl
theorem resA_iff {Q : List V → Hp → Prop} {o : Out (List PyData × DEnv)} : ResA K cl W R0 H0 G es σ R Q o ↔ Ok2 K cl W R0 H0 G o fun ds ρ => ∀ vs R' H', Stt K R0 H0 G ρ σ R' H' → Le R R' → OpVs K σ R' es vs ds → Q vs H' := by cases o <;> exact Iff.rfl
theorem ok2_bind {o : Out (α × DEnv)} {f : α × DEnv → Out (β × DEnv)} {k : β → DEnv → Prop} : Ok2 K cl W R0 H0 G (o.bind f) k ↔ Ok2 K cl W R0 H0 G o fun a ρ => Ok2 K cl W R0 H0 G (f (a, ρ)) k := by cases o <;> exact Iff.rfl
theorem ok2_opt {o : Option α} {ρ : DEnv} {k : α → DEnv → Prop} : Ok2 K cl W R0 H0 G (Out.ofOpt o ρ) k ↔ ∃ a, o = some a ∧ k a ρ := by
  cases o with
  | none => exact ⟨fun h => h.elim, fun ⟨_, h, _⟩ => nomatch h⟩
  | some a => exact ⟨fun h => ⟨a, rfl, h⟩, fun ⟨b, h, q⟩ => by cases h; exact q⟩
theorem Ok2.imp {o : Out (α × DEnv)} {k k' : α → DEnv → Prop} (h : Ok2 K cl W R0 H0 G o k) (i : ∀ a ρ, k a ρ → k' a ρ) : Ok2 K cl W R0 H0 G o k' := by
  cases o with
  | ok x => exact i _ _ h
  | exc c d => exact h
  | bad => exact h
theorem NewP.mono {b b' : Bool} {ρ : DEnv} {H : Hp} {v : V} {d : PyData} (n : NewP b K ρ σ R H0 H v d) (hb : b = true → b' = true) : NewP b' K ρ σ R H0 H v d := by
  cases n with
  | rp h o => exact .rp h (o.imp hb id)
  | lst a b c => exact .lst a b c
  | tup a b c => exact .tup a b c
  | dic a b c => exact .dic a b c
  | odd a b c d => exact .odd a b c d
theorem OpN.new {ρ : DEnv} {H : Hp} {v : V} {d : PyData} (hn : isBor e = none) (n : NewP (old e) K ρ σ R H0 H v d) : OpN K e ρ σ R H0 H v d := by
  unfold OpN
  rw [hn]
  exact n
theorem OpV.rp {v : V} {d : PyData} (hn : isBor e = none) (h : OpV K e σ R v d) : Rp K R v d := by
  unfold OpV at h
  rw [hn] at h
  exact h
theorem OpV.of {v : V} {d : PyData} (hn : isBor e = none) (h : Rp K R v d) : OpV K e σ R v d := by
  unfold OpV
  rw [hn]
  exact h
end
section
variable {X : Cx} {cl : Cls} {W : XK} {e ea eb : E} {fa fb : DEnv → OV} {a b ex : Expr}
/-- two operands, then an operation -/
theorem t_two {K : Frg} {bb : Bool} {g : PyData → PyData → Option PyData} (hn : isBor e = none) (ho : bb = true → old e = true) {σ : L2.St} {H : Hp} {Q : VK} (h : tN K cl W e (fun ρ => (fa ρ).bind fun x => (fb x.2).bind fun y => Out.ofOpt (two g ea eb x.1 y.1 y.2) y.2) σ H Q) :
    tOp (r2 bb K g) (tR K cl W ea fa) (tR K cl W eb fb) σ H Q := by
  obtain ⟨R0, H0, G, ρ, R, S, h⟩ := h
  refine ⟨R0, H0, G, ρ, R, S, resR_iff.mpr ((ok2_bind.mp (resN_iff.mp h)).imp fun x ρ1 h v R1 H1 S1 l1 o1 => ⟨R0, H0, G, ρ1, R1, S1, resR_iff.mpr ((ok2_bind.mp h).imp fun y ρ2 h w R2 H2 S2 l2 o2 => ?_)⟩)⟩
  obtain ⟨d, ht, h⟩ := ok2_opt.mp h
  unfold two at ht
  obtain ⟨d1, e1, ht⟩ := Option.bind_eq_some_iff.mp ht
  obtain ⟨d2, e2, ht⟩ := Option.bind_eq_some_iff.mp ht
  refine ⟨R2, d1, d2, d, S2.sub, opd_ok S2 (o1.mono l2) e1, opd_ok S2 o2 e2, ht, fun u H3 m => ?_⟩
  obtain ⟨R3, S3, l3, n⟩ := m.stt S2
  exact h u R3 H3 S3 ((l1.trans l2).trans l3) (.new hn (n.mono ho))
theorem pe_two {bb : Bool} {g : PyData → PyData → Option PyData} (hn : isBor e = none) (ho : bb = true → old e = true) (mk : ∀ ta tb, PE X a ta → PE X b tb → PE X ex (tOp (r2 bb X.F g) ta tb)) (ha : PE X a (tN X.F cl W ea fa)) (hb : PE X b (tN X.F cl W eb fb)) :
    PE X ex (tN X.F cl W e fun ρ => (fa ρ).bind fun x => (fb x.2).bind fun y => Out.ofOpt (two g ea eb x.1 y.1 y.2) y.2) :=
  pe_imp (mk _ _ (pe_frz ha) (pe_frz hb)) fun σ H Q h => t_two hn ho h
/-- one operand, then an operation -/
theorem pe_one1 {bb : Bool} {g : PyData → Option PyData} (hn : isBor e = none) (ho : bb = true → old e = true) (mk : ∀ ta, PE X a ta → PE X ex (tUn (r1 bb X.F g) ta)) (ha : PE X a (tN X.F cl W ea fa)) :
    PE X ex (tN X.F cl W e fun ρ => (fa ρ).bind fun x => Out.ofOpt ((opd ea x.1 x.2).bind g) x.2) := by
  refine pe_imp (mk _ (pe_frz ha)) fun σ H Q h => ?_
  obtain ⟨R0, H0, G, ρ, R, S, h⟩ := h
  refine ⟨R0, H0, G, ρ, R, S, resR_iff.mpr ((ok2_bind.mp (resN_iff.mp h)).imp fun x ρ1 h v R1 H1 S1 l1 o1 => ?_)⟩
  obtain ⟨d, ht, h⟩ := ok2_opt.mp h
  obtain ⟨d1, e1, ht⟩ := Option.bind_eq_some_iff.mp ht
  refine ⟨R1, d1, d, S1.sub, opd_ok S1 o1 e1, ht, fun u H3 m => ?_⟩
  obtain ⟨R3, S3, l3, n⟩ := m.stt S1
  exact h u R3 H3 S3 (l1.trans l3) (.new hn (n.mono ho))
end
section
variable {X : Cx} {pins : List (Addr × Obj)} {σ : L2.St} {R H : Hp} {s : Shared} {K : Frg}
theorem Inv.rdM (I : Inv X pins σ H s) {l : Addr} {xs : List V} (h : Rd H l (.lst xs)) : xs.length ≤ sizeLine ∧ ∃ (its : List Value) (n : Nat), Vals xs its ∧ xs.length = its.length ∧ s.heap.get? l = some { cls := .type "list", data := .seq its.toArray n } := by
  obtain ⟨z, its, n, r, e⟩ := h.ok I.hok
  exact ⟨z, its, n, r, r.length, e⟩
theorem Wp.int {v : V} {i : Int} (h : Wp K R H v (.int i)) : v = .int i := by
  cases h with
  | rp h => cases h; rfl
theorem Wp.bool {v : V} {i : Bool} (h : Wp K R H v (.bool i)) : v = .bl i := by
  cases h with
  | rp h => cases h; rfl
theorem Wp.none {v : V} (h : Wp K R H v .none) : v = .non := by
  cases h with
  | rp h => cases h; rfl
theorem Wp.str {v : V} {x : Str} (h : Wp K R H v (.str x)) : v = .str x ∧ x.length ≤ sizeLine := by
  cases h with
  | rp h => cases h; exact ⟨rfl, by assumption⟩
theorem RpL.nil_iff {vs : List V} {ds : List PyData} (h : RpL K R vs ds) : vs = [] ↔ ds = [] := by
  cases h with
  | nil => simp
  | cons _ _ => simp
end
section
variable {X : Cx}
theorem op_addD : OpR X (binaryOp .Add) (r2 false X.F (binD .add)) := by
  intro pins s σ H x y v u Q I rx ry h
  obtain ⟨R, d1, d2, d, sb, h1, h2, q, k⟩ := h
  cases d1 <;> cases d2 <;> simp only [binD] at q <;> try (cases q; done)
  · cases q
    rw [h1.int] at rx
    rw [h2.int] at ry
    exact op_add pins s σ H _ _ v u Q I rx ry ⟨_, _, rfl, rfl, k _ _ (.rp .refl (.int _))⟩
  · split at q
    · rename_i hz
      cases q
      rw [h1.str.1] at rx
      rw [h2.str.1] at ry
      refine op_add_str pins s σ H _ _ v u Q I rx ry ⟨_, _, rfl, rfl, hz, k _ _ (.rp .refl (.str _ ?_))⟩
      rw [Str.length_append]
      exact hz
    · cases q
  · split at q
    · rename_i hz
      cases q
      obtain ⟨a, xs, rfl, ha, la⟩ := h1.list (X := X) sb
      obtain ⟨b, ys, rfl, hb, lb⟩ := h2.list (X := X) sb
      cases rx
      cases ry
      obtain ⟨z, its, n, r, hl, e⟩ := Inv.rdM I ha
      obtain ⟨z2, its2, n2, r2, hl2, e2⟩ := Inv.rdM I hb
      have z1 := la.len
      have z3 := lb.len
      refine PySem.P.add_list e e2 ?_ (by rw [List.size_toArray, List.size_toArray]; omega)
      have ea : its.toArray ++ its2.toArray = (its ++ its2).toArray := by simp
      rw [ea]
      exact ⟨.ref _, _, I.lnew (t' := s.toks) (r.append r2) (by rw [List.length_append]; omega), rfl, k _ _ (.lst .refl I.fresh (la.app lb))⟩
    · cases q
  · split at q
    · rename_i hz
      cases q
      obtain ⟨a, xs, rfl, ha, la⟩ := h1.tuple (X := X) sb
      obtain ⟨b, ys, rfl, hb, lb⟩ := h2.tuple (X := X) sb
      have z1 := la.len
      have z3 := lb.len
      refine op_catA pins s σ H _ _ v u Q I rx ry ⟨a, b, xs, ys, rfl, rfl, ha, hb, by omega, fun e => ?_, fun e e' => ?_, fun e e' p hp => ?_⟩
      · have e2 := la.nil_iff.mp e
        rw [e2, List.nil_append] at k
        cases h2 with
        | rp h2 => exact k _ _ (.rp .refl h2)
      · have e2 := lb.nil_iff.mp e'
        rw [e2, List.append_nil] at k
        cases h1 with
        | rp h1 => exact k _ _ (.rp .refl h1)
      · exact k _ _ (.tup .refl hp (la.app lb))
    · cases q
end
end DL
set_option Elab.async false
set_option linter.all false
set_option maxRecDepth 100000
set_option maxHeartbeats 1000000
/-! DL, part g: operators and comparisons. -/
namespace DL
open PySem PySem.Spec PyProof.Rows L2
open PySem.W (lt_data gt_data le_data ge_data)
open PySem.SeqAt (eq_plain ne_plain in_list_data in_tuple_data notIn_list_data notIn_tuple_data)
def binOp : BinO → Operator
  | .add => .Add
  | .sub => .Sub
  | .mul => .Mult
  | .mod => .Mod
  | .fdiv => .FloorDiv
  | .pow => .Pow
  | .shl => .LShift
  | .shr => .RShift
  | .band => .BitAnd
  | .bor => .BitOr
def cmpOp : CmpO → CmpOp
  | .eq => .Eq
  | .ne => .NotEq
  | .lt => .Lt
  | .le => .LtE
  | .gt => .Gt
  | .ge => .GtE
  | .inn => .In
  | .nin => .NotIn
  | .is => .Is
  | .isn => .IsNot
section
variable {X : Cx}
theorem op_subD : OpR X (binaryOp .Sub) (r2 false X.F (binD .sub)) := by
  intro pins s σ H x y v u Q I rx ry h
  obtain ⟨R, d1, d2, d, sb, h1, h2, q, k⟩ := h
  cases d1 <;> cases d2 <;> simp only [binD] at q <;> try (cases q; done)
  cases q
  rw [h1.int] at rx
  rw [h2.int] at ry
  exact op_sub pins s σ H _ _ v u Q I rx ry ⟨_, _, rfl, rfl, k _ _ (.rp .refl (.int _))⟩
theorem op_mulD : OpR X (binaryOp .Mult) (r2 false X.F (binD .mul)) := by
  intro pins s σ H x y v u Q I rx ry h
  obtain ⟨R, d1, d2, d, sb, h1, h2, q, k⟩ := h
  cases d1 <;> cases d2 <;> simp only [binD] at q <;> try (cases q; done)
  · split at q
    · rename_i a b hz
      cases q
      rw [h1.int] at rx
      rw [h2.int] at ry
      refine op_mul pins s σ H _ _ v u Q I rx ry ⟨_, _, rfl, rfl, ?_, k _ _ (.rp .refl (.int _))⟩
      unfold CMul
      rcases hz with z | z
      · exact .inl (by omega)
      · exact .inr (by omega)
    · cases q
  · split at q
    · rename_i ds i hz
      cases q
      obtain ⟨h1', h2', hz⟩ := hz
      obtain ⟨a, xs, rfl, ha, la⟩ := h1.list (X := X) sb
      rw [h2.int] at ry
      cases rx
      obtain ⟨t, rfl⟩ := ry
      obtain ⟨z, its, n, r, hl, e⟩ := Inv.rdM I ha
      have z1 := la.len
      have hlen : its.toArray.size * i.toNat ≤ sizeLine := by rw [List.size_toArray, ← hl, z1]; exact hz
      have hcap : ¬ its.toArray.size * i.toNat > (2 ^ 63 - 1) / 8 := by
        have : (sizeLine : Nat) ≤ (2 ^ 63 - 1) / 8 := by decide
        omega
      have hfit : ¬ (!Builtin.List.listFitsIndex i) = true := by
        rw [fitsIndex_both h1' h2']
        exact Bool.false_ne_true
      have hlong : ¬ Builtin.List.listTooLong (its.toArray.size * i.toNat) = true := by
        rw [notLongL hlen]
        exact Bool.false_ne_true
      have hnew : List.foldl (fun x1 x2 => x1 ++ x2) #[] (List.replicate (if its.toArray.isEmpty = true then 0 else i.toNat) its.toArray) = (List.replicate i.toNat its).flatten.toArray := by
        have f0 : ∀ m : Nat, List.foldl (fun x1 x2 => x1 ++ x2) #[] (List.replicate m its.toArray) = (List.replicate m its).flatten.toArray := fun m => by
          have := foldl_rep its m []
          rw [List.nil_append] at this
          exact this
        rw [f0]
        cases its with
        | nil => simp
        | cons a r' => rw [if_neg (by simp)]
      refine wpAny_binaryOp_repeat_ref (T := "list") (U := "int") (by decide) ⟨_, e, rfl⟩ (fun s' => typeIs_int s' i t) noFill_list_mul F.fills_int_mul F.slot_int_rmul repeat_list F.slot_int_index.lookup
        (call_meets F.slot_int_rmul (typeIs_int s i t) F.entry_int_rmul (F.args_int_rmul_2 _ _) (int___rmul___int_list i t a its.toArray n)
          ⟨e, rfl, ⟨_, e, rfl⟩, call_meets F.slot_list_mul ⟨_, e, rfl⟩ F.entry_list_mul (F.args_list_mul_2 _ _) (AutoListH.list___mul___list_int_3 a its.toArray n i t hfit hcap hlong) ⟨e, ?_⟩⟩)
      rw [hnew]
      have lr : RpL X.F R (List.replicate i.toNat xs).flatten (rep ds i.toNat) := by
        unfold rep
        generalize i.toNat = m
        induction m with
        | zero => exact .nil
        | succ m ih =>
          rw [List.replicate_succ, List.replicate_succ, List.flatten_cons, List.flatten_cons]
          exact la.app ih
      exact ⟨.ref _, _, I.lnew (t' := s.toks) (r.rep i.toNat) (by rw [PyProof.Rows.lm_len_rep_flat, Nat.mul_comm, z1]; exact hz), rfl, k _ _ (.lst .refl I.fresh lr)⟩
    · cases q
theorem op_ints {op : Operator} {o : BinO} {C : Int → Int → Prop} {f : Int → Int → Int} (ho : OpR X (binaryOp op) (rI C fun i j => .int (f i j)))
    (hb : ∀ d1 d2 d, binD o d1 d2 = some d → ∃ i j, d1 = .int i ∧ d2 = .int j ∧ C i j ∧ d = .int (f i j)) : OpR X (binaryOp op) (r2 false X.F (binD o)) := by
  intro pins s σ H x y v u Q I rx ry h
  obtain ⟨R, d1, d2, d, sb, h1, h2, q, k⟩ := h
  obtain ⟨i, j, rfl, rfl, c, rfl⟩ := hb _ _ _ q
  rw [h1.int] at rx
  rw [h2.int] at ry
  exact ho pins s σ H _ _ v u Q I rx ry ⟨_, _, rfl, rfl, c, k _ _ (.rp .refl (.int _))⟩
theorem op_modD : OpR X (binaryOp .Mod) (r2 false X.F (binD .mod)) := op_ints op_mod fun d1 d2 d q => by
  cases d1 <;> cases d2 <;> simp only [binD] at q <;> try (cases q; done)
  split at q
  · rename_i h
    cases q
    exact ⟨_, _, rfl, rfl, h, rfl⟩
  · cases q
theorem op_fdivD : OpR X (binaryOp .FloorDiv) (r2 false X.F (binD .fdiv)) := op_ints op_fdiv fun d1 d2 d q => by
  cases d1 <;> cases d2 <;> simp only [binD] at q <;> try (cases q; done)
  split at q
  · rename_i h
    cases q
    exact ⟨_, _, rfl, rfl, h, rfl⟩
  · cases q
theorem op_powG : OpR X (binaryOp .Pow) (rI (fun i j => 0 ≤ j ∧ (Builtin.Int.intBits i : Int) * j ≤ 2 ^ 27) fun i j => .int (i ^ j.toNat)) := opI fun _ _ _ _ _ _ _ hc q => pow_int hc.1 hc.2 q
theorem op_powD : OpR X (binaryOp .Pow) (r2 false X.F (binD .pow)) := op_ints op_powG fun d1 d2 d q => by
  cases d1 <;> cases d2 <;> simp only [binD] at q <;> try (cases q; done)
  split at q
  · rename_i h
    cases q
    exact ⟨_, _, rfl, rfl, h, rfl⟩
  · cases q
theorem op_shlD : OpR X (binaryOp .LShift) (r2 false X.F (binD .shl)) := op_ints op_shl fun d1 d2 d q => by
  cases d1 <;> cases d2 <;> simp only [binD] at q <;> try (cases q; done)
  split at q
  · rename_i h
    cases q
    exact ⟨_, _, rfl, rfl, h, rfl⟩
  · cases q
theorem op_shrD : OpR X (binaryOp .RShift) (r2 false X.F (binD .shr)) := op_ints op_shr fun d1 d2 d q => by
  cases d1 <;> cases d2 <;> simp only [binD] at q <;> try (cases q; done)
  split at q
  · rename_i h
    cases q
    exact ⟨_, _, rfl, rfl, h, rfl⟩
  · cases q
theorem rI0_of {f : Value → Value → Sem Value} {g : Int → Int → V} (h : OpR X f (rI0 g)) : OpR X f (rI (fun _ _ => True) g) := fun pins s σ H x y v u Q I rx ry ⟨i, j, e1, e2, _, q⟩ => h pins s σ H x y v u Q I rx ry ⟨i, j, e1, e2, q⟩
theorem op_bandD : OpR X (binaryOp .BitAnd) (r2 false X.F (binD .band)) := op_ints (rI0_of op_and) fun d1 d2 d q => by
  cases d1 <;> cases d2 <;> simp only [binD] at q <;> try (cases q; done)
  cases q
  exact ⟨_, _, rfl, rfl, trivial, rfl⟩
theorem op_borD : OpR X (binaryOp .BitOr) (r2 false X.F (binD .bor)) := op_ints (rI0_of op_or) fun d1 d2 d q => by
  cases d1 <;> cases d2 <;> simp only [binD] at q <;> try (cases q; done)
  cases q
  exact ⟨_, _, rfl, rfl, trivial, rfl⟩
theorem op_binD (o : BinO) : OpR X (binaryOp (binOp o)) (r2 false X.F (binD o)) := by
  cases o with
  | add => exact op_addD
  | sub => exact op_subD
  | mul => exact op_mulD
  | mod => exact op_modD
  | fdiv => exact op_fdivD
  | pow => exact op_powD
  | shl => exact op_shlD
  | shr => exact op_shrD
  | band => exact op_bandD
  | bor => exact op_borD
/-! ### comparisons -/
abbrev cmpB (o : CmpO) : PyData → PyData → Option PyData := fun u v => (cmpD o u v).map .bool
theorem cmpB_some {o : CmpO} {a b d : PyData} (h : cmpB o a b = some d) : ∃ c, cmpD o a b = some c ∧ d = .bool c := by
  unfold cmpB at h
  cases e : cmpD o a b with
  | none => rw [e] at h; cases h
  | some c => rw [e] at h; cases h; exact ⟨c, rfl, rfl⟩
theorem kV_find {R : Hp} {K : Frg} {k : Key} : ∀ {ks : List (Key × V)} {ds : List (PyData × PyData)}, RpD K R ks ds → (valV ks k).isSome = (look (kD k) ds).isSome ∧ ∀ v, valV ks k = some v → ∃ d, look (kD k) ds = some d ∧ Rp K R v d
  | _, _, .nil => ⟨rfl, fun _ h => nomatch h⟩
  | _, _, .cons (k := j) (v := v0) (d := d0) (ks := ks) (ds := ds) f h q => by
    obtain ⟨i1, i2⟩ := kV_find (k := k) q
    have ke : keyEq (kD j) (kD k) = decide (j = k) := by
      cases j <;> cases k <;> simp [keyEq, kD]
    have e1 : look (kD k) ((kD j, d0) :: ds) = if j = k then some d0 else look (kD k) ds := by
      unfold look
      rw [List.find?_cons, ke]
      by_cases z : j = k
      · rw [if_pos z, decide_eq_true z]
        rfl
      · rw [if_neg z, decide_eq_false z]
    by_cases z : j = k
    · rw [e1, if_pos z, valV_pos (p := (j, v0)) z]
      exact ⟨rfl, fun v hv => by cases hv; exact ⟨_, rfl, h⟩⟩
    · rw [e1, if_neg z, valV_neg (p := (j, v0)) z]
      exact ⟨i1, i2⟩
theorem Wp.key {K : Frg} {R H : Hp} {v : V} {d : PyData} (h : Wp K R H v d) (i : isKey d = true) : ∃ k, v = kV k ∧ d = kD k := by
  cases d with
  | int n => exact ⟨.inl n, h.int, rfl⟩
  | str x => exact ⟨.inr x, h.str.1, rfl⟩
  | _ => cases i
theorem op_cmpD {k : Nat} (hr : Room k X.A) (o : CmpO) : OpR X (compareOp (cmpOp o)) (r2 false X.F (cmpB o)) := by
  intro pins s σ H x y v u Q I rx ry h
  obtain ⟨R, d1, d2, d, sb, h1, h2, q, k⟩ := h
  obtain ⟨c, qc, rfl⟩ := cmpB_some q
  replace q := qc
  obtain ⟨as, ra, _⟩ := h1.reads I sb rx
  obtain ⟨bs, rb, _⟩ := h2.reads I sb ry
  have hu := hr.units
  have fin : EP X pins σ Q (.bool c) s := ⟨.bl c, H, I, rfl, k _ _ (.rp .refl (.bl c))⟩
  have ord : ∀ a b : PyData, ordOk a b = true → PySem.W.alike a b = true ∧ a ≠ .none ∧ min a.depth b.depth ≤ 60 := fun a b z => by
    unfold ordOk at z
    simp only [Bool.and_eq_true, decide_eq_true_eq] at z
    refine ⟨z.1.1, fun e => ?_, z.2⟩
    rw [e] at z
    cases z.1.2
  cases o with
  | is =>
    cases d1 <;> cases d2 <;> simp only [cmpD] at q <;> try (cases q; done)
    cases q
    rw [h1.bool] at rx
    rw [h2.bool] at ry
    exact op_isBl pins s σ H _ _ v u Q I rx ry ⟨_, _, rfl, rfl, k _ _ (.rp .refl (.bl _))⟩
  | isn =>
    cases d1 <;> cases d2 <;> simp only [cmpD] at q <;> try (cases q; done)
    cases q
    rw [h1.bool] at rx
    rw [h2.bool] at ry
    exact op_notBl pins s σ H _ _ v u Q I rx ry ⟨_, _, rfl, rfl, k _ _ (.rp .refl (.bl _))⟩
  | eq =>
    simp only [cmpD] at q
    split at q
    · rename_i hz
      simp only [Bool.and_eq_true, decide_eq_true_eq] at hz
      cases q
      exact eq_plain ra rb hz.1.1 hz.1.2 (by omega) fin
    · cases q
  | ne =>
    simp only [cmpD] at q
    split at q
    · rename_i hz
      simp only [Bool.and_eq_true, decide_eq_true_eq] at hz
      cases q
      exact ne_plain ra rb hz.1.1 hz.1.2 (by omega) fin
    · cases q
  | lt =>
    unfold cmpD at q
    split at q
    all_goals first | contradiction | skip
    · cases q
      rw [h1.int] at rx
      rw [h2.int] at ry
      exact op_lt pins s σ H _ _ v u Q I rx ry ⟨_, _, rfl, rfl, k _ _ (.rp .refl (.bl _))⟩
    · split at q
      · rename_i hz
        cases q
        obtain ⟨z1, z2, z3⟩ := ord _ _ hz
        exact lt_data ra rb z1 z2 (by omega) fin
      · cases q
  | le =>
    unfold cmpD at q
    split at q
    all_goals first | contradiction | skip
    · cases q
      rw [h1.int] at rx
      rw [h2.int] at ry
      exact op_le pins s σ H _ _ v u Q I rx ry ⟨_, _, rfl, rfl, k _ _ (.rp .refl (.bl _))⟩
    · split at q
      · rename_i hz
        cases q
        obtain ⟨z1, z2, z3⟩ := ord _ _ hz
        exact le_data ra rb z1 z2 (by omega) fin
      · cases q
  | gt =>
    unfold cmpD at q
    split at q
    all_goals first | contradiction | skip
    · cases q
      rw [h1.int] at rx
      rw [h2.int] at ry
      exact op_gt pins s σ H _ _ v u Q I rx ry ⟨_, _, rfl, rfl, k _ _ (.rp .refl (.bl _))⟩
    · split at q
      · rename_i hz
        cases q
        obtain ⟨z1, z2, z3⟩ := ord _ _ hz
        exact gt_data ra rb z1 z2 (by omega) fin
      · cases q
  | ge =>
    unfold cmpD at q
    split at q
    all_goals first | contradiction | skip
    · cases q
      rw [h1.int] at rx
      rw [h2.int] at ry
      exact op_ge pins s σ H _ _ v u Q I rx ry ⟨_, _, rfl, rfl, k _ _ (.rp .refl (.bl _))⟩
    · split at q
      · rename_i hz
        cases q
        obtain ⟨z1, z2, z3⟩ := ord _ _ hz
        exact ge_data ra rb z1 z2 (by omega) fin
      · cases q
  | inn =>
    unfold cmpD at q
    split at q
    all_goals first | contradiction | skip
    · cases q
      rw [h1.str.1] at rx
      rw [h2.str.1] at ry
      exact op_in_str pins s σ H _ _ v u Q I rx ry ⟨_, _, rfl, rfl, k _ _ (.rp .refl (.bl _))⟩
    · split at q
      · rename_i hz
        simp only [Bool.and_eq_true, decide_eq_true_eq] at hz
        cases q
        exact in_list_data rb ra hz.1.2 hz.1.1 (by omega) fin
      · cases q
    · split at q
      · rename_i hz
        simp only [Bool.and_eq_true, decide_eq_true_eq] at hz
        cases q
        exact in_tuple_data rb ra hz.1.2 hz.1.1 (by omega) fin
      · cases q
    · split at q
      · rename_i hz
        cases q
        rw [Bool.and_eq_true] at hz
        obtain ⟨kk, rfl, rfl⟩ := h1.key hz.1
        obtain ⟨a, ks, rfl, ha, la⟩ := h2.dict (X := X) sb hz.2
        have e1 := (kV_find (k := kk) la).1
        cases ry
        refine d_in (o := valV ks kk) (by omega) I (.inl ⟨ks, kk, ha, rfl, rfl⟩) rx fun s' I' => ?_
        exact ⟨.bl _, H, I', by show _ = _; rw [e1], k _ _ (.rp .refl (.bl _))⟩
      · cases q
  | nin =>
    unfold cmpD at q
    split at q
    all_goals first | contradiction | skip
    · cases q
      rw [h1.str.1] at rx
      rw [h2.str.1] at ry
      exact op_notin_str pins s σ H _ _ v u Q I rx ry ⟨_, _, rfl, rfl, k _ _ (.rp .refl (.bl _))⟩
    · split at q
      · rename_i hz
        simp only [Bool.and_eq_true, decide_eq_true_eq] at hz
        cases q
        exact notIn_list_data rb ra hz.1.2 hz.1.1 (by omega) fin
      · cases q
    · split at q
      · rename_i hz
        simp only [Bool.and_eq_true, decide_eq_true_eq] at hz
        cases q
        exact notIn_tuple_data rb ra hz.1.2 hz.1.1 (by omega) fin
      · cases q
    · split at q
      · rename_i hz
        cases q
        rw [Bool.and_eq_true] at hz
        obtain ⟨kk, rfl, rfl⟩ := h1.key hz.1
        obtain ⟨a, ks, rfl, ha, la⟩ := h2.dict (X := X) sb hz.2
        have e1 := (kV_find (k := kk) la).1
        cases ry
        refine d_notIn (o := valV ks kk) (by omega) I (.inl ⟨ks, kk, ha, rfl, rfl⟩) rx fun s' I' => ?_
        exact ⟨.bl _, H, I', by show _ = _; rw [e1], k _ _ (.rp .refl (.bl _))⟩
      · cases q
end
end DL
set_option Elab.async false
set_option linter.all false
set_option maxRecDepth 100000
set_option maxHeartbeats 4000000
/-! DL, part cx: a dict with a last key of another kind: read. -/
namespace DL
open PySem PySem.Spec PyProof.Rows L2
/-! ### any dict: len, truth -/
section
variable {prog : Program} {w : World} {A : Around} {E : Value → Shared → Prop} {s : Shared} {d : Addr} {es : Array DictEntry} {ep : Nat}
theorem len_body_raw {Q : Value → Shared → Prop} (hd : (d == sysModules) = false) (hm : s.heap.DictRaw d es ep) (hfit : (es.size : Int) < 2 ^ 63)
    (h : Q (.int es.size (s.toks + 1)) { s with toks := s.toks + 1 + 1 }) : wpAny (model prog w) A (Builtin.«len» ⟨[.ref d], []⟩) (fun fin s' => ∃ r, fin = .done (.ret r) ∧ Q r s') E s := by
  unfold Builtin.«len»
  refine wpAny_bind (m := oneArg "len" _) (wpAny_pure ?_)
  refine wpAny_bind (m := callSpecial? (.ref d) (Str.ofString "__len__")) (wpAny_callSpecial?_slot (name := Str.ofString "__len__") hm.typeIs F.slot_dict_len
    (call_meetsIn F.slot_dict_len hm.typeIs F.entry_dict_len (F.args_dict_len_1 _) (meets_dict_len_raw d hd) ⟨es, ep, hm, ?_⟩))
  show wpAny _ _ _ _ _ { s with toks := s.toks + 1 }
  refine wpAny_bind (wpAny_holding (wpAny_pure ?_))
  refine wpAny_bind (wpAny_letGo ?_)
  show wpAny _ _ (if ((es.size : Nat) : Int) < 0 then _ else _) _ _ _
  rw [if_neg (by omega)]
  show wpAny _ _ (if ((es.size : Nat) : Int) ≥ 2 ^ 63 then _ else _) _ _ _
  rw [if_neg (by omega)]
  exact wpAny_bind (wpAny_mkInt (wpAny_pure ⟨_, rfl, h⟩))
theorem call_len_rawD {Q : Value → Shared → Prop} (hd : (d == sysModules) = false) (hm : s.heap.DictRaw d es ep) (hfit : (es.size : Int) < 2 ^ 63)
    (h : Q (.int es.size (s.toks + 1)) { s with toks := s.toks + 1 + 1 }) : wpAny (model prog w) A (call (.builtin "len") [.ref d]) Q E s :=
  Calls.call_function_entry kind_len plain_len entry_len (args_len1 _) (len_body_raw hd hm hfit h)
theorem truthy_raw {Q : Bool → Shared → Prop} (hd : (d == sysModules) = false) (hm : s.heap.DictRaw d es ep) (hfit : (es.size : Int) < 2 ^ 63) (hpos : 0 < es.size)
    (h : Q true { s with toks := s.toks + 1 + 1 }) : wpAny (model prog w) A (truthy (.ref d)) Q E s := by
  have hne : ((es.size : Int) != 0) = true := by rw [bne_iff_ne]; omega
  have key : wpAny (model prog w) A (runValue (.builtin "len" ⟨[.ref d], []⟩)) (fun r s' => r = .int es.size (s.toks + 1) ∧ Q true s') E s := by
    refine wpAny_runValue (codeAny_builtin entry_len ?_)
    rw [Around.under_plainId plain_len _]
    exact wpAny_mono (len_body_raw (Q := fun r s' => r = .int es.size (s.toks + 1) ∧ Q true s') hd hm hfit ⟨rfl, h⟩)
      (fun fin s' h' => by obtain ⟨r, rfl, hq⟩ := h'; exact hq) fun _ _ e => e
  unfold truthy
  first
    | refine wpAny_bind (wpAny_callSpecial?_none (name := Str.ofString "__bool__") hm.typeIs noBool_dict ?_)
    | refine wpAny_bind (wpAny_pure (wpAny_bind (wpAny_callSpecial?_none (name := Str.ofString "__bool__") hm.typeIs noBool_dict ?_)))
  first
    | refine wpAny_bind (wpAny_specialOf (name := Str.ofString "__len__") hm.typeIs F.slot_dict_len.lookup ?_)
    | refine wpAny_bind (wpAny_pure (wpAny_bind (wpAny_specialOf (name := Str.ofString "__len__") hm.typeIs F.slot_dict_len.lookup ?_)))
  first
    | exact wpAny_bind (wpAny_mono key (fun r s' h' => by obtain ⟨rfl, hq⟩ := h'; exact wpAny_pure (hne ▸ hq)) fun _ _ e => e)
    | exact wpAny_bind (wpAny_pure (wpAny_bind (wpAny_mono key (fun r s' h' => by obtain ⟨rfl, hq⟩ := h'; exact wpAny_pure (hne ▸ hq)) fun _ _ e => e)))
end
/-! ### the keys as the library's keys -/
def nkK : Key → NestedKey
  | .inl i => .num i
  | .inr x => .text x
theorem nkK_hash (w : World) (k : Key) : (nkK k).hash w = keyH w k := by cases k <;> rfl
theorem nkK_inj {a b : Key} (h : nkK a = nkK b) : a = b := by cases a <;> cases b <;> simp [nkK] at h <;> rw [h]
theorem nkK_is {h : Heap} {k : Key} {v : Value} (e : keyIs k v = true) : IsN h (nkK k) v := by
  rcases keyIs_shape e with ⟨i, t, rfl, rfl⟩ | ⟨x, t, rfl, rfl⟩
  · exact ⟨.int i t, Nat.zero_le _⟩
  · exact ⟨.text x t, Nat.zero_le _⟩
theorem oddN_ne {d : PyData} {kn : NestedKey} (h : oddN d = some kn) (k : Key) : nkK k ≠ kn := by
  cases d with
  | none => cases h; cases k <;> exact fun z => nomatch z
  | tuple ds =>
    obtain ⟨l, _, rfl⟩ := Option.map_eq_some_iff.mp (show (oddL ds).map NestedKey.tup = some kn from h)
    cases k <;> exact fun z => nomatch z
  | _ => cases h
/-- all that is known of such a dict -/
structure XRd (X : Cx) (R H : Hp) (a : Addr) (o : Obj) (xs : List (Key × Value × Value)) (ks : List (Key × V)) (kn : NestedKey) (ko vo : Value) (vk vv : V) (ds : List (PyData × PyData)) (kd vd : PyData) : Prop where
  h : H a = some (.frz o (.ext fun _ => True))
  nm : (a == sysModules) = false
  x : XD X.w o xs kn ko vo
  k : KX ks xs
  q : RpD X.F R ks ds
  on : oddN kd = some kn
  p1 : Rp X.F R vk kd
  r1 : RelV vk ko
  p2 : Rp X.F R vv vd
  r2 : RelV vv vo
theorem Wp.dictC {X : Cx} {R H : Hp} (sb : Sb R H) {v : V} {l : List (PyData × PyData)} (h : Wp X.F R H v (.dict l)) :
    (∃ a ks, v = .ref a ∧ Rd H a (.dK ks) ∧ RpD X.F R ks l) ∨ ∃ a o xs ks kn ko vo vk vv ds kd vd, v = .ref a ∧ XRd X R H a o xs ks kn ko vo vk vv ds kd vd ∧ l = ds ++ [(kd, vd)] := by
  cases h with
  | rp h =>
    cases h with
    | dic h q => exact .inl ⟨_, _, rfl, .inr ⟨_, sb.frz h⟩, q⟩
    | dicX h n x k q o p1 r1 p2 r2 e => exact .inr ⟨_, _, _, _, _, _, _, _, _, _, _, _, rfl, ⟨sb.frz h, n, x, k, q, o, p1, r1, p2, r2⟩, e⟩
  | ownD h q => exact .inl ⟨_, _, rfl, .inl h, q⟩
section
variable {X : Cx} {pins : List (Addr × Obj)} {σ : L2.St} {R H : Hp} {s : Shared} {a : Addr} {o : Obj} {xs : List (Key × Value × Value)} {ks : List (Key × V)} {kn : NestedKey} {ko vo : Value} {vk vv : V} {ds : List (PyData × PyData)} {kd vd : PyData}
/-- the odd key in the heap -/
theorem oddF_is {h : Heap} {d : PyData} {k : NestedKey} (e : oddF d = some k) {v : V} {u : Value} (p : Rp X.F R v d) (r : RelV v u) : NestedIs h k u ∧ k.depth = 0 := by
  cases d <;> first | (cases e; done) | skip
  · cases e; cases p; cases r; exact ⟨.none, rfl⟩
  · cases e; cases p; obtain ⟨t, rfl⟩ := r; exact ⟨.int _ t, rfl⟩
  · cases e; cases p; obtain ⟨t, rfl⟩ := r; exact ⟨.text _ t, rfl⟩
theorem oddL_is {h : Heap} : ∀ {l : List PyData} {ks : List NestedKey}, oddL l = some ks → ∀ {vs : List V} {us : List Value}, RpL X.F R vs l → Vals vs us → NestedAll h ks us ∧ NestedKey.depthAll ks = 0
  | [], _, e, _, _, p, r => by cases e; cases p; cases r; exact ⟨.nil, rfl⟩
  | d :: l, _, e, _, _, p, r => by
    obtain ⟨k, e1, e⟩ := Option.bind_eq_some_iff.mp e
    obtain ⟨ks, e2, rfl⟩ := Option.map_eq_some_iff.mp e
    cases p with
    | cons p1 p2 =>
      cases r with
      | cons r1 r2 =>
        obtain ⟨h1, h2⟩ := oddF_is (X := X) (h := h) e1 p1 r1
        obtain ⟨h3, h4⟩ := oddL_is (h := h) e2 p2 r2
        exact ⟨.cons h1 h3, by show max _ _ = 0; rw [h2, h4]; rfl⟩
theorem oddN_is (I : Inv X pins σ H s) (sb : Sb R H) {d : PyData} {k : NestedKey} (e : oddN d = some k) {v : V} {u : Value} (p : Rp X.F R v d) (r : RelV v u) : IsN s.heap k u ∧ isExactStrKey u = false := by
  cases d with
  | none => cases e; cases p; cases r; exact ⟨⟨.none, Nat.zero_le _⟩, rfl⟩
  | tuple l =>
    obtain ⟨ks, e1, rfl⟩ := Option.map_eq_some_iff.mp (show (oddL l).map NestedKey.tup = some k from e)
    obtain ⟨b, ys, rfl, ht, q⟩ := p.tuple (X := X) sb
    cases r
    obtain ⟨its, rv, ⟨o, ho, hc, n, hd⟩, _⟩ := I.tuple ht
    obtain ⟨h1, h2⟩ := oddL_is (X := X) (h := s.heap) e1 q rv
    exact ⟨⟨.tup ho hc hd (by simpa using h1), by show NestedKey.depthAll ks + 1 ≤ 8; omega⟩, rfl⟩
  | _ => cases e
/-- the entries, as the library's keys -/
def entsN (xs : List (Key × Value × Value)) (kn : NestedKey) (ko vo : Value) : List NEnt := (xs.map fun x => (nkK x.1, x.2.1, x.2.2)) ++ [(kn, ko, vo)]
theorem XRd.ents (I : Inv X pins σ H s) (sb : Sb R H) (r : XRd X R H a o xs ks kn ko vo vk vv ds kd vd) :
    ∃ es ep, s.heap.DictRaw a es ep ∧ s.heap.get? a = some o ∧ o.data = .dict es ep ∧ es.toList = (entsN xs kn ko vo).map (entN X.w) ∧ (∀ x ∈ entsN xs kn ko vo, IsN s.heap x.1 x.2.1) ∧ ((entsN xs kn ko vo).map (·.1)).Nodup ∧ (∃ e ∈ es, isExactStrKey e.key = false) ∧ es.size = ds.length + 1 := by
  obtain ⟨h1, _⟩ := I.hok _ _ r.h
  obtain ⟨es, ep, e1, e2⟩ := r.x.dat
  obtain ⟨i1, i2⟩ := oddN_is I sb r.on r.p1 r.r1
  have e3 : es.toList = (entsN xs kn ko vo).map (entN X.w) := by
    rw [e2]
    unfold entsN
    rw [List.map_append, List.map_map]
    congr 1
    refine List.map_congr_left fun x _ => ?_
    show _ = (⟨(nkK x.1).hash X.w, x.2.1, x.2.2⟩ : DictEntry)
    rw [nkK_hash]
  have hl : es.size = xs.length + 1 := by
    rw [← Array.length_toList, e2]
    simp
  refine ⟨es, ep, ⟨o, h1, r.x.ex, e1⟩, h1, e1, e3, fun x hx => ?_, ?_, ?_, ?_⟩
  · unfold entsN at hx
    rcases List.mem_append.mp hx with hx | hx
    · obtain ⟨y, hy, rfl⟩ := List.mem_map.mp hx
      exact nkK_is (r.x.keys y hy)
    · rw [List.mem_singleton.mp hx]
      exact i1
  · unfold entsN
    rw [List.map_append, List.map_map, List.nodup_append]
    refine ⟨?_, by simp, fun x hx y hy => ?_⟩
    · have e : ((fun x : NEnt => x.1) ∘ fun x : Key × Value × Value => (nkK x.1, x.2.1, x.2.2)) = nkK ∘ (·.1) := rfl
      rw [e, ← List.map_map]
      exact List.pairwise_map.mpr (List.Pairwise.imp (fun h z => h (nkK_inj z)) r.x.nd)
    · obtain ⟨z, hz, rfl⟩ := List.mem_map.mp hx
      have : y = kn := by simpa using hy
      rw [this]
      exact oddN_ne r.on z.1
  · refine ⟨⟨kn.hash X.w, ko, vo⟩, ?_, i2⟩
    rw [← Array.mem_toList_iff, e2]
    simp
  · have h2 : ks.length = xs.length := r.k.length
    have h3 := r.q.len
    omega
theorem XRd.len {A : Around} {E : Value → Shared → Prop} (I : Inv X pins σ H s) (sb : Sb R H) (r : XRd X R H a o xs ks kn ko vo vk vv ds kd vd) {Q : Value → Shared → Prop} (h : ∀ t s', Inv X pins σ H s' → Q (.int (ds.length + 1 : Nat) t) s') :
    wpAny (model X.prog X.w) A (call (.builtin "len") [.ref a]) Q E s := by
  obtain ⟨es, ep, hm, _, _, _, _, _, _, hz⟩ := r.ents I sb
  have hs := r.x.sz
  have h2 : ks.length = xs.length := r.k.length
  have h3 := r.q.len
  refine call_len_rawD r.nm hm (by rw [sizeLine_eq] at hs; omega) ?_
  rw [hz]
  exact h _ _ (I.tok _)
theorem XRd.truth {A : Around} {E : Value → Shared → Prop} (I : Inv X pins σ H s) (sb : Sb R H) (r : XRd X R H a o xs ks kn ko vo vk vv ds kd vd) {Q : Bool → Shared → Prop} (h : ∀ s', Inv X pins σ H s' → Q true s') :
    wpAny (model X.prog X.w) A (truthy (.ref a)) Q E s := by
  obtain ⟨es, ep, hm, _, _, _, _, _, _, hz⟩ := r.ents I sb
  have hs := r.x.sz
  have h2 : ks.length = xs.length := r.k.length
  have h3 := r.q.len
  exact truthy_raw r.nm hm (by rw [sizeLine_eq] at hs; omega) (by omega) (h _ (I.tok _))
theorem KX.look {k : Key} {d : PyData} : ∀ {ds : List (PyData × PyData)} {ks : List (Key × V)} {xs : List (Key × Value × Value)}, KX ks xs → RpD X.F R ks ds → DL.look (kD k) ds = some d → ∃ (j : Nat) (kv vo : Value) (v : V), xs[j]? = some (k, kv, vo) ∧ RelV v vo ∧ Rp X.F R v d
  | [], _, _, _, q, e => by cases q; cases e
  | q0 :: ds, _, _, hk, q, e => by
    cases q with
    | @cons k0 v0 ks d0 _ f h q =>
      cases hk with
      | @cons _ b _ xs hh t =>
        obtain ⟨k1, kv1, vo1⟩ := b
        obtain ⟨rfl, rr⟩ := hh
        have ke : keyEq (kD k0) (kD k) = decide (k0 = k) := by
          cases k0 <;> cases k <;> simp [keyEq, kD]
        unfold DL.look at e
        rw [List.find?_cons, ke] at e
        by_cases z : k0 = k
        · rw [decide_eq_true z] at e
          cases e
          subst z
          exact ⟨0, kv1, vo1, v0, rfl, rr, h⟩
        · rw [decide_eq_false z] at e
          obtain ⟨j, kv, vo, v, e1, e2, e3⟩ := KX.look t q e
          exact ⟨j + 1, kv, vo, v, by simpa using e1, e2, e3⟩
theorem look_app {k d : PyData} {ds : List (PyData × PyData)} {kd vd : PyData} (hk : isKey k = true) (ho : isKey kd = false) (h : DL.look k (ds ++ [(kd, vd)]) = some d) : DL.look k ds = some d := by
  unfold DL.look at *
  rw [List.find?_append] at h
  cases e : ds.find? fun q => keyEq q.1 k with
  | some q => rw [e] at h; exact h
  | none =>
    rw [e] at h
    have z : keyEq kd k = false := by cases kd <;> cases k <;> first | rfl | cases ho | cases hk
    simp [z] at h
theorem XRd.get {A : Around} {E : Value → Shared → Prop} (hu : A.units + 16 < cLine) (I : Inv X pins σ H s) (sb : Sb R H) (r : XRd X R H a o xs ks kn ko vo vk vv ds kd vd) {k : Key} {d : PyData} {u : Value} (ru : RelV (kV k) u) (hl : DL.look (kD k) ds = some d) {Q : Value → Shared → Prop}
    (h : ∀ v w' s', Inv X pins σ H s' → RelV v w' → Rp X.F R v d → Q w' s') : wpAny (model X.prog X.w) A (getItem (.ref a) u) Q E s := by
  obtain ⟨es, ep, hm, ho, hd, he, his, hn, hodd, _⟩ := r.ents I sb
  obtain ⟨j, kv, vo', v, e1, e2, e3⟩ := KX.look r.k r.q hl
  have hk : keyIs k u = true := by
    cases k with
    | inl i => obtain ⟨t, rfl⟩ := ru; exact keyIs_int i t
    | inr x => obtain ⟨t, rfl⟩ := ru; exact keyIs_str x t
  have ku := nkK_is (h := s.heap) hk
  have at_ : (entsN xs kn ko vo)[j]? = some (nkK k, kv, vo') := by
    unfold entsN
    rw [List.getElem?_append_left (by rw [List.length_map]; exact (List.getElem?_eq_some_iff.mp e1).1), List.getElem?_map, e1]
    rfl
  unfold getItem
  try with_reducible refine wpAny_holding ?_
  refine wpAny_bind (wpAny_sequenceKey hm.typeIs (by decide) ?_)
  refine wpAny_bind (wpAny_callSpecial?_slot (name := Str.ofString "__getitem__") hm.typeIs PySem.F.slot_dict_getitem
    (wpAny_call_entry PySem.F.slot_dict_getitem hm.typeIs PySem.F.entry_dict_getitem ?_ (PySem.F.args_dict_getitem_2 _ _)))
  show wpAny _ _ (dictGet a u >>= _) _ _ s
  refine wpAny_bind ?_
  unfold dictGet
  try with_reducible refine wpAny_holding ?_
  refine wpAny_bind (pyHash_key (nkK k) u _ s _ ku.1 (by have := ku.2; show A.units + 1 + _ < _; omega) ?_)
  refine wpAny_bind (find_n (s := { s with toks := s.toks + (nkK k).draws }) (by show A.units + 1 + 8 < _; omega) ku (.inr hodd) ho hd he his hn (fun hno => absurd at_ (hno j _)) fun j2 p hj => ?_)
  have : j2 = j := nodupN hn hj at_
  subst this
  rw [at_] at hj
  cases hj
  refine wpAny_bind (wpAny_dictEntries (s := { s with toks := s.toks + (nkK k).draws }) ho hd ?_)
  rw [entN_at he j2, at_]
  refine wpAny_pure ?_
  exact wpAny_pure ⟨vo', rfl, wpAny_pure (h v vo' _ (I.tok _) e2 e3)⟩
end
end DL
set_option Elab.async false
set_option linter.all false
set_option maxRecDepth 100000
set_option maxHeartbeats 1000000
/-! DL, part h: subscripts, slices, truth, displays. -/
namespace DL
open PySem PySem.Spec PyProof.Rows L2
/-- no slice -/
def notSl : Expr → Bool
  | .Slice _ _ _ _ => false
  | _ => true
theorem plainIx {b : Expr} (h : notSl b = true) : PlainIx b := fun o i => by
  cases b <;> first | rfl | cases h
theorem atI_rp {K : Frg} {R : Hp} {xs : List V} {ds : List PyData} {i : Int} {d : PyData} (l : RpL K R xs ds) (h : ((seqIx ds.length i).bind fun j => ds[j]?) = some d) : ∃ v, atI xs i = some v ∧ Rp K R v d := by
  obtain ⟨j, e1, e2⟩ := Option.bind_eq_some_iff.mp h
  obtain ⟨v, h1, h2⟩ := l.atD e2
  refine ⟨v, ?_, h2⟩
  unfold atI
  rw [l.len]
  have e : ixN ds.length i = some j := e1
  rw [e]
  exact h1
section
variable {X : Cx}
theorem ix_D {k : Nat} (hr : Room k X.A) : IxR X (r2 true X.F subD) := by
  intro value slice pins s σ H x y v u Q I rx ry h hs
  obtain ⟨R, d1, d2, d, sb, h1, h2, q, k⟩ := h
  unfold subD at q
  split at q
  · obtain ⟨a, xs, rfl, ha, la⟩ := h1.list (X := X) sb
    obtain ⟨z, e1, e2⟩ := atI_rp la q
    exact ix_list value slice pins s σ H _ y v u Q I rx ry ⟨a, xs, _, z, rfl, h2.int, .inl ha, e1, k _ _ (.rp .refl e2)⟩ hs
  · obtain ⟨a, xs, rfl, ha, la⟩ := h1.tuple (X := X) sb
    obtain ⟨z, e1, e2⟩ := atI_rp la q
    exact ix_tup value slice pins s σ H _ y v u Q I rx ry ⟨a, xs, _, z, rfl, h2.int, ha, e1, k _ _ (.rp .refl e2)⟩ hs
  · obtain ⟨c, e1, e2⟩ := Option.map_eq_some_iff.mp q
    subst e2
    exact ix_str value slice pins s σ H _ y v u Q I rx ry ⟨_, _, c, h1.str.1, h2.int, h1.str.2, e1, k _ _ (.rp .refl (.str _ (by show (1 : Nat) ≤ sizeLine; decide)))⟩ hs
  · split at q
    · rename_i hz
      obtain ⟨kk, rfl, rfl⟩ := h2.key hz
      rcases h1.dictC (X := X) sb with ⟨a, ks, rfl, ha, la⟩ | ⟨a, o, xs, ks, kn, ko, vo, vk, vv, ds, kd, vd, rfl, xr, rfl⟩
      rotate_left
      · cases rx
        have hu := hr.units
        have ql := look_app (by cases kk <;> rfl) (oddN_key xr.on) q
        exact tail_any (T := "dict") (by obtain ⟨_, _, hm, _⟩ := xr.ents I sb; exact hm.typeIs) PySem.F.slot_dict_getitem.lookup (xr.get (by omega) I sb ry ql fun v' w' s3 I3 rw' p => ⟨v', H, I3, rw', k _ _ (.rp .refl p)⟩) hs
      cases rx
      have e1 := (kV_find (k := kk) la).1
      rw [q] at e1
      obtain ⟨z, e2⟩ := Option.isSome_iff_exists.mp e1
      obtain ⟨d', e3, e4⟩ := (kV_find (k := kk) la).2 z e2
      rw [q] at e3
      cases e3
      have g : DGet H a (kV kk) (some z) := .inl ⟨ks, kk, ha, rfl, e2.symm⟩
      have hu := hr.units
      exact tail_any (dict_typeIs I g) PySem.F.slot_dict_getitem.lookup (d_getItem (by omega) I g ry fun w' s3 I3 rw' => ⟨z, H, I3, rw', k _ _ (.rp .refl e4)⟩) hs
    · cases q
  · cases q
theorem cut_rp {K : Frg} {R : Hp} {xs : List V} {ds : List PyData} (l : RpL K R xs ds) (lo hi : Option Int) :
    RpL K R (cutV xs lo hi) ((ds.drop (clampIx ds.length 0 lo)).take (clampIx ds.length ds.length hi - clampIx ds.length 0 lo)) := by
  have e : ∀ n d o, HT.sIx n d o = clampIx n d o := fun n d o => by cases o <;> rfl
  unfold cutV
  rw [l.len, e, e]
  exact (l.drop _).take _
def rsl (K : Frg) : V → Option Int → Option Int → Hp → VK → Prop := fun x lo hi H Q => ∃ R d1 d, Sb R H ∧ Wp K R H x d1 ∧ slD d1 lo hi = some d ∧ ∀ v H', Mk1 false K R H H' v d → Q v H'
theorem sl_D : SlR X (rsl X.F) := by
  intro pins s σ H x v vl vu lo hi sl Q I rx hs pl pu h
  obtain ⟨R, d1, d, sb, h1, q, k⟩ := h
  unfold slD at q
  split at q
  · cases q
    obtain ⟨a, xs, rfl, ha, la⟩ := h1.list (X := X) sb
    exact sl_list pins s σ H _ v vl vu _ _ sl Q I rx hs pl pu ⟨a, xs, rfl, .inl ha, fun p hp => k _ _ (.lst .refl hp (cut_rp la _ _))⟩
  · cases q
    obtain ⟨a, xs, rfl, ha, la⟩ := h1.tuple (X := X) sb
    refine sl_tupA pins s σ H _ v vl vu _ _ sl Q I rx hs pl pu ⟨a, xs, rfl, ha, fun e => ?_, fun _ p hp => k _ _ (.tup .refl hp (cut_rp la _ _))⟩
    have ec : ∀ n d o, HT.sIx n d o = clampIx n d o := fun n d o => by cases o <;> rfl
    rw [la.len, ec, ec] at e
    rw [e.1, e.2, List.drop_zero, Nat.sub_zero, List.take_length] at k
    cases h1 with
    | rp h1 => exact k _ _ (.rp .refl h1)
  · cases q
/-- a bound of a slice -/
def ResO (K : Frg) (cl : Cls) (W : XK) (R0 H0 : Hp) (G : List Addr) (σ : L2.St) (R : Hp) (Q : Option Int → Hp → Prop) (o : Out (Option Int × DEnv)) : Prop :=
  Ok2 K cl W R0 H0 G o fun i ρ => ∀ R' H', Stt K R0 H0 G ρ σ R' H' → Le R R' → Q i H'
def tO (K : Frg) (cl : Cls) (W : XK) (f : DEnv → Out (Option Int × DEnv)) : TO := fun σ H Q => ∃ R0 H0 G ρ R, Stt K R0 H0 G ρ σ R H ∧ ResO K cl W R0 H0 G σ R Q (f ρ)
variable {cl : Cls} {W : XK}
theorem po_no : PO X none (tO X.F cl W fun ρ => .ok (none, ρ)) := ⟨fun pins s σ H Q I ⟨R0, H0, G, ρ, R, S, h⟩ => po_none.run pins s σ H Q I (h R H S (Le.refl R))⟩
theorem po_so {a : Expr} {e : E} {f : DEnv → OV} (hn : isBor e = none) (h : PE X a (tR X.F cl W e f)) : PO X (some a) (tO X.F cl W fun ρ => (f ρ).bind fun x => (match x.1 with
    | .int i => .ok (some i, x.2)
    | _ => .bad)) := ⟨fun pins s σ H Q I ⟨R0, H0, G, ρ, R, S, q⟩ => (po_some h).run pins s σ H Q I ⟨R0, H0, G, ρ, R, S, resR_iff.mpr ((ok2_bind.mp q).imp fun x ρ1 h v R1 H1 S1 l1 o1 => by
    cases x with
    | int i =>
      have o2 := o1.rp hn
      cases o2
      exact ⟨i, rfl, h R1 H1 S1 l1⟩
    | _ => exact h.elim)⟩⟩
theorem pe_slD {a : Expr} {lo hi : Option Expr} {e ea : E} {fa : DEnv → OV} {fl fh : DEnv → Out (Option Int × DEnv)} {p2 pos : Pos} (hn : isBor e = none) (ha : PE X a (tN X.F cl W ea fa)) (hl : PO X lo (tO X.F cl W fl)) (hh : PO X hi (tO X.F cl W fh)) :
    PE X (.Subscript a (.Slice lo hi none p2) pos) (tN X.F cl W e fun ρ => (fa ρ).bind fun x => (fl x.2).bind fun y => (fh y.2).bind fun z => Out.ofOpt ((opd ea x.1 z.2).bind fun x1 => slD x1 y.1 z.1) z.2) := by
  refine pe_imp (pe_slice sl_D (pe_frz ha) hl hh) fun σ H Q h => ?_
  obtain ⟨R0, H0, G, ρ, R, S, h⟩ := h
  refine ⟨R0, H0, G, ρ, R, S, resR_iff.mpr ((ok2_bind.mp (resN_iff.mp h)).imp fun x ρ1 h v R1 H1 S1 l1 o1 => ⟨R0, H0, G, ρ1, R1, S1, (ok2_bind.mp h).imp fun y ρ2 h R2 H2 S2 l2 => ⟨R0, H0, G, ρ2, R2, S2, (ok2_bind.mp h).imp fun z ρ3 h R3 H3 S3 l3 => ?_⟩⟩)⟩
  obtain ⟨d, ht, h⟩ := ok2_opt.mp h
  obtain ⟨d1, e1, ht⟩ := Option.bind_eq_some_iff.mp ht
  refine ⟨R3, d1, d, S3.sub, opd_ok S3 (o1.mono (l2.trans l3)) e1, ht, fun u H4 m => ?_⟩
  obtain ⟨R4, S4, l4, n⟩ := m.stt S3
  exact h u R4 H4 S4 (((l1.trans l2).trans l3).trans l4) (.new hn (n.mono (fun z => nomatch z)))
/-- xs[::-1] -/
theorem pe_revD {a : Expr} {e ea : E} {fa : DEnv → OV} {k : Nat} {p1 p2 p3 pos : Pos} (hn : isBor e = none) (ha : PE X a (tN X.F cl W ea fa)) (hb : isBor ea = none) :
    PE X (.Subscript a (.Slice none none (some (.UnaryOp .USub (.Constant (.int 1) k p1) p2)) p3) pos) (tN X.F cl W e fun ρ => (fa ρ).bind fun x => (match x.1 with
    | .list l => .ok (.list l.reverse, x.2)
    | _ => .bad)) := by
  refine pe_imp (pe_revL (pe_frz ha)) fun σ H Q h => ?_
  obtain ⟨R0, H0, G, ρ, R, S, h⟩ := h
  refine ⟨R0, H0, G, ρ, R, S, resR_iff.mpr ((ok2_bind.mp (resN_iff.mp h)).imp fun x ρ1 h v R1 H1 S1 l1 o1 => ?_)⟩
  cases x with
  | list l =>
    obtain ⟨a, xs, rfl, ha, la⟩ := Wp.list (X := X) S1.sub (.rp (o1.rp hb))
    refine ⟨a, xs, rfl, .inl ha, fun p hp => ?_⟩
    obtain ⟨R4, S4, l4, n⟩ := (Mk1.lst .refl hp la.rev : Mk1 false X.F R1 H1 _ _ (.list l.reverse)).stt S1
    exact h _ R4 _ S4 (l1.trans l4) (.new hn (n.mono (fun z => nomatch z)))
  | _ => exact h.elim
/-! ### truth -/
theorem tru_D : TruR X (fun x H Q => ∃ R d, Sb R H ∧ Wp X.F R H x d ∧ Q d.truthy H) := by
  intro pins s σ H x v Q I rx h
  obtain ⟨R, d, sb, h1, q⟩ := h
  cases d with
  | none => exact tru_ok pins s σ H x v Q I rx ⟨false, by rw [h1.none]; rfl, q⟩
  | bool b => exact tru_ok pins s σ H x v Q I rx ⟨b, by rw [h1.bool]; rfl, q⟩
  | int i => exact tru_ok pins s σ H x v Q I rx ⟨_, by rw [h1.int]; rfl, q⟩
  | str y => exact tru_ok pins s σ H x v Q I rx ⟨_, by rw [h1.str.1]; exact ⟨h1.str.2, rfl⟩, q⟩
  | list l =>
    obtain ⟨a, xs, rfl, ha, la⟩ := h1.list (X := X) sb
    refine tru_ok pins s σ H _ v Q I rx ⟨_, .inl ⟨xs, .inl ha, rfl⟩, ?_⟩
    have e : (!xs.isEmpty) = (!l.isEmpty) := by cases la <;> rfl
    rw [e]
    exact q
  | tuple l =>
    obtain ⟨a, xs, rfl, ha, la⟩ := h1.tuple (X := X) sb
    refine tru_ok pins s σ H _ v Q I rx ⟨_, .inr (.inl ⟨xs, ha, rfl⟩), ?_⟩
    have e : (!xs.isEmpty) = (!l.isEmpty) := by cases la <;> rfl
    rw [e]
    exact q
  | dict l =>
    rcases h1.dictC (X := X) sb with ⟨a, xs, rfl, ha, la⟩ | ⟨a, o, xs, ks, kn, ko, vo, vk, vv, ds, kd, vd, rfl, xr, rfl⟩
    rotate_left
    · cases rx
      refine xr.truth I sb fun s' I' => ⟨H, I', ?_⟩
      have e : PyData.truthy (.dict (ds ++ [(kd, vd)])) = true := by
        show (!(ds ++ [(kd, vd)]).isEmpty) = true
        cases ds <;> rfl
      rw [e] at q
      exact q
    cases rx
    have e : (!xs.isEmpty) = (!l.isEmpty) := by cases la <;> rfl
    refine d_truth I ha fun s' I' => ⟨H, I', ?_⟩
    rw [e]
    exact q
end
end DL
set_option Elab.async false
set_option linter.all false
set_option maxRecDepth 100000
set_option maxHeartbeats 1000000
/-! DL, part i: names, constants, tests, displays. -/
namespace DL
open PySem PySem.Spec PyProof.Rows L2
section
variable {K : Frg} {cl : Cls} {W : XK} {e e' : E} {f : DEnv → OV}
theorem tN_e (h : isBor e = none) (h' : isBor e' = none) (ho : old e = old e') : tN K cl W e f = tN K cl W e' f := by
  have q : ∀ (R0 H0 R : Hp) (G : List Addr) (σ : L2.St) (Q : VK) (o : OV), ResN K cl W R0 H0 G e σ R Q o = ResN K cl W R0 H0 G e' σ R Q o := fun R0 H0 R G σ Q o => by
    cases o with
    | ok x => simp only [ResN, OpN, h, h', ho]
    | exc c d => rfl
    | bad => rfl
  funext σ H Q
  simp only [tN, q]
end
/-- an expression that is no name lent -/
abbrev tV (K : Frg) (cl : Cls) (W : XK) (f : DEnv → OV) : TE := tN K cl W (.k .none) f
section
variable {X : Cx} {cl : Cls} {W : XK} {e ea eb ec : E} {f fa fb : DEnv → OV} {a b c ex : Expr} {pos : Pos}
/-- a list, a dict of it is new -/
abbrev tF (K : Frg) (cl : Cls) (W : XK) (f : DEnv → OV) : TE := tN K cl W (.lst []) f
theorem tN_up (h : isBor e = none) {e' : E} (h' : isBor e' = none) (ho : old e = true → old e' = true) (p : PE X ex (tN X.F cl W e f)) : PE X ex (tN X.F cl W e' f) :=
  pe_imp p fun σ H Q ⟨R0, H0, G, ρ, R, S, q⟩ => ⟨R0, H0, G, ρ, R, S, resN_iff.mpr ((resN_iff.mp q).imp fun d ρ1 k v R' H' S' l n => k v R' H' S' l (.new h' ((by unfold OpN at n; rw [h] at n; exact n : NewP (old e) X.F ρ1 σ R' H0 H' v d).mono ho)))⟩
theorem to_tV (h : isBor e = none) (p : PE X ex (tN X.F cl W e f)) : PE X ex (tV X.F cl W f) := tN_up h rfl (fun _ => rfl) p
theorem of_tV (h : isBor e = none) (ho : old e = true) (p : PE X ex (tV X.F cl W f)) : PE X ex (tN X.F cl W e f) := tN_up rfl h (fun _ => ho) p
theorem of_tF (h : isBor e = none) (p : PE X ex (tF X.F cl W f)) : PE X ex (tN X.F cl W e f) := tN_up rfl h (fun z => by cases z) p
/-- a reading that hands back a known value at once -/
theorem pe_vD {v : V} {d : PyData} (p : PE X ex (tC v)) (h : ∀ R, Rp X.F R v d) : PE X ex (tV X.F cl W fun ρ => .ok (d, ρ)) :=
  pe_imp p fun σ H Q ⟨R0, H0, G, ρ, R, S, q⟩ => q v R H S (Le.refl R) (.new rfl (.rp (h R)))
theorem pe_getV {i : Nat} (p : PE X ex (tVar i)) : PE X ex (tV X.F cl W (getV i)) := by
  refine ⟨fun pins s σ H Q I ⟨R0, H0, G, ρ, R, S, q⟩ => ?_⟩
  unfold getV at q
  split at q
  · rename_i d hd
    obtain ⟨v, e1, e2⟩ := S.sl i _ hd
    exact p.run pins s σ H Q I ⟨v, e1, q v R H S (Le.refl R) (.new rfl (.rp e2))⟩
  · rename_i l hd
    obtain ⟨a, xs, e1, S2, l2, r2⟩ := S.freezeOwn hd
    exact p.run pins s σ H Q I ⟨_, e1, q _ _ H S2 l2 (.new rfl (.rp r2))⟩
  · rename_i l hd
    obtain ⟨a, xs, e1, e2, fz⟩ := S.freezeOwnD hd
    refine thn (p.run pins s σ H (fun v H' => v = .ref a ∧ H' = H) I ⟨_, e1, rfl, rfl⟩) fun u s1 ⟨v, H', I', r, ev, eh⟩ => ?_
    subst ev eh
    obtain ⟨od, I2⟩ := I'.lock e2 trivial
    obtain ⟨S2, l2, r2⟩ := fz od
    exact ⟨_, _, I2, r, q _ _ _ S2 l2 (.new rfl (.rp r2))⟩
  · exact q.elim
theorem pe_getB {i : Nat} (p : PE X ex (tVar i)) : PE X ex (tN X.F cl W (.bor i) (getB i)) := pe_imp p fun σ H Q ⟨R0, H0, G, ρ, R, S, q⟩ => by
  unfold getB at q
  split at q
  · rename_i l hd
    obtain ⟨a, xs, e1, _⟩ := S.sl i _ hd
    exact ⟨_, e1, q _ R H S (Le.refl R) e1⟩
  · rename_i l hd
    obtain ⟨a, xs, e1, _⟩ := S.sl i _ hd
    exact ⟨_, e1, q _ R H S (Le.refl R) e1⟩
  · exact q.elim
/-! ### tests -/
/-- what isTrue does with it: its value's truth -/
def plainT : Expr → Bool
  | .UnaryOp .Not _ _ => false
  | .BoolOp _ _ _ => false
  | .IfExp _ _ _ _ => false
  | .Compare _ _ _ _ => false
  | _ => true
theorem plainT_is {e : Expr} (h : plainT e = true) (env : Env) (whole : Sem Value) : isTrue e env whole = (do let v ← whole; standAt e.pos; holding [v] (truthy v)) := by
  cases e <;> first | rfl | cases h | skip
  rename_i op _ _
  cases op <;> first | rfl | cases h
theorem pt_truD (hp : plainT a = true) (ha : PE X a (tN X.F cl W e f)) : PT X a (tT X.F cl W fun ρ => tru e (f ρ)) := by
  refine ⟨fun pins s σ H Q I ⟨R0, H0, G, ρ, R, S, h⟩ => ?_⟩
  refine isTrue_plain (thn ((pe_frz ha).run pins s σ H (fun v H' => ∃ R' d, Sb R' H' ∧ Wp X.F R' H' v d ∧ Q d.truthy H') I ⟨R0, H0, G, ρ, R, S, resR_iff.mpr ((ok2_bind.mp (resT_iff.mp h)).imp fun x ρ1 h v R1 H1 S1 l1 o1 => ?_)⟩) fun v s1 ⟨x, H1, I1, r1, q1⟩ => tru_D pins s1 σ H1 x v Q I1 r1 q1) (plainT_is hp X.env _)
  obtain ⟨d, ht, h⟩ := ok2_opt.mp h
  obtain ⟨d1, e1, ht⟩ := Option.map_eq_some_iff.mp ht
  subst ht
  exact ⟨R1, d1, S1.sub, opd_ok S1 o1 e1, h R1 H1 S1 l1⟩
theorem pt_impT {t t' : TT} (h : PT X ex t) (k : ∀ σ H Q, t' σ H Q → t σ H Q) : PT X ex t' := pt_imp h k
theorem pw_imp {t t' : TT} (h : PW X ex t) (k : ∀ σ H Q, t' σ H Q → t σ H Q) : PW X ex t' := ⟨fun whole pins s σ H Q I q => h.run whole pins s σ H Q I (k σ H Q q)⟩
/-- a truth value as a datum -/
def bl1 (o : Out (Bool × DEnv)) : OV := o.bind fun x => .ok (.bool x.1, x.2)
theorem pt_notD {ft : DEnv → Out (Bool × DEnv)} (ha : PT X a (tT X.F cl W ft)) : PT X (.UnaryOp .Not a pos) (tT X.F cl W fun ρ => (ft ρ).bind fun x => .ok (!x.1, x.2)) :=
  pt_imp (pt_not ha) fun σ H Q ⟨R0, H0, G, ρ, R, S, h⟩ => ⟨R0, H0, G, ρ, R, S, resT_iff.mpr ((ok2_bind.mp (resT_iff.mp h)).imp fun b ρ1 h => h)⟩
theorem pt_ok {v : V} {R : Hp} {H : Hp} {K : Frg} {b : Bool} {ρ : DEnv} {σ : L2.St} {H0 : Hp} (n : OpN K (.k .none) ρ σ R H0 H v (.bool b)) : v = .bl b := by
  have n' : NewP true K ρ σ R H0 H v (.bool b) := n
  cases n' with
  | rp h _ => cases h; rfl
/-- a comparison's truth: its value -/
theorem pt_boolD {t : TE} (hp : PT X ex (tTest t)) (k : ∀ σ H Q, tV X.F cl W f σ H Q → t σ H Q) : PT X ex (tT X.F cl W fun ρ => (f ρ).bind fun x => (match x.1 with
    | .bool b => .ok (b, x.2)
    | _ => .bad)) := pt_imp hp fun σ H Q ⟨R0, H0, G, ρ, R, S, h⟩ => k σ H _ ⟨R0, H0, G, ρ, R, S, resN_iff.mpr ((ok2_bind.mp (resT_iff.mp h)).imp fun x ρ1 h v R1 H1 S1 l1 o1 => by
    cases x with
    | bool b => exact ⟨b, pt_ok o1, h R1 H1 S1 l1⟩
    | _ => exact h.elim)⟩
/-! ### and, or -/
/-- a and b: by a's truth -/
def andD (fa fb : DEnv → OV) : DEnv → OV := fun ρ => (fa ρ).bind fun x => if x.1.truthy then fb x.2 else .ok x
def orD (fa fb : DEnv → OV) : DEnv → OV := fun ρ => (fa ρ).bind fun x => if x.1.truthy then .ok x else fb x.2
theorem tru_k (o : OV) : tru (.k .none) o = o.bind fun x => .ok (x.1.truthy, x.2) := by cases o <;> rfl
theorem pe_andD {rest : List Expr} (ha : PE X a (tV X.F cl W fa)) (hb : PE X (.BoolOp .And (b :: rest) pos) (tV X.F cl W fb)) : PE X (.BoolOp .And (a :: b :: rest) pos) (tV X.F cl W (andD fa fb)) := by
  refine ⟨fun pins s σ H Q I h => ?_⟩
  obtain ⟨R0, H0, G, ρ, R, S, h⟩ := h
  refine BoolOp_and (thn ((pe_frz ha).run pins s σ H (fun v H' => ∃ R' d ρ1, Stt X.F R0 H0 G ρ1 σ R' H' ∧ Le R R' ∧ Rp X.F R' v d ∧ Ok2 X.F cl W R0 H0 G (if d.truthy then fb ρ1 else .ok (d, ρ1)) fun d ρ => ∀ v R' H', Stt X.F R0 H0 G ρ σ R' H' → Le R R' → OpN X.F (.k .none) ρ σ R' H0 H' v d → Q v H') I ⟨R0, H0, G, ρ, R, S, resR_iff.mpr ((ok2_bind.mp (resN_iff.mp h)).imp fun x ρ1 h v R1 H1 S1 l1 o1 => ⟨R1, x, ρ1, S1, l1, o1.rp rfl, h⟩)⟩) fun v s1 ⟨x, H1, I1, r1, R1, d, ρ1, S1, l1, p1, q1⟩ => ?_)
  refine thn (tru_D pins s1 σ H1 x v (fun c H2 => c = d.truthy ∧ H2 = H1) I1 r1 ⟨R1, d, S1.sub, .rp p1, rfl, rfl⟩) fun c s2 hc => ?_
  obtain ⟨H2, I2, e1, e2⟩ := hc
  rw [e2] at I2
  rw [← e1] at q1
  cases c with
  | true => exact hb.run pins s2 σ H1 Q I2 ⟨R0, H0, G, ρ1, R1, S1, resN_iff.mpr (Ok2.imp q1 fun d ρ h v R' H' S l o => h v R' H' S (l1.trans l) o)⟩
  | false => exact ⟨x, H1, I2, r1, q1 x R1 H1 S1 l1 (.new rfl (.rp p1))⟩
theorem pe_orD {rest : List Expr} (ha : PE X a (tV X.F cl W fa)) (hb : PE X (.BoolOp .Or (b :: rest) pos) (tV X.F cl W fb)) : PE X (.BoolOp .Or (a :: b :: rest) pos) (tV X.F cl W (orD fa fb)) := by
  refine ⟨fun pins s σ H Q I h => ?_⟩
  obtain ⟨R0, H0, G, ρ, R, S, h⟩ := h
  refine BoolOp_or (thn ((pe_frz ha).run pins s σ H (fun v H' => ∃ R' d ρ1, Stt X.F R0 H0 G ρ1 σ R' H' ∧ Le R R' ∧ Rp X.F R' v d ∧ Ok2 X.F cl W R0 H0 G (if d.truthy then .ok (d, ρ1) else fb ρ1) fun d ρ => ∀ v R' H', Stt X.F R0 H0 G ρ σ R' H' → Le R R' → OpN X.F (.k .none) ρ σ R' H0 H' v d → Q v H') I ⟨R0, H0, G, ρ, R, S, resR_iff.mpr ((ok2_bind.mp (resN_iff.mp h)).imp fun x ρ1 h v R1 H1 S1 l1 o1 => ⟨R1, x, ρ1, S1, l1, o1.rp rfl, h⟩)⟩) fun v s1 ⟨x, H1, I1, r1, R1, d, ρ1, S1, l1, p1, q1⟩ => ?_)
  refine thn (tru_D pins s1 σ H1 x v (fun c H2 => c = d.truthy ∧ H2 = H1) I1 r1 ⟨R1, d, S1.sub, .rp p1, rfl, rfl⟩) fun c s2 hc => ?_
  obtain ⟨H2, I2, e1, e2⟩ := hc
  rw [e2] at I2
  rw [← e1] at q1
  cases c with
  | false => exact hb.run pins s2 σ H1 Q I2 ⟨R0, H0, G, ρ1, R1, S1, resN_iff.mpr (Ok2.imp q1 fun d ρ h v R' H' S l o => h v R' H' S (l1.trans l) o)⟩
  | true => exact ⟨x, H1, I2, r1, q1 x R1 H1 S1 l1 (.new rfl (.rp p1))⟩
theorem pw_andD {rest : List Expr} (ha : PT X a (tT X.F cl W fun ρ => tru (.k .none) (fa ρ))) (hb : PW X (.BoolOp .And (b :: rest) pos) (tT X.F cl W fun ρ => tru (.k .none) (fb ρ))) :
    PW X (.BoolOp .And (a :: b :: rest) pos) (tT X.F cl W fun ρ => tru (.k .none) (andD fa fb ρ)) := pw_imp (pw_and ha hb) fun σ H Q ⟨R0, H0, G, ρ, R, S, h⟩ => ⟨R0, H0, G, ρ, R, S, by
    simp only [tru_k] at h ⊢
    refine resT_iff.mpr (ok2_bind.mpr ((ok2_bind.mp (ok2_bind.mp (resT_iff.mp h))).imp fun x ρ1 h R1 H1 S1 l1 => ?_))
    show if x.truthy = true then _ else _
    have h : Ok2 X.F cl W R0 H0 G (if x.truthy = true then fb ρ1 else .ok (x, ρ1)) _ := h
    cases hx : x.truthy with
    | true =>
      rw [hx] at h
      refine ⟨R0, H0, G, ρ1, R1, S1, ?_⟩
      simp only [tru_k]
      exact resT_iff.mpr (ok2_bind.mpr (Ok2.imp h fun y ρ2 h R2 H2 S2 l2 => h R2 H2 S2 (l1.trans l2)))
    | false =>
      rw [hx] at h
      have h := h R1 H1 S1 l1
      rw [hx] at h
      exact h⟩
theorem pw_orD {rest : List Expr} (ha : PT X a (tT X.F cl W fun ρ => tru (.k .none) (fa ρ))) (hb : PW X (.BoolOp .Or (b :: rest) pos) (tT X.F cl W fun ρ => tru (.k .none) (fb ρ))) :
    PW X (.BoolOp .Or (a :: b :: rest) pos) (tT X.F cl W fun ρ => tru (.k .none) (orD fa fb ρ)) := pw_imp (pw_or ha hb) fun σ H Q ⟨R0, H0, G, ρ, R, S, h⟩ => ⟨R0, H0, G, ρ, R, S, by
    simp only [tru_k] at h ⊢
    refine resT_iff.mpr (ok2_bind.mpr ((ok2_bind.mp (ok2_bind.mp (resT_iff.mp h))).imp fun x ρ1 h R1 H1 S1 l1 => ?_))
    show if x.truthy = true then _ else _
    have h : Ok2 X.F cl W R0 H0 G (if x.truthy = true then .ok (x, ρ1) else fb ρ1) _ := h
    cases hx : x.truthy with
    | false =>
      rw [hx] at h
      refine ⟨R0, H0, G, ρ1, R1, S1, ?_⟩
      simp only [tru_k]
      exact resT_iff.mpr (ok2_bind.mpr (Ok2.imp h fun y ρ2 h R2 H2 S2 l2 => h R2 H2 S2 (l1.trans l2)))
    | true =>
      rw [hx] at h
      have h := h R1 H1 S1 l1
      rw [hx] at h
      exact h⟩
theorem pe_iteD {ft : DEnv → Out (Bool × DEnv)} (hc : PT X c (tT X.F cl W ft)) (ha : PE X a (tV X.F cl W fa)) (hb : PE X b (tV X.F cl W fb)) :
    PE X (.IfExp c a b pos) (tV X.F cl W fun ρ => (ft ρ).bind fun x => if x.1 then fa x.2 else fb x.2) := pe_imp (pe_ifExp hc ha hb) fun σ H Q ⟨R0, H0, G, ρ, R, S, h⟩ => ⟨R0, H0, G, ρ, R, S, resT_iff.mpr ((ok2_bind.mp (resN_iff.mp h)).imp fun x ρ1 h R1 H1 S1 l1 => by
    cases x with
    | true => exact ⟨R0, H0, G, ρ1, R1, S1, resN_iff.mpr (Ok2.imp h fun d ρ h v R' H' S l o => h v R' H' S (l1.trans l) o)⟩
    | false => exact ⟨R0, H0, G, ρ1, R1, S1, resN_iff.mpr (Ok2.imp h fun d ρ h v R' H' S l o => h v R' H' S (l1.trans l) o)⟩)⟩
theorem pe_notD (ha : PE X a (tN X.F cl W e f)) : PE X (.UnaryOp .Not a pos) (tV X.F cl W fun ρ => (f ρ).bind fun x => Out.ofOpt ((opd e x.1 x.2).map fun d => .bool (!d.truthy)) x.2) := by
  refine ⟨fun pins s σ H Q I h => ?_⟩
  obtain ⟨R0, H0, G, ρ, R, S, h⟩ := h
  refine UnaryOp_ (thn ((pe_frz ha).run pins s σ H (fun v H' => ∃ R' d, Sb R' H' ∧ Wp X.F R' H' v d ∧ Q (.bl (!d.truthy)) H') I ⟨R0, H0, G, ρ, R, S, resR_iff.mpr ((ok2_bind.mp (resN_iff.mp h)).imp fun x ρ1 h v R1 H1 S1 l1 o1 => ?_)⟩) fun v s1 ⟨x, H1, I1, r1, R1, d, sb, p1, q1⟩ => ?_)
  · obtain ⟨d, ht, h⟩ := ok2_opt.mp h
    obtain ⟨d1, e1, ht⟩ := Option.map_eq_some_iff.mp ht
    subst ht
    exact ⟨R1, d1, S1.sub, opd_ok S1 o1 e1, h _ R1 H1 S1 l1 (.new rfl (.rp (.bl _)))⟩
  · exact not_of (thn (tru_D pins s1 σ H1 x v (fun c H2 => Q (.bl (!c)) H2) I1 r1 ⟨R1, d, sb, p1, q1⟩) fun c s2 ⟨H2, I2, q2⟩ => ⟨.bl (!c), H2, I2, rfl, q2⟩)
/-! ### is None -/
theorem Rp.isN {K : Frg} {R : Hp} {v : V} {d : PyData} (h : Rp K R v d) : decide (v = .non) = isNoneD d := by
  cases h <;> simp [isNoneD]
theorem t_isN {K : Frg} {σ : L2.St} {H : Hp} {Q : VK} (h : tV K cl W (fun ρ => (f ρ).bind fun x => .ok (.bool (isNoneD x.1), x.2)) σ H Q) : tIsN (tR K cl W (.k .none) f) σ H Q := by
  obtain ⟨R0, H0, G, ρ, R, S, h⟩ := h
  refine ⟨R0, H0, G, ρ, R, S, resR_iff.mpr ((ok2_bind.mp (resN_iff.mp h)).imp fun x ρ1 h v R1 H1 S1 l1 o1 => ?_)⟩
  show Q (.bl (decide (v = .non))) H1
  rw [(o1.rp rfl).isN]
  exact h _ R1 H1 S1 l1 (.new rfl (.rp (.bl _)))
theorem t_notN {K : Frg} {σ : L2.St} {H : Hp} {Q : VK} (h : tV K cl W (fun ρ => (f ρ).bind fun x => .ok (.bool (!isNoneD x.1), x.2)) σ H Q) : tNotN (tR K cl W (.k .none) f) σ H Q := by
  obtain ⟨R0, H0, G, ρ, R, S, h⟩ := h
  refine ⟨R0, H0, G, ρ, R, S, resR_iff.mpr ((ok2_bind.mp (resN_iff.mp h)).imp fun x ρ1 h v R1 H1 S1 l1 o1 => ?_)⟩
  show Q (.bl (!decide (v = .non))) H1
  rw [(o1.rp rfl).isN]
  exact h _ R1 H1 S1 l1 (.new rfl (.rp (.bl _)))
theorem pe_isND {j : Nat} {pos' : Pos} (ha : PE X a (tV X.F cl W f)) : PE X (.Compare a [.Is] [.Constant .none j pos'] pos) (tV X.F cl W fun ρ => (f ρ).bind fun x => .ok (.bool (isNoneD x.1), x.2)) :=
  pe_imp (pe_cmp (pc_isN (pe_frz ha))) fun σ H Q h => t_isN h
theorem pe_notND {j : Nat} {pos' : Pos} (ha : PE X a (tV X.F cl W f)) : PE X (.Compare a [.IsNot] [.Constant .none j pos'] pos) (tV X.F cl W fun ρ => (f ρ).bind fun x => .ok (.bool (!isNoneD x.1), x.2)) :=
  pe_imp (pe_cmp (pc_notN (pe_frz ha))) fun σ H Q h => t_notN h
/-- a test of what is a truth value anyway -/
theorem pt_boolV {t : TE} (hp : PT X ex (tTest t)) (hb : ∀ ρ d ρ', f ρ = .ok (d, ρ') → ∃ b, d = .bool b) (k : ∀ σ H Q, tV X.F cl W f σ H Q → t σ H Q) : PT X ex (tT X.F cl W fun ρ => tru (.k .none) (f ρ)) :=
  pt_imp hp fun σ H Q ⟨R0, H0, G, ρ, R, S, h⟩ => k σ H _ ⟨R0, H0, G, ρ, R, S, by
    cases hf : f ρ with
    | bad => simp only [hf] at h; exact h
    | exc c d => simp only [hf] at h; exact h
    | ok x =>
      obtain ⟨d, ρ1⟩ := x
      obtain ⟨b, rfl⟩ := hb ρ d ρ1 hf
      simp only [hf] at h
      exact fun v R1 H1 S1 l1 o1 => ⟨b, pt_ok o1, h R1 H1 S1 l1⟩⟩
theorem pt_iteD {fta ftb ftc : DEnv → Out (Bool × DEnv)} (hc : PT X c (tT X.F cl W ftc)) (ha : PT X a (tT X.F cl W fta)) (hb : PT X b (tT X.F cl W ftb)) :
    PT X (.IfExp c a b pos) (tT X.F cl W fun ρ => (ftc ρ).bind fun x => if x.1 then fta x.2 else ftb x.2) := by
  refine ⟨fun pins s σ H Q I ⟨R0, H0, G, ρ, R, S, h⟩ => ?_⟩
  have e : isTrue (.IfExp c a b pos) X.env (eval (.IfExp c a b pos) X.env) = (do if ← isTrue c X.env (eval c X.env) then isTrue a X.env (eval a X.env) else isTrue b X.env (eval b X.env)) := rfl
  rw [e]
  refine wpAny_bind (thn (hc.run pins s σ H (fun d H1 => (if d = true then tT X.F cl W fta else tT X.F cl W ftb) σ H1 Q) I ⟨R0, H0, G, ρ, R, S, resT_iff.mpr ((ok2_bind.mp (resT_iff.mp h)).imp fun x ρ1 h R1 H1 S1 l1 => ?_)⟩) fun d s1 ⟨H1, I1, q1⟩ => ?_)
  · cases x with
    | true => exact ⟨R0, H0, G, ρ1, R1, S1, resT_iff.mpr (Ok2.imp h fun d ρ h R' H' S l => h R' H' S (l1.trans l))⟩
    | false => exact ⟨R0, H0, G, ρ1, R1, S1, resT_iff.mpr (Ok2.imp h fun d ρ h R' H' S l => h R' H' S (l1.trans l))⟩
  · cases d with
    | true => exact ha.run pins s1 σ H1 Q I1 q1
    | false => exact hb.run pins s1 σ H1 Q I1 q1
end
end DL
set_option Elab.async false
set_option linter.all false
set_option maxRecDepth 100000
set_option maxHeartbeats 1000000
/-! DL, part j: lists of expressions, displays, chains, calls of defs. -/
namespace DL
open PySem PySem.Spec PyProof.Rows L2
def notStar : Expr → Bool
  | .Starred _ _ => false
  | _ => true
theorem starEach_cons {e : Expr} (h : notStar e = true) (es : List Expr) (env : Env) : starEach (e :: es) env = (false, eval e env) :: starEach es env := by
  cases e <;> first | rfl | cases h
theorem plain_star : ∀ {es : List Expr}, es.all notStar = true → ∀ (env : Env) (pos : Pos), (backTo pos (starEach es env)).any (·.1) = false
  | [], _, _, _ => rfl
  | e :: es, h, env, pos => by
    rw [List.all_cons, Bool.and_eq_true] at h
    rw [starEach_cons h.1]
    have q := plain_star h.2 env pos
    cases es with
    | nil => rfl
    | cons e2 es2 =>
      rw [List.all_cons, Bool.and_eq_true] at h
      rw [starEach_cons h.2.1] at q ⊢
      show (false || _) = false
      rw [Bool.false_or]
      exact q
section
variable {K : Frg} {R H : Hp} {σ : L2.St}
theorem OpVs.len {es : List E} {vs : List V} {ds : List PyData} (h : OpVs K σ R es vs ds) : vs.length = es.length ∧ ds.length = es.length := by
  induction h with
  | nil => exact ⟨rfl, rfl⟩
  | cons _ _ ih => exact ⟨congrArg Nat.succ ih.1, congrArg Nat.succ ih.2⟩
theorem OpVs.rp {es : List E} {vs : List V} {ds : List PyData} (h : OpVs K σ R es vs ds) (hn : (es.all fun e => (isBor e).isNone) = true) : RpL K R vs ds := by
  induction h with
  | nil => exact .nil
  | cons h _ ih =>
    rw [List.all_cons, Bool.and_eq_true] at hn
    exact .cons (h.rp (Option.isNone_iff_eq_none.mp hn.1)) (ih hn.2)
end
section
variable {X : Cx} {cl : Cls} {W : XK} {e : E} {es : List E} {f fa fb fc : DEnv → OV} {fs : DEnv → Out (List PyData × DEnv)} {a b c : Expr} {as : List Expr} {pos : Pos}
theorem pa_nilD : PA X [] (tA X.F cl W [] fun ρ => .ok ([], ρ)) := pa_imp pa_nil fun σ H Q ⟨R0, H0, G, ρ, R, S, h⟩ => h [] R H S (Le.refl R) .nil
theorem pa_consD (ns : notStar a = true) (ha : PE X a (tN X.F cl W e f)) (hs : PA X as (tA X.F cl W es fs)) : PA X (a :: as) (tA X.F cl W (e :: es) fun ρ => (f ρ).bind fun x => (fs x.2).bind fun y => .ok (x.1 :: y.1, y.2)) :=
  pa_imp (pa_cons (pe_frz ha) hs (starEach_cons ns as X.env)) fun σ H Q ⟨R0, H0, G, ρ, R, S, h⟩ => ⟨R0, H0, G, ρ, R, S, resR_iff.mpr ((ok2_bind.mp (resA_iff.mp h)).imp fun x ρ1 h v R1 H1 S1 l1 o1 => ⟨R0, H0, G, ρ1, R1, S1,
    resA_iff.mpr ((ok2_bind.mp h).imp fun y ρ2 h vs R2 H2 S2 l2 o2 => h (v :: vs) R2 H2 S2 (l1.trans l2) (.cons (o1.mono l2) o2))⟩)⟩
theorem small_line {n : Nat} (h : n ≤ 1000) : n ≤ sizeLine := Nat.le_trans h (by decide)
theorem pe_tupD {x1 : Nat} (hs : PA X as (tA X.F cl W es fs)) (hn : (es.all fun e => (isBor e).isNone) = true) (hl : es.length ≤ 1000) : PE X (.Tuple as x1 pos) (tF X.F cl W fun ρ => (fs ρ).bind fun x => .ok (.tuple x.1, x.2)) :=
  pe_imp (pe_tup hs) fun σ H Q ⟨R0, H0, G, ρ, R, S, h⟩ => ⟨R0, H0, G, ρ, R, S, resA_iff.mpr ((ok2_bind.mp (resN_iff.mp h)).imp fun ds ρ1 h vs R1 H1 S1 l1 o1 => by
    refine ⟨small_line (by rw [o1.len.1]; exact hl), fun p hp => ?_⟩
    exact h _ R1 _ (S1.alloc hp) l1 (.new rfl (.tup (S1.fresh hp) upd_same (o1.rp hn))))⟩
theorem pe_lstD (hs : PA X as (tA X.F cl W es fs)) (hn : (es.all fun e => (isBor e).isNone) = true) (hl : es.length ≤ 1000) : PE X (.List as pos) (tF X.F cl W fun ρ => (fs ρ).bind fun x => .ok (.list x.1, x.2)) :=
  pe_imp (pe_lst hs) fun σ H Q ⟨R0, H0, G, ρ, R, S, h⟩ => ⟨R0, H0, G, ρ, R, S, resA_iff.mpr ((ok2_bind.mp (resN_iff.mp h)).imp fun ds ρ1 h vs R1 H1 S1 l1 o1 => by
    refine ⟨small_line (by rw [o1.len.1]; exact hl), fun p hp => ?_⟩
    exact h _ R1 _ (S1.alloc hp) l1 (.new rfl (.lst (S1.fresh hp) upd_same (o1.rp hn))))⟩
/-! ### a chain -/
theorem Mk1.bl {b : Bool} {K : Frg} {R H H' : Hp} {v : V} {k : Bool} (m : Mk1 b K R H H' v (.bool k)) : v = .bl k := by
  cases m with
  | rp g h _ => cases h; rfl
theorem lm2 {o1 o2 : CmpO} : lastMarks [cmpOp o1, cmpOp o2] [b, c] = behindInMarks (cmpOp o2) c := rfl
abbrev chainF (o1 o2 : CmpO) (fa fb fc : DEnv → OV) : DEnv → OV := fun ρ => (fa ρ).bind fun x => (fb x.2).bind fun y => (match cmpD o1 x.1 y.1 with
    | some true => (fc y.2).bind fun z => Out.ofOpt ((cmpD o2 y.1 z.1).map .bool) z.2
    | some false => .ok (.bool false, y.2)
    | none => .bad)
theorem t_chain {K : Frg} {o1 o2 : CmpO} {σ : L2.St} {H : Hp} {Q : VK} (h : tV K cl W (chainF o1 o2 fa fb fc) σ H Q) : tChain (r2 false K (cmpB o1)) (r2 false K (cmpB o2)) (tR K cl W (.k .none) fa) (tR K cl W (.k .none) fb) (tR K cl W (.k .none) fc) σ H Q := by
  obtain ⟨R0, H0, G, ρ, R, S, h⟩ := h
  refine ⟨R0, H0, G, ρ, R, S, resR_iff.mpr ((ok2_bind.mp (resN_iff.mp h)).imp fun x ρ1 h v R1 H1 S1 l1 p1 => ⟨R0, H0, G, ρ1, R1, S1, resR_iff.mpr ((ok2_bind.mp h).imp fun y ρ2 h w R2 H2 S2 l2 p2 => ?_)⟩)⟩
  have q1 := (p1.rp rfl).mono l2
  have q2 := p2.rp rfl
  cases hk : cmpD o1 x y with
  | none => rw [hk] at h; exact h.elim
  | some t =>
    rw [hk] at h
    refine ⟨R2, x, y, .bool t, S2.sub, .rp q1, .rp q2, by unfold cmpB; rw [hk]; rfl, fun u H3 m => ⟨t, m.bl, ?_⟩⟩
    obtain ⟨R3, S3, l3, n3⟩ := m.stt S2
    cases t with
    | false => exact h _ R3 H3 S3 ((l1.trans l2).trans l3) (.new rfl (.rp (.bl _)))
    | true =>
      refine ⟨R0, H0, G, ρ2, R3, S3, resR_iff.mpr ((ok2_bind.mp h).imp fun z ρ3 h w' R4 H4 S4 l4 p4 => ?_)⟩
      obtain ⟨d, ht, h⟩ := ok2_opt.mp h
      refine ⟨R4, y, z, d, S4.sub, .rp ((q2.mono l3).mono l4), .rp (p4.rp rfl), ht, fun u5 H5 m5 => ?_⟩
      obtain ⟨R5, S5, l5, n5⟩ := m5.stt S4
      exact h u5 R5 H5 S5 ((((l1.trans l2).trans l3).trans l4).trans l5) (.new rfl (n5.mono (fun _ => rfl)))
theorem pe_chainD {k : Nat} (hr : Room k X.A) {o1 o2 : CmpO} (hm : behindInMarks (cmpOp o2) c = false) (ha : PE X a (tV X.F cl W fa)) (hb : PE X b (tV X.F cl W fb)) (hc : PE X c (tV X.F cl W fc)) :
    PE X (.Compare a [cmpOp o1, cmpOp o2] [b, c] pos) (tV X.F cl W (chainF o1 o2 fa fb fc)) :=
  pe_imp (pe_chain (op_cmpD hr o1) (op_cmpD hr o2) (pe_frz ha) (pe_frz hb) (pe_frz hc) (by rw [lm2]; exact hm)) fun σ H Q h => t_chain h
theorem pt_chainD {k : Nat} (hr : Room k X.A) {o1 o2 : CmpO} (hm : behindInMarks (cmpOp o2) c = false) (ha : PE X a (tV X.F cl W fa)) (hb : PE X b (tV X.F cl W fb)) (hc : PE X c (tV X.F cl W fc)) :
    PT X (.Compare a [cmpOp o1, cmpOp o2] [b, c] pos) (tT X.F cl W fun ρ => tru (.k .none) (chainF o1 o2 fa fb fc ρ)) :=
  pt_boolV (pt_chain (op_cmpD hr o1) (op_cmpD hr o2) (pe_frz ha) (pe_frz hb) (pe_frz hc) (by rw [lm2]; exact hm)) (fun ρ d ρ' e => by
    unfold chainF at e
    cases e1 : fa ρ with
    | bad => rw [e1] at e; cases e
    | exc c d => rw [e1] at e; cases e
    | ok x =>
      rw [e1] at e
      simp only [Out.bind] at e
      cases e2 : fb x.2 with
      | bad => rw [e2] at e; cases e
      | exc c d => rw [e2] at e; cases e
      | ok y =>
        rw [e2] at e
        simp only at e
        cases e3 : cmpD o1 x.1 y.1 with
        | none => rw [e3] at e; cases e
        | some t =>
          rw [e3] at e
          cases t with
          | false => cases e; exact ⟨_, rfl⟩
          | true =>
            simp only at e
            cases e4 : fc y.2 with
            | bad => rw [e4] at e; cases e
            | exc c d => rw [e4] at e; cases e
            | ok z =>
              rw [e4] at e
              simp only at e
              cases e5 : cmpD o2 y.1 z.1 with
              | none => rw [e5] at e; cases e
              | some t => rw [e5] at e; cases e; exact ⟨_, rfl⟩) fun σ H Q h => t_chain h
end
/-! ### calls -/
section
variable {K : Frg} {cl : Cls} {W : XK} {R0 H0 R R' H H' : Hp} {G G' : List Addr} {ρ : DEnv} {σ : L2.St}
/-- nothing of R is at what a call leaves alone -/
theorem Aft.none (A : Aft R H G R' H') {a : Addr} (h : R a = none) (hH : H a ≠ none) : R' a = none := by
  cases e : R' a with
  | none => rfl
  | some u =>
    rcases A.new a (by rw [e]; simp) with q | q
    · exact absurd h q
    · exact absurd q hH
theorem Aft.trans (S : Stt K R0 H0 G ρ σ R H) (A : Aft R H G' R' H') (hg : ∀ a ∈ G', a ∈ G ∨ H0 a = .none) : Aft R0 H0 G R' H' := by
  refine ⟨A.sub, S.old.trans A.le, fun a q => ?_, fun b o e g => ?_, fun a g => A.none (S.gH a g).2 (S.gH a g).1⟩
  · rcases A.new a q with z | z
    · exact S.new a z
    · exact .inr (S.h0 z)
  · refine A.keep b o (S.keep b o e g) fun z => ?_
    rcases hg b z with y | y
    · exact g y
    · rw [e] at y; cases y
theorem Wsh.inner (w : Wsh K cl R0 H0 G W c d) (S : Stt K R0 H0 G ρ σ R H) (hg : ∀ a ∈ G', a ∈ G ∨ H0 a = .none) : Wsh K cl R H G' W c d :=
  fun v R' H' dx A h1 h2 h3 h4 => w v R' H' dx (Aft.trans S A hg) (S.h0 h1) h2 h3 h4
theorem Stt.call0 (S : Stt K R0 H0 G ρ σ R H) (A : Aft R H [] R' H') : Stt K R0 H0 G ρ σ R' H' := by
  have T := Aft.trans S A (fun a h => nomatch h)
  refine ⟨T.sub, T.le, T.new, T.keep, S.g0, fun a g => ?_, S.len, fun i s e => ?_, S.ap⟩
  · obtain ⟨h1, h2⟩ := S.gH a g
    refine ⟨?_, T.g a g⟩
    cases e : H a with
    | none => exact absurd e h1
    | some o => rw [A.keep a o e (by simp)]; simp
  · refine (S.sl i s e).mono A.le fun a o x => ?_
    obtain ⟨h1, h2⟩ := S.ownAt e o x
    refine ⟨?_, A.none h2 h1⟩
    cases e2 : H a with
    | none => exact absurd e2 h1
    | some u => exact A.keep a u e2 (by simp)
/-- the slot that was lent has what the callee left -/
theorem Stt.call1 (S : Stt K R0 H0 G ρ σ R H) {i : Nat} {s0 s1 : Slot} {p : Addr} (e0 : ρ[i]? = some s0) (o0 : s0.isOwn = true) (x0 : σ[i]? = some (some (.ref p))) (A : Aft R H [p] R' H')
    (ok : SlotOk K H0 G R' H' s1 (some (some (.ref p)))) (hp : H' p ≠ none) : Stt K R0 H0 G (ρ.set i s1) σ R' H' := by
  obtain ⟨hH, hR⟩ := S.ownAt e0 o0 x0
  have hg : ∀ a ∈ [p], a ∈ G ∨ H0 a = none := fun a h => by
    have e : a = p := by simpa using h
    subst e
    have ok0 := S.sl i s0 e0
    cases s0 with
    | no => cases o0
    | val d => cases o0
    | exc c d => cases o0
    | own r l =>
      obtain ⟨b, xs, e1, _, _, _, e5⟩ := ok0
      rw [x0] at e1
      cases e1
      cases r with
      | true => exact .inl e5
      | false => exact .inr e5
    | ownD r l =>
      obtain ⟨b, xs, e1, _, _, _, e5⟩ := ok0
      rw [x0] at e1
      cases e1
      cases r with
      | true => exact .inl e5
      | false => exact .inr e5
  have T := Aft.trans S A hg
  have other : ∀ (j : Nat) (s : Slot) (a : Addr), j ≠ i → ρ[j]? = some s → s.isOwn = true → σ[j]? = some (some (.ref a)) → a ≠ p := fun j s a n e o x z => by
    subst z
    exact n (S.ap j i s s0 a e e0 o o0 x x0)
  have keep : ∀ a, a ≠ p → H a ≠ none → H' a = H a := fun a n h => by
    cases e : H a with
    | none => exact absurd e h
    | some u => exact A.keep a u e (by simpa using n)
  refine ⟨T.sub, T.le, T.new, T.keep, S.g0, fun a g => ⟨?_, T.g a g⟩, by simp [S.len], fun j s e => ?_, fun j k s s' a e e' o o' x x' => ?_⟩
  · by_cases n : a = p
    · rw [n]; exact hp
    · rw [keep a n (S.gH a g).1]
      exact (S.gH a g).1
  · rcases get_set e with ⟨rfl, rfl⟩ | ⟨n, e⟩
    · rw [x0]
      exact ok
    · refine (S.sl j s e).mono A.le fun a o x => ?_
      have z := other j s a n e o x
      obtain ⟨h1, h2⟩ := S.ownAt e o x
      exact ⟨keep a z h1, A.none h2 h1⟩
  · by_cases n : j = i <;> by_cases n' : k = i
    · rw [n, n']
    · rcases get_set e' with ⟨z, _⟩ | ⟨_, e'⟩
      · exact absurd z n'
      · rw [n, x0] at x
        cases x
        exact absurd rfl (other k s' p n' e' o' x')
    · rcases get_set e with ⟨z, _⟩ | ⟨_, e⟩
      · exact absurd z n
      · rw [n', x0] at x'
        cases x'
        exact absurd rfl (other j s p n e o x)
    · rcases get_set e with ⟨z, _⟩ | ⟨_, e⟩
      · exact absurd z n
      rcases get_set e' with ⟨z, _⟩ | ⟨_, e'⟩
      · exact absurd z n'
      exact S.ap j k s s' a e e' o o' x x'
end
end DL
set_option Elab.async false
set_option linter.all false
set_option maxRecDepth 100000
set_option maxHeartbeats 1000000
/-! DL, part k: calls of the text's own defs. -/
namespace DL
open PySem PySem.Spec PyProof.Rows L2
section
variable {X : Cx} {k : Nat} {f : Addr} {fd : FuncData} {ps : List Str} {sp : Sp} {E : XK} {x : Str} {p pos : Pos} {e : Expr} {es : List Expr} {t : TA}
theorem run_fnG {pins : List (Addr × Obj)} {σ : L2.St} {H : Hp} {s : Shared} {Q : VK} {us : List Value} {vs : List V} (F : FnG X.prog X.w X.K X.mg X.base k f fd ps sp) (hr : Room k X.A) (gd : X.A.guards = some []) (hb : Binds X.K fd ps []) (hx : Passes (L2.CX X.prog X.w) X E)
    (I : Inv X pins σ H s) (r : Vals vs us) (h : sp vs H Q E) : wpAny (model X.prog X.w) X.A (call (.ref f) us) (EP X pins σ Q) X.xe s := by
  have hl : us.length = ps.length := by rw [← r.length]; exact F.len _ _ _ _ h
  have bt := hb s us I.kIn (by rw [List.append_nil]; exact hl)
  rw [List.append_nil] at bt
  refine wpAny_call (codeAny_mono (F.run X.A X.stack s H ⟨us, []⟩ us vs Q E hr gd I.env0 bt r h) fun r s' hq => ?_)
  cases r with
  | error e => exact hx pins σ H s e s' I hq
  | ok fl =>
    cases fl with
    | ret u => exact I.after hq
    | next => exact False.elim hq
    | brk => exact False.elim hq
    | cont => exact False.elim hq
def tCallG (sp : Sp) (E : XK) (t : TA) : TE := fun σ H Q => t σ H fun vs H1 => sp vs H1 Q E
theorem pe_callG (F : FnG X.prog X.w X.K X.mg X.base k f fd ps sp) (hr : Room k X.A) (gd : X.A.guards = some []) (hg : Gl X x) (hm : X.mg x = some (.ref f)) (hk : PySem.W.keepIn X.K (.ref f) = true) (hb : Binds X.K fd ps []) (hx : Passes (L2.CX X.prog X.w) X E)
    (ha : PA X (e :: es) t) (hs : (e :: es).all notStar = true) (hdb : (x == ("__debug__" : Str)) = false) : PE X (.Call (.Name x p) (e :: es) [] pos) (tCallG sp E t) := by
  refine ⟨fun pins s σ H Q I h => ?_⟩
  refine wpAny_Call_Name_kw (ld_glob I hg hm ?_ hdb)
  rw [List.all_cons, Bool.and_eq_true] at hs
  exact PySem.W.callWith_K (h₀ := X.base) I.ok.mod.kin hk (thn (ha.run pos pins s σ H _ I h) fun us s1 ⟨vs, H1, I1, r, q⟩ => ⟨I1.kIn, run_fnG F hr gd hb hx I1 r q⟩) (starEach_cons hs.1 es X.env) (plain_star hs.2 X.env pos)
end
section
variable {K : Frg} {R0 H0 R H : Hp} {G : List Addr} {ρ : DEnv} {σ : L2.St}
theorem opds_rp : ∀ {es : List E} {vs : List V} {ds xs : List PyData}, OpVs K σ R es vs ds → (es.all fun e => (isBor e).isNone) = true → opds es ds ρ = some xs → RpL K R vs xs
  | [], _, _, _, .nil, _, q => by cases q; exact .nil
  | e :: es, _, _, _, .cons (v := v) (vs := vs) (d := d) (ds := ds) h t, hn, q => by
    rw [List.all_cons, Bool.and_eq_true] at hn
    have n := Option.isNone_iff_eq_none.mp hn.1
    unfold opds at q
    rw [opd_plain n] at q
    obtain ⟨x, e1, q⟩ := Option.bind_eq_some_iff.mp q
    cases e1
    obtain ⟨ys, e2, q⟩ := Option.map_eq_some_iff.mp q
    subst q
    exact .cons (h.rp n) (opds_rp t hn.2 e2)
/-- the arguments of a call that lends the slot i at the place j -/
theorem argR_of (S : Stt K R0 H0 G ρ σ R H) : ∀ {es : List E} {vs : List V} {ds xs : List PyData} {j i : Nat}, OpVs K σ R es vs ds → refArg es j = some i → opds es ds ρ = some xs →
    ∃ a s, ρ[i]? = some s ∧ s.isOwn = true ∧ σ[i]? = some (some (.ref a)) ∧ R a = none ∧ ArgR K R H a j vs xs
  | [], _, _, _, j, _, .nil, r, _ => by simp [refArg] at r
  | e :: es, _, _, _, 0, i, .cons (v := v) (vs := vs) (d := d) (ds := ds) h t, r, q => by
    unfold refArg at r
    simp only [List.getElem?_cons_zero, List.eraseIdx_zero, List.tail_cons] at r
    cases hn : es.all fun e => (isBor e).isNone with
    | false => rw [hn] at r; cases r
    | true =>
      rw [hn] at r
      cases e <;> first | (cases r; done) | skip
      cases r
      unfold opds at q
      obtain ⟨x, e1, q⟩ := Option.bind_eq_some_iff.mp q
      obtain ⟨ys, e2, q⟩ := Option.map_eq_some_iff.mp q
      subst q
      have rs := opds_rp t hn e2
      have h : σ[i]? = some (some v) := h
      have e1 : (match ρ[i]? with
        | some (.own _ l) => some (PyData.list l)
        | some (.ownD _ kvs) => some (PyData.dict kvs)
        | _ => none) = some x := e1
      cases hs : ρ[i]? with
      | none => rw [hs] at e1; cases e1
      | some s =>
        rw [hs] at e1
        have ok := S.sl i s hs
        cases s with
        | no => cases e1
        | val _ => cases e1
        | exc _ _ => cases e1
        | own r l =>
          cases e1
          obtain ⟨a, xs, z1, z2, z3, z4, _⟩ := ok
          rw [h] at z1
          cases z1
          exact ⟨a, _, rfl, rfl, h, z4, .here ⟨xs, z2, z3⟩ rs⟩
        | ownD r l =>
          cases e1
          obtain ⟨a, xs, z1, z2, z3, z4, _⟩ := ok
          rw [h] at z1
          cases z1
          exact ⟨a, _, rfl, rfl, h, z4, .here ⟨xs, z2, z3⟩ rs⟩
  | e :: es, _, _, _, j + 1, i, .cons (v := v) (vs := vs) (d := d) (ds := ds) h t, r, q => by
    unfold refArg at r
    simp only [List.getElem?_cons_succ, List.eraseIdx_cons_succ, List.all_cons] at r
    have r2 : (isBor e).isNone = true ∧ refArg es j = some i := by
      unfold refArg
      cases he : es[j]? with
      | none => rw [he] at r; cases r
      | some e' =>
        rw [he] at r
        simp only at r ⊢
        cases h1 : (isBor e).isNone with
        | false => rw [h1] at r; cases r
        | true =>
          rw [h1] at r
          exact ⟨rfl, r⟩
    have n := Option.isNone_iff_eq_none.mp r2.1
    unfold opds at q
    rw [opd_plain n] at q
    obtain ⟨x, e1, q⟩ := Option.bind_eq_some_iff.mp q
    cases e1
    obtain ⟨ys, e2, q⟩ := Option.map_eq_some_iff.mp q
    subst q
    obtain ⟨a, s, z1, z2, z3, z4, z5⟩ := argR_of S t r2.2 e2
    exact ⟨a, s, z1, z2, z3, z4, .there (h.rp n) z5⟩
end
section
variable {X : Cx} {cl : Cls} {W : XK} {k : Nat} {f : Nat} {PhU : Nat → Fun} {RF : Refs} {x : Str} {p pos : Pos} {a : Expr} {as : List Expr} {e : E} {es : List E} {fs : DEnv → Out (List PyData × DEnv)}
theorem pe_callD (hr : Room k X.A) (gd : X.A.guards = some []) (tk : Takes X fun c d _ H => W c d H) (F : FnAt X.prog X.w X.K X.mg X.base cl k x (RF f) (PhU f)) (hg : Gl X x) (hdb : (x == ("__debug__" : Str)) = false)
    (hs : (a :: as).all notStar = true) (ha : PA X (a :: as) (tA X.F cl W es fs)) :
    PE X (.Call (.Name x p) (a :: as) [] pos) (tV X.F cl W fun ρ => (fs ρ).bind fun x => doCall PhU RF f es x.1 x.2) := by
  obtain ⟨g, fd, ps, j, hj, hm, hk, FG, hb⟩ := F.ex
  refine pe_imp (pe_callG (E := W) FG (hr.mono hj) gd hg hm hk hb (fun pins σ H s e s' I c => passes_call tk (fun _ _ _ _ h => h) pins σ H s e s' I c) ha hs hdb) fun σ H Q ⟨R0, H0, G, ρ, R, S, h⟩ => ?_
  refine ⟨R0, H0, G, ρ, R, S, resA_iff.mpr ((ok2_bind.mp (resN_iff.mp h)).imp fun ds ρ1 h vs R1 H1 S1 l1 o1 => ?_)⟩
  show spD X.F cl (RF f) (PhU f) vs H1 Q W
  unfold doCall at h
  cases hrf : RF f with
  | none =>
    rw [hrf] at h
    simp only at h
    split at h
    · rename_i hn
      refine ⟨R1, ds, [], S1.sub, ⟨rfl, o1.rp hn⟩, ?_⟩
      cases hp : PhU f ds with
      | bad => rw [hp] at h; exact h.elim
      | exc c d =>
        rw [hp] at h
        have h : Wsh X.F cl R0 H0 G W c d := h
        exact h.inner S1 (fun a z => nomatch z)
      | ok y =>
        rw [hp] at h
        exact fun v R' H' A r _ => h v R' H' (S1.call0 A) (l1.trans A.le) (.new rfl (.rp r))
    · exact h.elim
  | some j =>
    rw [hrf] at h
    simp only at h
    split at h
    · rename_i i xs hra hos
      obtain ⟨b, s, z1, z2, z3, z4, z5⟩ := argR_of S1 o1 hra hos
      refine ⟨R1, xs, [b], S1.sub, ⟨b, rfl, z4, z5⟩, ?_⟩
      have ok0 := S1.sl i s z1
      have hg : ∀ a ∈ [b], a ∈ G ∨ H0 a = none := fun a h => by
        have e : a = b := by simpa using h
        subst e
        cases s with
        | no => cases z2
        | val d => cases z2
        | exc c d => cases z2
        | own r l =>
          obtain ⟨b, xs, e1, _, _, _, e5⟩ := ok0
          rw [z3] at e1
          cases e1
          cases r with
          | true => exact .inl e5
          | false => exact .inr e5
        | ownD r l =>
          obtain ⟨b, xs, e1, _, _, _, e5⟩ := ok0
          rw [z3] at e1
          cases e1
          cases r with
          | true => exact .inl e5
          | false => exact .inr e5
      cases hp : PhU f xs with
      | bad => rw [hp] at h; exact h.elim
      | exc c d =>
        rw [hp] at h
        have h : Wsh X.F cl R0 H0 G W c d := h
        exact h.inner S1 hg
      | ok y =>
        rw [hp] at h
        refine fun v R' H' A rv cel => ?_
        have cell := cel b (by simp)
        have h : Ok2 X.F cl W R0 H0 G (match putBack i y.2 ρ1 with
          | some ρ' => .ok (y.1, ρ')
          | none => .bad) _ := h
        unfold putBack at h
        rw [z1] at h
        cases s with
        | no => cases z2
        | val d => cases z2
        | exc c d => cases z2
        | own r l =>
          obtain ⟨y1, y2⟩ := y
          cases y2 with
          | list m =>
            obtain ⟨ys, w1, w2⟩ := cell
            obtain ⟨b', xs', e1, e2, e3, e4, e5⟩ := ok0
            rw [z3] at e1
            cases e1
            have S2 := S1.call1 z1 z2 z3 A (s1 := .own r m) ⟨b, ys, rfl, w1, w2, A.g b (by simp), e5⟩ (by rw [w1]; simp)
            exact h v R' H' S2 (l1.trans A.le) (.new rfl (.rp rv))
          | _ => exact h.elim
        | ownD r l =>
          obtain ⟨y1, y2⟩ := y
          cases y2 with
          | dict m =>
            obtain ⟨ys, w1, w2⟩ := cell
            obtain ⟨b', xs', e1, e2, e3, e4, e5⟩ := ok0
            rw [z3] at e1
            cases e1
            have S2 := S1.call1 z1 z2 z3 A (s1 := .ownD r m) ⟨b, ys, rfl, w1, w2, A.g b (by simp), e5⟩ (by rw [w1]; simp)
            exact h v R' H' S2 (l1.trans A.le) (.new rfl (.rp rv))
          | _ => exact h.elim
    · exact h.elim
end
end DL
set_option Elab.async false
set_option linter.all false
set_option maxRecDepth 100000
set_option maxHeartbeats 1000000
/-! DL, part l: walks over data. -/
namespace DL
open PySem PySem.Spec PyProof.Rows L2
def KeepH (H0 : Hp) (G : List Addr) (H : Hp) : Prop := ∀ b o, H0 b = some o → b ∉ G → H b = some o
/-- J gives the data ds, one by one, while what is known stands -/
structure WalkD (K : Frg) (R1 H0 : Hp) (G : List Addr) (J : L2.It) (ds : List PyData) : Prop where
  ex : ∃ Y, Walk J ds.length (fun H => KeepH H0 G H ∧ ∃ R, Le R1 R ∧ Sb R H) Y ∧ ∀ i H v H' R d, KeepH H0 G H → Le R1 R → Sb R H → Y i H v H' → ds[i]? = some d → ∃ R3, Grow R H R3 H' ∧ Rp K R3 v d
section
variable {K : Frg} {R1 H0 : Hp} {G : List Addr} {a : Addr} {xs : List V} {ds : List PyData}
theorem walkD_list (h : R1 a = some (.lst xs)) (l : RpL K R1 xs ds) : WalkD K R1 H0 G (Itl K a) ds := by
  refine ⟨YAt xs, ?_, fun i H v H' R d _ le sb y e => ?_⟩
  · rw [← l.len]
    exact walk_list.mono (fun H ⟨_, R, le, sb⟩ => .inl (sb.lst (le _ _ h))) fun i H x H' _ _ y => y
  · obtain ⟨rfl, y⟩ := y
    obtain ⟨d', e1, e2⟩ := l.at y
    rw [e] at e1
    cases e1
    exact ⟨R, .refl, e2.mono le⟩
/-- a list that is kept, but not for good -/
theorem walkD_held (h : H0 a = some (.lst xs)) (g : a ∉ G) (l : RpL K R1 xs ds) : WalkD K R1 H0 G (Itl K a) ds := by
  refine ⟨YAt xs, ?_, fun i H v H' R d _ le sb y e => ?_⟩
  · rw [← l.len]
    exact walk_list.mono (fun H ⟨k, _⟩ => .inl (.inl (k a _ h g))) fun i H x H' _ _ y => y
  · obtain ⟨rfl, y⟩ := y
    obtain ⟨d', e1, e2⟩ := l.at y
    rw [e] at e1
    cases e1
    exact ⟨R, .refl, e2.mono le⟩
theorem walkD_tup (h : R1 a = some (.tup xs) ∨ KT K a xs) (l : RpL K R1 xs ds) : WalkD K R1 H0 G (Itt K a) ds := by
  refine ⟨YAt xs, ?_, fun i H v H' R d _ le sb y e => ?_⟩
  · rw [← l.len]
    refine walk_tup.mono (fun H ⟨_, R, le, sb⟩ => ?_) fun i H x H' _ _ y => y
    rcases h with h | h
    · exact .inl (.inl (sb.tup (le _ _ h)))
    · exact .inr h
  · obtain ⟨rfl, y⟩ := y
    obtain ⟨d', e1, e2⟩ := l.at y
    rw [e] at e1
    cases e1
    exact ⟨R, .refl, e2.mono le⟩
theorem walkD_str {z : Str} : WalkD K R1 H0 G (Its z) (signs z) := by
  have hl : (signs z).length = z.cps.size := by unfold signs; simp
  refine ⟨fun i H v H' => H' = H ∧ ∃ c, z.cps[i]? = some c ∧ v = .str ⟨#[c]⟩, ?_, fun i H v H' R d _ le sb y e => ?_⟩
  · rw [hl]
    exact walk_str.mono (fun H _ => trivial) fun i H x H' _ _ y => y
  · obtain ⟨rfl, c, y1, rfl⟩ := y
    refine ⟨R, .refl, ?_⟩
    have e2 : (signs z)[i]? = some (.str ⟨#[c]⟩) := by
      unfold signs
      rw [List.getElem?_map, Array.getElem?_toList, y1]
      rfl
    rw [e] at e2
    cases e2
    exact .str _ (by show (1 : Nat) ≤ sizeLine; decide)
theorem rangeD_get : ∀ (n : Nat) (lo : Int) (i : Nat), i < n → (rangeD lo n)[i]? = some (.int (lo + i))
  | 0, _, _, h => absurd h (by omega)
  | n + 1, lo, 0, _ => by simp [rangeD]
  | n + 1, lo, i + 1, h => by
    unfold rangeD
    rw [List.getElem?_cons_succ, rangeD_get n (lo + 1) i (by omega)]
    congr 2
    omega
theorem rangeD_len : ∀ (n : Nat) (lo : Int), (rangeD lo n).length = n
  | 0, _ => rfl
  | n + 1, lo => congrArg Nat.succ (rangeD_len n (lo + 1))
theorem walkD_range {lo : Int} {n : Nat} : WalkD K R1 H0 G (Itr lo n) (rangeD lo n) := by
  refine ⟨YFn fun i => .int (lo + i), ?_, fun i H v H' R d _ le sb y e => ?_⟩
  · rw [rangeD_len]
    exact walk_range.mono (fun H _ => trivial) fun i H x H' _ _ y => y
  · obtain ⟨rfl, rfl⟩ := y
    have hi : i < n := by
      have := (List.getElem?_eq_some_iff.mp e).1
      rwa [rangeD_len] at this
    rw [rangeD_get n lo i hi] at e
    cases e
    exact ⟨R, .refl, .int _⟩
theorem rev_at {α : Type} {l : List α} {i : Nat} {d : α} (h : l.reverse[i]? = some d) : l[l.length - 1 - i]? = some d := by
  have hi := (List.getElem?_eq_some_iff.mp h).1
  rw [List.length_reverse] at hi
  rw [List.getElem?_reverse hi] at h
  exact h
theorem walkD_rev (h : R1 a = some (.lst xs)) (l : RpL K R1 xs ds) : WalkD K R1 H0 G (Itv K a xs.length) ds.reverse := by
  refine ⟨fun i H x H' => H' = H ∧ xs[xs.length - 1 - i]? = some x, ?_, fun i H v H' R d _ le sb y e => ?_⟩
  · rw [List.length_reverse, ← l.len]
    exact walk_rev.mono (fun H ⟨_, R, le, sb⟩ => .inl (sb.lst (le _ _ h))) fun i H x H' _ _ y => y
  · obtain ⟨rfl, y⟩ := y
    obtain ⟨d', e1, e2⟩ := l.at y
    rw [l.len, rev_at e] at e1
    cases e1
    exact ⟨R, .refl, e2.mono le⟩
theorem walkD_revT (h : R1 a = some (.tup xs) ∨ KT K a xs) (l : RpL K R1 xs ds) : WalkD K R1 H0 G (RT.ItvT K a xs.length) ds.reverse := by
  have sq : ∀ {H R : Hp}, Le R1 R → Sb R H → SqT K H a xs := fun le sb => by
    rcases h with h | h
    · exact .inl (.inl (sb.tup (le _ _ h)))
    · exact .inr h
  refine ⟨fun i H x H' => H' = H ∧ xs[xs.length - 1 - i]? = some x, ?_, fun i H v H' R d _ le sb y e => ?_⟩
  · rw [List.length_reverse, ← l.len]
    exact ⟨fun i H hi ⟨_, R, le, sb⟩ => ⟨hi, xs, xs[xs.length - 1 - i]'(by omega), sq le sb, by simp [show xs.length - 1 - i < xs.length by omega]⟩, fun _ _ => Nat.le_refl _, fun i H x H' _ ⟨_, R, le, sb⟩ y => ⟨y.1, y.2 xs (sq le sb)⟩⟩
  · obtain ⟨rfl, y⟩ := y
    obtain ⟨d', e1, e2⟩ := l.at y
    rw [l.len, rev_at e] at e1
    cases e1
    exact ⟨R, .refl, e2.mono le⟩
theorem RpD.at {R : Hp} : ∀ {ks : List (Key × V)} {ds : List (PyData × PyData)} {i : Nat} {k : Key} {v : V}, RpD K R ks ds → ks[i]? = some (k, v) → keyFit k ∧ ∃ d, ds[i]? = some (kD k, d) ∧ Rp K R v d
  | _, _, _, _, _, .nil, e => by simp at e
  | _, _, 0, _, _, .cons f h _, e => by simp at e; obtain ⟨rfl, rfl⟩ := e; exact ⟨f, _, rfl, h⟩
  | _, _, i + 1, _, _, .cons _ _ q, e => by
    obtain ⟨f, d, h1, h2⟩ := q.at (i := i) (by simpa using e)
    exact ⟨f, d, by simpa using h1, h2⟩
theorem Rp.key {R : Hp} {k : Key} (f : keyFit k) : Rp K R (kV k) (kD k) := by
  cases k with
  | inl i => exact .int i
  | inr x => exact .str x f
theorem walkD_keys {o : Obj} {ks : List (Key × V)} {kd : List (PyData × PyData)} (h : R1 a = some (.frz o (.dK ks))) (l : RpD K R1 ks kd) : WalkD K R1 H0 G (Itk a o ks) (kd.map (·.1)) := by
  refine ⟨fun i H x H' => H' = H ∧ ∃ k v, ks[i]? = some (k, v) ∧ x = kV k, ?_, fun i H v H' R d _ le sb y e => ?_⟩
  · rw [List.length_map, ← l.len]
    exact walk_keys.mono (fun H ⟨_, R, le, sb⟩ => sb.frz (le _ _ h)) fun i H x H' _ _ y => y
  · obtain ⟨rfl, k, v', y1, rfl⟩ := y
    obtain ⟨f, d', e1, e2⟩ := l.at y1
    rw [List.getElem?_map, e1] at e
    cases e
    exact ⟨R, .refl, .key f⟩
theorem walkD_items {o : Obj} {ks : List (Key × V)} {kd : List (PyData × PyData)} (h : R1 a = some (.frz o (.dK ks))) (l : RpD K R1 ks kd) : WalkD K R1 H0 G (Iti a o ks) (kd.map fun q => .tuple [q.1, q.2]) := by
  refine ⟨YPair (fun i => ks[i]?.map fun kv => kV kv.1) (fun i => ks[i]?.map Prod.snd), ?_, fun i H v H' R d _ le sb y e => ?_⟩
  · rw [List.length_map, ← l.len]
    exact walk_items.mono (fun H ⟨_, R, le, sb⟩ => sb.frz (le _ _ h)) fun i H x H' _ _ y => y
  · obtain ⟨T, x, z, rfl, h2, rfl, y1, y2⟩ := y
    obtain ⟨⟨k, w⟩, e1, e2⟩ := Option.map_eq_some_iff.mp y1
    have y2 : Option.map Prod.snd ks[i]? = some z := y2
    rw [e1] at y2
    cases y2
    cases e2
    obtain ⟨f, d', e3, e4⟩ := l.at e1
    rw [List.getElem?_map, e3] at e
    cases e
    have le2 : Le R (upd R T (.tup [kV k, w])) := by
      refine Le.upd ?_
      cases z : R T with
      | none => rfl
      | some u => rcases sb T u z with q | ⟨_, _, _, q⟩ <;> rw [h2] at q <;> cases q
    exact ⟨_, .lay .refl h2, .tup (.inl upd_same) (.cons (.key f) (.one ((e4.mono le).mono le2)))⟩
end
/-! ### the keys of a dict with a last key of another kind -/
def Itx (d : Addr) (o : Obj) (vks : List V) : L2.It :=
  ⟨fun i H => H d = some (.frz o (.ext fun _ => True)) ∧ i < vks.length, fun i H x H' => H' = H ∧ vks[i]? = some x, fun i H => H d = some (.frz o (.ext fun _ => True)) ∧ vks.length ≤ i⟩
theorem turn_x {P : Program} {w : World} {K : PySem.W.Frag} {tg : Expr} {d : Addr} {o : Obj} {es : Array DictEntry} {ep : Nat} {vks : List V} (it : Addr) (hod : o.data = .dict es ep) (hv : Vals vks (es.toList.map (·.key))) :
    Turn P w K tg (Itx d o vks) [it] it (fun i h => h.IsKeyIter it d i vks.length ep) where
  mem := by simp
  obj := fun i h st b hb => by
    have e : b = it := by simpa using hb
    subst e
    obtain ⟨oi, e, c, dd⟩ := st
    exact ⟨oi, e, fun v z => by rw [dd] at z; cases z⟩
  keep := fun i h h' st k => st.at fun oi e => k it (by simp) oi e
  item := by
    intro X hP hw hK hc i pins s σ H E I hf st hg
    subst hP hw hK
    obtain ⟨hd, hi⟩ := hg
    obtain ⟨f0, f1, f2, f3, f4, f5⟩ := hf it (by simp)
    obtain ⟨hgd, _⟩ := I.hok _ _ hd
    have hl : vks.length = es.size := by rw [hv.length, List.length_map, Array.length_toList]
    obtain ⟨v, hvi⟩ : ∃ v, vks[i]? = some v := ⟨vks[i], List.getElem?_eq_getElem hi⟩
    obtain ⟨u, hu, ru⟩ := hv.get hvi
    rw [List.getElem?_map] at hu
    obtain ⟨en, hen, rfl⟩ := Option.map_eq_some_iff.mp hu
    rw [Array.getElem?_toList] at hen
    refine next_key_item st hgd hod hl.symm hen fun h' st' sb => ?_
    have I1 : Inv X pins σ H { s with heap := h' } := I.turned (t' := s.toks) (fun b ob hb e => (sb.2 b hb).trans e) f0 f1 f3 f4 f5
    obtain ⟨oi, e, c, dd⟩ := id st'
    exact ⟨en.key, rfl, go_of (s := { s with heap := h' }) e c dd (by decide) ⟨v, H, I1, ru, ⟨rfl, hvi⟩, st', fun b hb => (hf b hb).1⟩⟩
  done := by
    intro X hP hw hK hc i pins s σ H E I hf st hg
    subst hP hw hK
    obtain ⟨hd, hi⟩ := hg
    obtain ⟨f0, f1, f2, f3, f4, f5⟩ := hf it (by simp)
    obtain ⟨hgd, _⟩ := I.hok _ _ hd
    have hl : vks.length = es.size := by rw [hv.length, List.length_map, Array.length_toList]
    exact next_key_end (I.ok.hd hc) st hgd hod hl.symm hi fun h' eb => ⟨rfl, I.turned (t' := s.toks) (fun b ob hb e => eb b ob hb e) f0 f1 f3 f4 f5⟩
  self := fun A i s Q E st h => by
    refine wpAny_pyIter_slot st.typeIs F.slot_dict_keyiterator_iter (wpAny_call_entry F.slot_dict_keyiterator_iter st.typeIs F.entry_dict_keyiterator_iter ?_ (F.args_dict_keyiterator_iter_1 _))
    show wpAny _ _ (ret (.ref it)) _ _ s
    exact wpAny_pure ⟨_, rfl, "dict_keyiterator", _, st.typeIs, F.slot_dict_keyiterator_next.lookup, h⟩
def iKeysX (td : TE) : TI := fun σ H R => td σ H fun x H1 => ∃ d o, x = .ref d ∧ ((∃ kvs, H1 d = some (.frz o (.dK kvs)) ∧ R (Itk d o kvs) H1) ∨
  ∃ vks es ep, H1 d = some (.frz o (.ext fun _ => True)) ∧ (d == sysModules) = false ∧ o.ExactDict ∧ o.data = .dict es ep ∧ Vals vks (es.toList.map (·.key)) ∧ R (Itx d o vks) H1)
theorem pi_keysX {X : Cx} {tg e : Expr} {td : TE} (he : PE X e td) : PI X tg e (iKeysX td) := by
  refine ⟨fun pins s σ H R I h => ?_⟩
  refine thn (he.run pins s σ H _ I h) fun u s1 ⟨x, H1, I1, rx, d, o, ex, q⟩ => ?_
  subst ex
  obtain rfl : u = Value.ref d := rx
  rcases q with ⟨kvs, hd, q⟩ | ⟨vks, es, ep, hd, nm, xd, hdt, hv, q⟩
  · obtain ⟨hs, hgd, hx, es, ep, vs, hdt, hsz, kv, hm⟩ := I1.frzK hd
    refine iter_keys hs hgd hx hdt (pi_one (tk := s1.toks) I1 _ (turn_keys _ hdt) ⟨_, Heap.get?_push_size _ rfl, rfl, ?_⟩ q)
    rw [hsz] <;> rfl
  · obtain ⟨hgd, _⟩ := I1.hok _ _ hd
    have hl : vks.length = es.size := by rw [hv.length, List.length_map, Array.length_toList]
    refine iter_keys nm hgd xd hdt (pi_one (tk := s1.toks) I1 _ (turn_x _ hdt hv) ⟨_, Heap.get?_push_size _ rfl, rfl, ?_⟩ q)
    rw [hl] <;> rfl
section
variable {K : Frg} {R1 H0 : Hp} {G : List Addr} {a : Addr} {ds : List PyData}
theorem walkD_x {o : Obj} {vks : List V} (h : R1 a = some (.frz o (.ext fun _ => True))) (l : RpL K R1 vks ds) : WalkD K R1 H0 G (Itx a o vks) ds := by
  refine ⟨fun i H x H' => H' = H ∧ vks[i]? = some x, ?_, fun i H v H' R d _ le sb y e => ?_⟩
  · rw [← l.len]
    exact ⟨fun i H hi ⟨_, R, le, sb⟩ => ⟨sb.frz (le _ _ h), hi⟩, fun H ⟨_, R, le, sb⟩ => ⟨sb.frz (le _ _ h), Nat.le_refl _⟩, fun i H x H' _ _ y => y⟩
  · obtain ⟨rfl, y⟩ := y
    obtain ⟨d', e1, e2⟩ := l.at y
    rw [e] at e1
    cases e1
    exact ⟨R, .refl, e2.mono le⟩
end
end DL
set_option Elab.async false
set_option linter.all false
set_option maxRecDepth 100000
set_option maxHeartbeats 2000000
/-! DL, part m: enumerate and zip over lists and tuples in any mix. -/
namespace DL
open PySem PySem.Spec PyProof.Rows L2
/-- a source: a list or a tuple -/
inductive Sk where | lst | tup
namespace Sk
def has (K : PySem.W.Frag) (H : Hp) (a : Addr) (xs : List V) : Sk → Prop
  | .lst => SqL K H a xs
  | .tup => SqT K H a xs
def iter (h : Heap) (it a : Addr) (i : Nat) : Sk → Prop
  | .lst => h.IsListIter it a i
  | .tup => h.IsTupleIter it a i
def is (h : Heap) (a : Addr) (items : Array Value) : Sk → Prop
  | .lst => h.IsList a items
  | .tup => h.IsTuple a items
def obj (a : Addr) : Sk → Obj
  | .lst => { cls := .type "list_iterator", data := .fields #[.ref a, .int 0 0] }
  | .tup => { cls := .type "tuple_iterator", data := .fields #[.ref a, .int 0 0] }
theorem draws {prog : Program} {w : World} {A : Around} (hh : A.handled = none) (it a : Addr) (hne : a ≠ it) (items : Array Value) : ∀ k : Sk, Draws prog w A it [it, a] items.size (fun i v => items[i]? = some v) (fun i h => k.iter h it a i ∧ k.is h a items)
  | .lst => Draws.list hh it a hne items
  | .tup => Draws.tuple hh it a hne items
theorem begins (a : Addr) (items : Array Value) : ∀ k : Sk, Begins (.ref a) (k.obj a) (fun h => k.is h a items)
  | .lst => begins_list a items
  | .tup => begins_tuple a items
theorem new {h : Heap} {it a : Addr} : ∀ {k : Sk}, h.get? it = some (k.obj a) → k.iter h it a 0
  | .lst, e => ⟨_, e, rfl, rfl⟩
  | .tup, e => ⟨_, e, rfl, rfl⟩
theorem at_ {h h' : Heap} {it a : Addr} {i : Nat} : ∀ {k : Sk}, k.iter h it a i → (∀ o, h.get? it = some o → h'.get? it = some o) → k.iter h' it a i
  | .lst, st, e => st.at e
  | .tup, st, e => st.at e
theorem live {h : Heap} {it a : Addr} {i : Nat} : ∀ {k : Sk}, k.iter h it a i → ∃ o, h.get? it = some o ∧ ∀ v, o.data ≠ .cell v
  | .lst, ⟨o, e, _, d⟩ => ⟨o, e, fun v z => by rw [d] at z; cases z⟩
  | .tup, ⟨o, e, _, d⟩ => ⟨o, e, fun v z => by rw [d] at z; cases z⟩
section
variable {X : Cx} {pins : List (Addr × Obj)} {σ : L2.St} {H : Hp} {s : Shared} {a : Addr} {xs ys : List V}
theorem inv (I : Inv X pins σ H s) : ∀ {k : Sk}, k.has X.K H a xs → ∃ its : List Value, Vals xs its ∧ k.is s.heap a its.toArray ∧ a < s.heap.objs.size
  | .lst, h => by
    obtain ⟨its, r, p, _⟩ := I.list h
    exact ⟨its, r, p.isList, p.lt⟩
  | .tup, h => by
    obtain ⟨its, r, p, _⟩ := I.tuple h
    exact ⟨its, r, p, p.lt⟩
theorem inj (I : Inv X pins σ H s) : ∀ {k : Sk}, k.has X.K H a xs → k.has X.K H a ys → xs = ys
  | .lst, h, h' => I.list_inj h h'
  | .tup, h, h' => I.tuple_inj h h'
end
end Sk
section
variable {X : Cx} {pins : List (Addr × Obj)} {σ : L2.St} {H : Hp} {s : Shared} {z : Addr} {fp wr : List Addr} {n i : Nat} {Pt : Nat → Array Value → Prop} {St : Nat → Heap → Prop} {Mid : Nat → Addr → Heap → Prop} {elts : List Expr} {kk : Nat} {tpos : Pos}
/-- a turn of an iterator that makes tuples: a new tuple is laid -/
theorem item_W (Wk : WalksT X.prog X.w X.A z fp wr n Pt St Mid) (I : Inv X pins σ H s) (hf : ∀ b ∈ wr, FpOk X pins H b) (st : St i s.heap) (hi : i < n) {E : Value → Shared → Prop} {Y : List V → Prop}
    (hv : ∀ vals, Pt i vals → ∃ xs, Vals xs vals.toList ∧ xs.length ≤ 1000 ∧ Y xs) :
    wpAny (model X.prog X.w) X.A (pyNext (.ref z)) (fun r s1 => ∃ u, r = some u ∧ wpAny (model X.prog X.w) X.A (letOwnedTupleGo (.Tuple elts kk tpos) (.ref z) u) (fun _ s2 => ∃ T xs, s.heap.objs.size ≤ T ∧
      Inv X pins σ (upd H T (.tup xs)) s2 ∧ u = .ref T ∧ Y xs ∧ St (i + 1) s2.heap) E s1) E s := by
  refine Wk.item i s _ E hi st fun T vals h1 tk hP hge hT hm hk => ⟨_, rfl, Wk.go elts kk tpos i T _ _ E hm fun h2 st2 hk2 => ?_⟩
  obtain ⟨xs, rv, hl, hy⟩ := hv vals hP
  obtain ⟨o, e1, e2, m, e3⟩ := hT
  have hT2 : h2.get? T = some o := hk2 T o (Wk.apart i T h1 hm) e1
  exact ⟨T, xs, hge, I.turnedNew (t' := tk) (ch := wr) (fun b ob hb q => hk2 b ob hb (hk b ob hb q)) hf hge ⟨small_line hl, vals.toList, rv, ⟨o, hT2, e2, m, e3⟩⟩, rfl, hy, st2⟩
theorem done_W (Wk : WalksT X.prog X.w X.A z fp wr n Pt St Mid) (I : Inv X pins σ H s) (hf : ∀ b ∈ wr, FpOk X pins H b) (st : St n s.heap) {E : Value → Shared → Prop} :
    wpAny (model X.prog X.w) X.A (pyNext (.ref z)) (fun r s1 => r = none ∧ Inv X pins σ H s1) E s :=
  Wk.done s _ E st fun h' tk hk => ⟨rfl, I.turnedL (t' := tk) (ch := wr) hk hf⟩
end
theorem itsAt {xs : List V} {its : List Value} {i : Nat} {u : Value} (r : Vals xs its) (h : its.toArray[i]? = some u) : ∃ x, xs[i]? = some x ∧ RelV x u := by
  have h2 : its[i]? = some u := by simpa using h
  cases e : xs[i]? with
  | none => rw [Vals.none_of r e] at h2; cases h2
  | some x =>
    obtain ⟨u', e1, e2⟩ := r.get e
    rw [h2] at e1
    cases e1
    exact ⟨x, rfl, e2⟩
/-! ### zip of two -/
def Iz2 (K : PySem.W.Frag) (k1 k2 : Sk) (a b : Addr) : L2.It :=
  ⟨fun i H => ∃ xs ys x y, k1.has K H a xs ∧ k2.has K H b ys ∧ xs[i]? = some x ∧ ys[i]? = some y,
    fun i H v H' => ∃ T x y, v = .ref T ∧ H T = none ∧ H' = upd H T (.tup [x, y]) ∧ (∀ xs, k1.has K H a xs → xs[i]? = some x) ∧ ∀ ys, k2.has K H b ys → ys[i]? = some y,
    fun i H => ∃ xs ys, k1.has K H a xs ∧ k2.has K H b ys ∧ i = min xs.length ys.length⟩
theorem turn_z2 {P : Program} {w : World} {K : PySem.W.Frag} {elts : List Expr} {kk : Nat} {tpos : Pos} {k1 k2 : Sk} {a b z TI TO i1 i2 : Addr} (D : ZipSep2 z TI TO i1 i2 [i1, a] [i2, b]) (n1 : a ≠ i1) (n2 : b ≠ i2) :
    Turn P w K (.Tuple elts kk tpos) (Iz2 K k1 k2 a b) [z, TI, TO, i1, i2] z (fun i h => IsZip h z TI TO .none ∧ IsTupOf2 h TI (.ref i1) (.ref i2) ∧ (∃ x y, IsTupOf2 h TO x y) ∧ k1.iter h i1 a i ∧ k2.iter h i2 b i) where
  mem := by simp
  obj := fun i h st c hc => by
    obtain ⟨hz, hTI, ⟨x, y, hTO⟩, st1, st2⟩ := st
    simp only [List.mem_cons, List.not_mem_nil, or_false] at hc
    rcases hc with q | q | q | q | q <;> subst q
    · exact ⟨_, hz, fun v q => nomatch q⟩
    · exact ⟨_, hTI, fun v q => nomatch q⟩
    · exact ⟨_, hTO, fun v q => nomatch q⟩
    · exact Sk.live st1
    · exact Sk.live st2
  keep := fun i h h' st k => by
    obtain ⟨hz, hTI, ⟨x, y, hTO⟩, st1, st2⟩ := st
    exact ⟨k z (by simp) _ hz, k TI (by simp) _ hTI, ⟨x, y, k TO (by simp) _ hTO⟩, Sk.at_ st1 fun o q => k i1 (by simp) o q, Sk.at_ st2 fun o q => k i2 (by simp) o q⟩
  item := by
    intro X hP hw hK hc i pins s σ H E I hf st hg
    subst hP hw hK
    obtain ⟨hz, hTI, hTO, st1, st2⟩ := st
    obtain ⟨xs, ys, x, y, q1, q2, e1, e2⟩ := hg
    obtain ⟨its, rv, p1, _⟩ := Sk.inv I q1
    obtain ⟨its2, rv2, p2, _⟩ := Sk.inv I q2
    have hh : X.A.in1.handled = none := I.ok.hd hc
    have l1 := rv.length
    have l2 := rv2.length
    have hi : i < min its.toArray.size its2.toArray.size := by
      have h1 := (List.getElem?_eq_some_iff.mp e1).1
      have h2 := (List.getElem?_eq_some_iff.mp e2).1
      simp only [List.size_toArray]
      omega
    have Wk := WalksT.zipD2 (prog := X.prog) (w := X.w) D (Sk.draws hh i1 a n1 its.toArray k1) (Sk.draws hh i2 b n2 its2.toArray k2)
    have hw : ∀ b ∈ [z, TO, i1, i2], FpOk X pins H b := fun b hb => hf b (by
      simp only [List.mem_cons, List.not_mem_nil, or_false] at hb ⊢
      rcases hb with q | q | q | q <;> simp [q])
    refine thn (item_W Wk I hw ⟨hz, hTI, hTO, ⟨st1, p1⟩, ⟨st2, p2⟩⟩ hi (E := E) (Y := fun vs => vs = [x, y]) fun vals hv => ?_) fun r s1 ⟨u, er, q⟩ => ⟨u, er, thn q fun _ s2 ⟨T, vs, hge, I2, eu, ev, st'⟩ => ?_⟩
    · obtain ⟨u1, u2, h1, h2, rfl⟩ := hv
      obtain ⟨x', z1, z2⟩ := itsAt rv h1
      obtain ⟨y', z3, z4⟩ := itsAt rv2 h2
      rw [e1] at z1
      rw [e2] at z3
      cases z1
      cases z3
      exact ⟨[x, y], .cons z2 (.cons z4 .nil), by show (2 : Nat) ≤ 1000; decide, rfl⟩
    · subst ev eu
      refine ⟨.ref T, _, I2, rfl, ⟨T, x, y, rfl, I.hok.fresh hge, rfl, fun xs' h => by rw [Sk.inj I h q1]; exact e1, fun ys' h => by rw [Sk.inj I h q2]; exact e2⟩, ⟨st'.1, st'.2.1, st'.2.2.1, st'.2.2.2.1.1, st'.2.2.2.2.1⟩, fun b hb => ?_⟩
      have hb1 := (hf b hb).1
      rw [upd_ne fun e => ?_]
      · exact hb1
      · subst e
        have : b < s.heap.objs.size := by
          simp only [List.mem_cons, List.not_mem_nil, or_false] at hb
          obtain ⟨_, _, hTO⟩ := hTO
          obtain ⟨_, ho1, _⟩ := Sk.live st1
          obtain ⟨_, ho2, _⟩ := Sk.live st2
          rcases hb with q | q | q | q | q <;> rw [q]
          · exact Heap.lt_size hz
          · exact Heap.lt_size hTI
          · exact Heap.lt_size hTO
          · exact Heap.lt_size ho1
          · exact Heap.lt_size ho2
        exact absurd (Nat.lt_of_lt_of_le this hge) (Nat.lt_irrefl _)
  done := by
    intro X hP hw hK hc i pins s σ H E I hf st hg
    subst hP hw hK
    obtain ⟨hz, hTI, hTO, st1, st2⟩ := st
    obtain ⟨xs, ys, q1, q2, e⟩ := hg
    obtain ⟨its, rv, p1, _⟩ := Sk.inv I q1
    obtain ⟨its2, rv2, p2, _⟩ := Sk.inv I q2
    have hh : X.A.in1.handled = none := I.ok.hd hc
    have hi : i = min its.toArray.size its2.toArray.size := by
      simp only [List.size_toArray, ← rv.length, ← rv2.length]
      exact e
    subst hi
    have Wk := WalksT.zipD2 (prog := X.prog) (w := X.w) D (Sk.draws hh i1 a n1 its.toArray k1) (Sk.draws hh i2 b n2 its2.toArray k2)
    have hw : ∀ b ∈ [z, TO, i1, i2], FpOk X pins H b := fun b hb => hf b (by
      simp only [List.mem_cons, List.not_mem_nil, or_false] at hb ⊢
      rcases hb with q | q | q | q <;> simp [q])
    exact done_W Wk I hw ⟨hz, hTI, hTO, ⟨st1, p1⟩, ⟨st2, p2⟩⟩
  self := fun A i s Q E st h => wpAny_pyIter_zip st.1 h
def iZ2 (K : PySem.W.Frag) (ta : TA) : TI := fun σ H R => ta σ H fun vs H1 => ∃ k1 k2 a b xs ys, vs = [.ref a, .ref b] ∧ Sk.has K H1 a xs k1 ∧ Sk.has K H1 b ys k2 ∧ R (Iz2 K k1 k2 a b) H1
theorem pi_z2 {X : Cx} {as : List Expr} {e : Expr} {ta : TA} {p pos tpos : Pos} {elts : List Expr} {kk : Nat} (hg : Gl X "zip") (hm : X.mg "zip" = none) (ha : PA X (e :: as) ta) (hs : (e :: as).all notStar = true) :
    PI X (.Tuple elts kk tpos) (.Call (.Name "zip" p) (e :: as) [] pos) (iZ2 X.K ta) := by
  refine ⟨fun pins s σ H R I h => ?_⟩
  rw [List.all_cons, Bool.and_eq_true] at hs
  refine Call_ (ld_blt I hg hm PyProof.Rows.boot_zip (PyProof.Rows.callWith_type1 (thn (ha.run pos pins s σ H _ I h) fun us s1 ⟨vs, H1, I1, r1, q1⟩ => ?_) (starEach_cons hs.1 as X.env) (plain_star hs.2 X.env pos)))
  obtain ⟨k1, k2, a, b, xs, ys, ex, hqx, hqy, q⟩ := q1
  subst ex
  obtain ⟨u1, u2, rfl, w1, w2⟩ := vals2 r1
  cases w1
  cases w2
  obtain ⟨its, rv, p1, la⟩ := Sk.inv I1 hqx
  obtain ⟨its2, rv2, p2, lb⟩ := Sk.inv I1 hqy
  refine zip_begins2 (Sk.begins a its.toArray k1) (Sk.begins b its2.toArray k2) p1 p2 fun h' hz hTI hTO h1 h2 hsz hk => wpAny_pyIter_zip hz ?_
  have I2 : Inv X pins σ H1 { s1 with heap := h' } := I1.kept (t' := s1.toks) hk
  refine ⟨s1.heap.objs.size + 4, [s1.heap.objs.size + 4, s1.heap.objs.size + 2, s1.heap.objs.size + 3, s1.heap.objs.size, s1.heap.objs.size + 1], _, _, H1, rfl, I2, turn_z2 (zip_sep2 (fp1 := [a]) (fp2 := [b]) (fun c hc => by rw [List.mem_singleton.mp hc]; exact la) (fun c hc => by rw [List.mem_singleton.mp hc]; exact lb)) (Nat.ne_of_lt la) (Nat.ne_of_lt (Nat.lt_succ_of_lt lb)), ⟨hz, hTI, ⟨_, _, hTO⟩, Sk.new h1, Sk.new h2⟩, fun c hcm => ?_, q⟩
  have hle : s1.heap.objs.size ≤ c := by
    simp only [List.mem_cons, List.not_mem_nil, or_false] at hcm
    rcases hcm with z | z | z | z | z <;> rw [z]
    · exact Nat.le_add_right _ _
    · exact Nat.le_add_right _ _
    · exact Nat.le_add_right _ _
    · exact Nat.le_refl _
    · exact Nat.le_add_right _ _
  exact I1.fpOk hle (I1.hok.fresh hle)
end DL
set_option Elab.async false
set_option linter.all false
set_option maxRecDepth 100000
set_option maxHeartbeats 2000000
/-! DL, part n: enumerate over lists and tuples. -/
namespace DL
open PySem PySem.Spec PyProof.Rows L2
open Sem (wp)
theorem meets_en1 {v : Value} {o : Obj} {Hh : Heap → Prop} (B : Begins v o Hh) :
    Meets (Builtin.«enumerate.__new__» ⟨[.type "enumerate", v], []⟩) (fun _ R s => Hh s.heap ∧
      R (.ok (.ret (.ref (s.heap.push o).objs.size))) { s with heap := (s.heap.push o).push { cls := .type "enumerate", data := .fields #[.none, .bool false, .ref s.heap.objs.size, rawInt 0, .none, .none] } }) :=
  .of_wp fun prog w A R s h => by
    obtain ⟨hp, g, d, tk, os⟩ := s
    obtain ⟨h1, h⟩ := h
    have hsub := sub_enumerate
    have begun : ∀ {A' : Around} {E : Value → Shared → Prop} {Q : Value → Shared → Prop}, Q (.ref hp.objs.size) ⟨hp.push o, g, d, tk, os⟩ → wpAny (model prog w) A' (pyIter v) Q E ⟨hp, g, d, tk, os⟩ :=
      fun q => B.iter prog w _ _ ⟨hp, g, d, tk, os⟩ _ h1 q
    wp_walk using begun
    refine wpAny_stack_any fun st => wpAny_pure ?_
    split
    · rename_i c _ _ _ _ _
      cases (c == Value.type "enumerate")
      · wp_walk using begun
        exact ⟨_, rfl, h⟩
      · wp_walk using begun
        exact ⟨_, rfl, h⟩
    · wp_walk using begun
      exact ⟨_, rfl, h⟩
section
variable {prog : Program} {w : World} {A : Around} {E : Value → Shared → Prop} {s : Shared}
/-- enumerate(v) -/
theorem call_en1 {v : Value} {o : Obj} {Hh : Heap → Prop} {Q : Value → Shared → Prop} (B : Begins v o Hh) (h1 : Hh s.heap)
    (h : ∀ h', IsEnum h' (s.heap.objs.size + 1) s.heap.objs.size 0 .none → h'.get? s.heap.objs.size = some o →
      (∀ b u, s.heap.get? b = some u → h'.get? b = some u) → Q (.ref (s.heap.objs.size + 1)) { s with heap := h' }) :
    wpAny (model prog w) A (call (.type "enumerate") [v]) Q E s := by
  refine callType_new F.called_enumerate (by decide) (F.typeCall_enumerate_1 _) (F.newCall_enumerate_1 _) (fun obj => F.args_object_init_2 obj _) F.entry_enumerate_new (meets_en1 B) ⟨h1, ?_⟩
  have hz : (s.heap.push o).objs.size = s.heap.objs.size + 1 := Heap.size_push ..
  show _ ∧ _
  rw [hz]
  generalize hob : ({ cls := .type "enumerate", data := .fields #[.none, .bool false, .ref s.heap.objs.size, rawInt 0, .none, .none] } : Obj) = ob
  have he : ((s.heap.push o).push ob).get? (s.heap.objs.size + 1) = some ob := by
    have q := Heap.get?_push_size (s.heap.push o) (o := ob) (by rw [← hob]; rfl)
    rw [hz] at q
    exact q
  have he' : IsEnum ((s.heap.push o).push ob) (s.heap.objs.size + 1) s.heap.objs.size 0 .none := by
    rw [hob.symm] at he ⊢
    exact he
  refine ⟨⟨ob, he, by rw [← hob]⟩, h _ he' (Heap.get?_push_of_some _ (Heap.get?_push_size _ B.free)) fun b u q => Heap.get?_push_of_some _ (Heap.get?_push_of_some _ q)⟩
end
def Ien (K : PySem.W.Frag) (k : Sk) (a : Addr) : L2.It :=
  ⟨fun i H => ∃ xs x, k.has K H a xs ∧ xs[i]? = some x,
    fun i H v H' => ∃ T x, v = .ref T ∧ H T = none ∧ H' = upd H T (.tup [.int (i : Nat), x]) ∧ ∀ xs, k.has K H a xs → xs[i]? = some x,
    fun i H => ∃ xs, k.has K H a xs ∧ i = xs.length⟩
theorem turn_en {P : Program} {w : World} {K : PySem.W.Frag} {elts : List Expr} {kk : Nat} {tpos : Pos} {k : Sk} {a e it : Addr} (n1 : a ≠ it) (n2 : e ≠ it) (n3 : e ≠ a) :
    Turn P w K (.Tuple elts kk tpos) (Ien K k a) [e, it] e (fun i h => (∃ old, IsEnum h e it (0 + ((i : Nat) : Int)) old) ∧ k.iter h it a i) where
  mem := by simp
  obj := fun i h st c hc => by
    obtain ⟨⟨old, he⟩, st1⟩ := st
    simp only [List.mem_cons, List.not_mem_nil, or_false] at hc
    rcases hc with q | q <;> subst q
    · exact ⟨_, he, fun v q => nomatch q⟩
    · exact Sk.live st1
  keep := fun i h h' st k => by
    obtain ⟨⟨old, he⟩, st1⟩ := st
    exact ⟨⟨old, k e (by simp) _ he⟩, Sk.at_ st1 fun o q => k it (by simp) o q⟩
  item := by
    intro X hP hw hK hc i pins s σ H E I hf st hg
    subst hP hw hK
    obtain ⟨he, st1⟩ := st
    obtain ⟨xs, x, q1, e1⟩ := hg
    obtain ⟨its, rv, p1, _⟩ := Sk.inv I q1
    have hh : X.A.in1.handled = none := I.ok.hd hc
    have l1 := rv.length
    have hi : i < its.toArray.size := by
      have h1 := (List.getElem?_eq_some_iff.mp e1).1
      simp only [List.size_toArray]
      omega
    have Wk := WalksT.enumFrom (prog := X.prog) (w := X.w) (A := X.A) 0 (Sk.draws hh it a n1 its.toArray k) e n2 (by simp [n2, n3]) (by simp)
    refine thn (item_W Wk I hf ⟨he, ⟨st1, p1⟩⟩ hi (E := E) (Y := fun vs => vs = [.int (i : Nat), x]) fun vals hv => ?_) fun r s1 ⟨u, er, q⟩ => ⟨u, er, thn q fun _ s2 ⟨T, vs, hge, I2, eu, ev, st'⟩ => ?_⟩
    · obtain ⟨t, u1, h1, rfl⟩ := hv
      obtain ⟨x', z1, z2⟩ := itsAt rv h1
      rw [e1] at z1
      cases z1
      exact ⟨[.int (i : Nat), x], .cons ⟨t, by rw [Int.zero_add]⟩ (.cons z2 .nil), by show (2 : Nat) ≤ 1000; decide, rfl⟩
    · subst ev eu
      refine ⟨.ref T, _, I2, rfl, ⟨T, x, rfl, I.hok.fresh hge, rfl, fun xs' h => by rw [Sk.inj I h q1]; exact e1⟩, ⟨st'.1, st'.2.1⟩, fun b hb => ?_⟩
      have hb1 := (hf b hb).1
      rw [upd_ne fun e => ?_]
      · exact hb1
      · subst e
        have : b < s.heap.objs.size := by
          simp only [List.mem_cons, List.not_mem_nil, or_false] at hb
          obtain ⟨_, he⟩ := he
          obtain ⟨_, ho1, _⟩ := Sk.live st1
          rcases hb with q | q <;> rw [q]
          · exact Heap.lt_size he
          · exact Heap.lt_size ho1
        exact absurd (Nat.lt_of_lt_of_le this hge) (Nat.lt_irrefl _)
  done := by
    intro X hP hw hK hc i pins s σ H E I hf st hg
    subst hP hw hK
    obtain ⟨he, st1⟩ := st
    obtain ⟨xs, q1, rfl⟩ := hg
    obtain ⟨its, rv, p1, _⟩ := Sk.inv I q1
    have hh : X.A.in1.handled = none := I.ok.hd hc
    have hi : xs.length = its.toArray.size := by simp only [List.size_toArray, ← rv.length]
    rw [hi] at he st1
    have Wk := WalksT.enumFrom (prog := X.prog) (w := X.w) (A := X.A) 0 (Sk.draws hh it a n1 its.toArray k) e n2 (by simp [n2, n3]) (by simp)
    exact done_W Wk I hf ⟨he, ⟨st1, p1⟩⟩
  self := fun A i s Q E st h => let ⟨⟨_, he⟩, _⟩ := st; wpAny_pyIter_enum he h
def iEn (K : PySem.W.Frag) (ta : TA) : TI := fun σ H R => ta σ H fun vs H1 => ∃ k a xs, vs = [.ref a] ∧ Sk.has K H1 a xs k ∧ R (Ien K k a) H1
theorem pi_en {X : Cx} {as : List Expr} {e : Expr} {ta : TA} {p pos tpos : Pos} {elts : List Expr} {kk : Nat} (hg : Gl X "enumerate") (hm : X.mg "enumerate" = none) (ha : PA X (e :: as) ta) (hs : (e :: as).all notStar = true) :
    PI X (.Tuple elts kk tpos) (.Call (.Name "enumerate" p) (e :: as) [] pos) (iEn X.K ta) := by
  refine ⟨fun pins s σ H R I h => ?_⟩
  rw [List.all_cons, Bool.and_eq_true] at hs
  refine Call_ (ld_blt I hg hm boot_enumerate (PyProof.Rows.callWith_type1 (thn (ha.run pos pins s σ H _ I h) fun us s1 ⟨vs, H1, I1, r1, q1⟩ => ?_) (starEach_cons hs.1 as X.env) (plain_star hs.2 X.env pos)))
  obtain ⟨k, a, xs, ex, hq, q⟩ := q1
  subst ex
  obtain ⟨u, rfl, w1⟩ := vals1 r1
  cases w1
  obtain ⟨its, rv, p1, la⟩ := Sk.inv I1 hq
  refine call_en1 (Sk.begins a its.toArray k) p1 fun h' he hit hk => wpAny_pyIter_enum he ?_
  have I2 : Inv X pins σ H1 { s1 with heap := h' } := I1.kept (t' := s1.toks) hk
  refine ⟨s1.heap.objs.size + 1, [s1.heap.objs.size + 1, s1.heap.objs.size], _, _, H1, rfl, I2, turn_en (Nat.ne_of_lt la) (Nat.succ_ne_self _) (Nat.ne_of_gt (Nat.lt_succ_of_lt la)), ⟨⟨_, he⟩, Sk.new hit⟩, fun c hcm => ?_, q⟩
  have hle : s1.heap.objs.size ≤ c := by
    simp only [List.mem_cons, List.not_mem_nil, or_false] at hcm
    rcases hcm with z | z <;> rw [z]
    · exact Nat.le_add_right _ _
    · exact Nat.le_refl _
  exact I1.fpOk hle (I1.hok.fresh hle)
end DL
set_option Elab.async false
set_option linter.all false
set_option maxRecDepth 100000
set_option maxHeartbeats 1000000
/-! DL, part o: what a loop walks, by the evaluator. -/
namespace DL
open PySem PySem.Spec PyProof.Rows L2
/-- a sequence known for good, as a source -/
structure Src (K : Frg) (R1 : Hp) (k : Sk) (a : Addr) (xs : List V) (ds : List PyData) : Prop where
  rp : RpL K R1 xs ds
  has : ∀ R H, Le R1 R → Sb R H → Sk.has K H a xs k
section
variable {K : Frg} {R1 H0 : Hp} {G : List Addr}
theorem src_of {v : V} {d : PyData} {ds : List PyData} (h : Rp K R1 v d) (q : seqD d = some ds) : ∃ k a xs, v = .ref a ∧ Src K R1 k a xs ds := by
  cases d with
  | list l =>
    cases q
    cases h with
    | lst h l => exact ⟨.lst, _, _, rfl, l, fun R H le sb => .inl (sb.lst (le _ _ h))⟩
  | tuple l =>
    cases q
    cases h with
    | tup h l =>
      refine ⟨.tup, _, _, rfl, l, fun R H le sb => ?_⟩
      rcases h with h | h
      · exact .inl (.inl (sb.tup (le _ _ h)))
      · exact .inr h
  | _ => cases q
theorem enumD_at : ∀ {ds : List PyData} {n i : Nat} {d : PyData}, (enumD n ds)[i]? = some d → ∃ y, ds[i]? = some y ∧ d = .tuple [.int ((n + i : Nat) : Int), y]
  | [], _, _, _, h => by simp [enumD] at h
  | y :: ds, n, 0, d, h => by
    simp [enumD] at h
    exact ⟨y, rfl, by rw [← h]; rfl⟩
  | y :: ds, n, i + 1, d, h => by
    unfold enumD at h
    rw [List.getElem?_cons_succ] at h
    obtain ⟨z, h1, h2⟩ := enumD_at h
    refine ⟨z, by simpa using h1, ?_⟩
    rw [h2]
    congr 4
    omega
theorem enumD_len : ∀ (ds : List PyData) (n : Nat), (enumD n ds).length = ds.length
  | [], _ => rfl
  | _ :: ds, n => congrArg Nat.succ (enumD_len ds (n + 1))
theorem zipD_len : ∀ ds es : List PyData, (zipD ds es).length = min ds.length es.length
  | [], es => by cases es <;> simp [zipD]
  | _ :: _, [] => by simp [zipD]
  | _ :: ds, _ :: es => by
    unfold zipD
    rw [List.length_cons, zipD_len ds es, List.length_cons, List.length_cons]
    omega
theorem zipD_at : ∀ {ds es : List PyData} {i : Nat} {d : PyData}, (zipD ds es)[i]? = some d → ∃ y z, ds[i]? = some y ∧ es[i]? = some z ∧ d = .tuple [y, z]
  | [], es, _, _, h => by cases es <;> simp [zipD] at h
  | _ :: _, [], _, _, h => by simp [zipD] at h
  | y :: ds, z :: es, 0, d, h => by
    simp [zipD] at h
    exact ⟨y, z, rfl, rfl, h.symm⟩
  | y :: ds, z :: es, i + 1, d, h => by
    unfold zipD at h
    rw [List.getElem?_cons_succ] at h
    obtain ⟨y', z', h1, h2, h3⟩ := zipD_at h
    exact ⟨y', z', by simpa using h1, by simpa using h2, h3⟩
theorem r_none {R H : Hp} {T : Addr} (sb : Sb R H) (h : H T = none) : R T = none := by
  cases z : R T with
  | none => rfl
  | some u => rcases sb T u z with q | ⟨_, _, _, q⟩ <;> rw [h] at q <;> cases q
theorem walkD_en {k : Sk} {a : Addr} {xs : List V} {ds : List PyData} (s : Src K R1 k a xs ds) : WalkD K R1 H0 G (Ien K k a) (enumD 0 ds) := by
  refine ⟨YPair (fun i => some (.int (i : Nat))) (fun i => xs[i]?), ?_, fun i H v H' R d _ le sb y e => ?_⟩
  · rw [enumD_len, ← s.rp.len]
    refine ⟨fun i H hi ⟨_, R, le, sb⟩ => ⟨xs, xs[i], s.has R H le sb, by simp [hi]⟩, fun H ⟨_, R, le, sb⟩ => ⟨xs, s.has R H le sb, rfl⟩, fun i H v H' _ ⟨_, R, le, sb⟩ y => ?_⟩
    obtain ⟨T, x, h1, h2, h3, h4⟩ := y
    exact ⟨T, .int (i : Nat), x, h1, h2, h3, rfl, h4 xs (s.has R H le sb)⟩
  · obtain ⟨T, x, z, rfl, h2, rfl, y1, y2⟩ := y
    have y1 : some (V.int (i : Nat)) = some x := y1
    have y2 : xs[i]? = some z := y2
    cases y1
    obtain ⟨d', e1, e2⟩ := s.rp.at y2
    obtain ⟨d2, e3, rfl⟩ := enumD_at e
    rw [e1] at e3
    cases e3
    have le2 : Le R (upd R T (.tup [.int (i : Nat), z])) := Le.upd (r_none sb h2)
    rw [Nat.zero_add]
    exact ⟨_, .lay .refl h2, .tup (.inl upd_same) (.cons (.int _) (.one ((e2.mono le).mono le2)))⟩
theorem walkD_z2 {k1 k2 : Sk} {a b : Addr} {xs ys : List V} {ds es : List PyData} (s : Src K R1 k1 a xs ds) (t : Src K R1 k2 b ys es) : WalkD K R1 H0 G (Iz2 K k1 k2 a b) (zipD ds es) := by
  refine ⟨YPair (fun i => xs[i]?) (fun i => ys[i]?), ?_, fun i H v H' R d _ le sb y e => ?_⟩
  · rw [zipD_len, ← s.rp.len, ← t.rp.len]
    refine ⟨fun i H hi ⟨_, R, le, sb⟩ => ?_, fun H ⟨_, R, le, sb⟩ => ⟨xs, ys, s.has R H le sb, t.has R H le sb, rfl⟩, fun i H v H' _ ⟨_, R, le, sb⟩ y => ?_⟩
    · have h1 : i < xs.length := by omega
      have h2 : i < ys.length := by omega
      exact ⟨xs, ys, xs[i], ys[i], s.has R H le sb, t.has R H le sb, by simp [h1], by simp [h2]⟩
    · obtain ⟨T, x, z, h1, h2, h3, h4, h5⟩ := y
      exact ⟨T, x, z, h1, h2, h3, h4 xs (s.has R H le sb), h5 ys (t.has R H le sb)⟩
  · obtain ⟨T, x, z, rfl, h2, rfl, y1, y2⟩ := y
    have y1 : xs[i]? = some x := y1
    have y2 : ys[i]? = some z := y2
    obtain ⟨d', e1, e2⟩ := s.rp.at y1
    obtain ⟨d'', e3, e4⟩ := t.rp.at y2
    obtain ⟨d2, d3, e5, e6, rfl⟩ := zipD_at e
    rw [e1] at e5
    rw [e3] at e6
    cases e5
    cases e6
    have le2 : Le R (upd R T (.tup [x, z])) := Le.upd (r_none sb h2)
    exact ⟨_, .lay .refl h2, .tup (.inl upd_same) (.cons ((e2.mono le).mono le2) (.one ((e4.mono le).mono le2)))⟩
end
/-- what was held is a name's own again -/
def Unh (K : Frg) (R0 H0 : Hp) (G : List Addr) (H0' : Hp) (G' : List Addr) (h : Option Nat) (ρ : DEnv) (σ : L2.St) (R' : Hp) : Prop :=
  ∀ ρ2 R2 H2, Stt K R0 H0' G' ρ2 σ R2 H2 → Le R' R2 → Stt K R0 H0 G (unholdD h ρ ρ2) σ R2 H2
/-- what a loop walks: the data -/
def wiD (K : Frg) (cl : Cls) (W : XK) (it : It) (f : DEnv → Out (List PyData × DEnv)) : TI := fun σ H Rk => ∃ R0 H0 G ρ R, Stt K R0 H0 G ρ σ R H ∧ Ok2 K cl W R0 H0 G (f ρ) fun ds ρ' =>
  ∀ J H' R' H0' G', Stt K R0 H0' G' ρ' σ R' H' → Le R R' → WalkD K R' H0' G' J ds → Unh K R0 H0 G H0' G' (holdOf it) ρ σ R' → (holdOf it = none → H0' = H0 ∧ G' = G) → Rk J H'
section
variable {X : Cx} {cl : Cls} {W : XK} {tg iter a b : Expr} {as : List Expr} {e ea eb : E} {f fa fb : DEnv → OV} {it : It}
theorem unh_none {K : Frg} {R0 H0 : Hp} {G : List Addr} {ρ : DEnv} {σ : L2.St} {R' : Hp} (h : holdOf it = none) : Unh K R0 H0 G H0 G (holdOf it) ρ σ R' := by
  rw [h]
  exact fun ρ2 R2 H2 S _ => S
theorem ok2_ok {α : Type} {K : Frg} {R0 H0 : Hp} {G : List Addr} {a : α} {ρ : DEnv} {k : α → DEnv → Prop} : Ok2 K cl W R0 H0 G (.ok (a, ρ)) k ↔ k a ρ := Iff.rfl
theorem tR_ok {K : Frg} {R0 H0 R H : Hp} {G : List Addr} {ρ ρ1 : DEnv} {σ : L2.St} {d : PyData} {Q : VK} (S : Stt K R0 H0 G ρ σ R H) (hf : fa ρ = .ok (d, ρ1)) (k : ∀ v R1 H1, Stt K R0 H0 G ρ1 σ R1 H1 → Le R R1 → OpV K ea σ R1 v d → Q v H1) : tR K cl W ea fa σ H Q :=
  ⟨R0, H0, G, ρ, R, S, by rw [hf]; exact k⟩
/-- over a list, a tuple, a text, a dict's keys -/
theorem pi_eD (hn : isBor ea = none) (ha : PE X a (tN X.F cl W ea fa)) : PI X tg a (wiD X.F cl W (.e ea) fun ρ => (fa ρ).bind fun x => Out.ofOpt (iterD x.1) x.2) := by
  refine ⟨fun pins s σ H Rk I ⟨R0, H0, G, ρ, R, S, h⟩ => ?_⟩
  have ha := pe_frz ha
  have h := ok2_bind.mp h
  cases hf : fa ρ with
  | bad => rw [hf] at h; exact h.elim
  | exc c d =>
    rw [hf] at h
    exact (pi_list ha).run pins s σ H Rk I ⟨R0, H0, G, ρ, R, S, by rw [hf]; exact h⟩
  | ok x =>
    obtain ⟨d, ρ1⟩ := x
    rw [hf] at h
    obtain ⟨ds, hd, h⟩ := ok2_opt.mp (ok2_ok.mp h)
    have fin : ∀ J H' R', Stt X.F R0 H0 G ρ1 σ R' H' → Le R R' → WalkD X.F R' H0 G J ds → Rk J H' := fun J H' R' S' l' w => h J H' R' H0 G S' l' w (unh_none rfl) (fun _ => ⟨rfl, rfl⟩)
    cases d with
    | list l =>
      cases hd
      refine (pi_list ha).run pins s σ H Rk I (tR_ok S hf fun v R1 H1 S1 l1 o1 => ?_)
      have o2 := o1.rp hn
      cases o2 with
      | lst z q => exact ⟨_, rfl, ⟨_, .inl (S1.sub.lst z)⟩, fin _ _ R1 S1 l1 (walkD_list z q)⟩
    | tuple l =>
      cases hd
      refine (pi_tup ha).run pins s σ H Rk I (tR_ok S hf fun v R1 H1 S1 l1 o1 => ?_)
      have o2 := o1.rp hn
      cases o2 with
      | @tup a2 xt _ z q =>
        refine ⟨a2, rfl, ⟨xt, ?_⟩, fin _ _ R1 S1 l1 (walkD_tup z q)⟩
        rcases z with z | z
        · exact .inl (.inl (S1.sub.tup z))
        · exact .inr z
    | str x =>
      cases hd
      refine (pi_str ha).run pins s σ H Rk I (tR_ok S hf fun v R1 H1 S1 l1 o1 => ?_)
      have o2 := o1.rp hn
      cases o2
      exact ⟨_, rfl, fin _ _ R1 S1 l1 walkD_str⟩
    | dict l =>
      cases hd
      refine (pi_keysX ha).run pins s σ H Rk I (tR_ok S hf fun v R1 H1 S1 l1 o1 => ?_)
      have o2 := o1.rp hn
      cases o2 with
      | dic z q => exact ⟨_, _, rfl, .inl ⟨_, S1.sub.frz z, fin _ _ R1 S1 l1 (walkD_keys z q)⟩⟩
      | @dicX a o xs ks kn ko vo vk vv ds _ kd vd hx n x k q on p1 r1 p2 r2 e =>
        subst e
        obtain ⟨es, ep, e1, e2, e3⟩ := x.split
        have hv : Vals (ks.map (fun q => kV q.1) ++ [vk]) (es.toList.map (·.key)) := by
          rw [e2]
          exact (k.keys x.keys).append (.cons r1 .nil)
        have hl : RpL X.F R1 (ks.map (fun q => kV q.1) ++ [vk]) ((ds ++ [(kd, vd)]).map (·.1)) := by
          rw [List.map_append]
          exact q.keys.app (.one p1)
        exact ⟨_, _, rfl, .inr ⟨_, es, ep, S1.sub.frz hx, n, x.ex, e1, hv, fin _ _ R1 S1 l1 (walkD_x hx hl)⟩⟩
    | _ => cases hd
variable {p pos tpos : Pos} {elts : List Expr} {kk : Nat}
theorem pi_rng1 (hg : Gl X "range") (hm : X.mg "range" = none) (hs : notStar a = true) (hn : isBor ea = none) (ha : PE X a (tN X.F cl W ea fa)) : PI X tg (.Call (.Name "range" p) [a] [] pos) (wiD X.F cl W (.range1 ea) fun ρ => (fa ρ).bind fun x => (match x.1 with
    | .int n => if -(2 ^ 62) ≤ n ∧ n < 2 ^ 62 then .ok (rangeD 0 n.toNat, x.2) else .bad
    | _ => .bad)) := by
  refine ⟨fun pins s σ H Rk I ⟨R0, H0, G, ρ, R, S, h⟩ => ?_⟩
  refine (pi_range1 (tg := tg) hg hm (pa_consD hs ha pa_nilD) (starEach_cons hs [] X.env)).run pins s σ H Rk I ⟨R0, H0, G, ρ, R, S, resA_iff.mpr (ok2_bind.mpr ((ok2_bind.mp h).imp fun x ρ1 h => ?_))⟩
  refine fun vs R1 H1 S1 l1 o1 => ?_
  cases o1 with
  | cons o1 t =>
    cases t
    cases x with
    | int n =>
      have o2 := o1.rp hn
      cases o2
      have h : Ok2 X.F cl W R0 H0 G (if -(2 ^ 62) ≤ n ∧ n < 2 ^ 62 then .ok (rangeD 0 n.toNat, ρ1) else .bad) _ := h
      by_cases hb : -(2 ^ 62) ≤ n ∧ n < 2 ^ 62
      · rw [if_pos hb] at h
        exact ⟨n, rfl, hb.1, hb.2, h _ H1 R1 H0 G S1 l1 walkD_range (unh_none rfl) (fun _ => ⟨rfl, rfl⟩)⟩
      · rw [if_neg hb] at h
        exact h.elim
    | _ => exact h.elim
theorem pi_rng2 (hg : Gl X "range") (hm : X.mg "range" = none) (hs : notStar a = true) (hs2 : notStar b = true) (hn : isBor ea = none) (hn2 : isBor eb = none) (ha : PE X a (tN X.F cl W ea fa)) (hb : PE X b (tN X.F cl W eb fb)) :
    PI X tg (.Call (.Name "range" p) [a, b] [] pos) (wiD X.F cl W (.range2 ea eb) fun ρ => (fa ρ).bind fun x => (fb x.2).bind fun y => (match x.1, y.1 with
    | .int m, .int n => if -(2 ^ 62) ≤ m ∧ m < 2 ^ 62 ∧ -(2 ^ 62) ≤ n ∧ n < 2 ^ 62 then .ok (rangeD m (n - m).toNat, y.2) else .bad
    | _, _ => .bad)) := by
  refine ⟨fun pins s σ H Rk I ⟨R0, H0, G, ρ, R, S, h⟩ => ?_⟩
  refine (pi_range2 (tg := tg) hg hm (pa_consD hs ha (pa_consD hs2 hb pa_nilD)) (by rw [starEach_cons hs, starEach_cons hs2]; rfl) (by rw [starEach_cons hs2]; rfl)).run pins s σ H Rk I ⟨R0, H0, G, ρ, R, S, resA_iff.mpr (ok2_bind.mpr ((ok2_bind.mp h).imp fun x ρ1 h => ?_))⟩
  refine ok2_bind.mpr (ok2_bind.mpr ((ok2_bind.mp h).imp fun y ρ2 h => ?_))
  refine fun vs R1 H1 S1 l1 o1 => ?_
  cases o1 with
  | cons o1 t =>
    cases t with
    | cons o2 t =>
      cases t
      obtain ⟨m, rfl⟩ : ∃ m, x = .int m := by cases x <;> first | exact ⟨_, rfl⟩ | exact h.elim
      obtain ⟨n, rfl⟩ : ∃ n, y = .int n := by cases y <;> first | exact ⟨_, rfl⟩ | exact h.elim
      have p1 := o1.rp hn
      have p2 := o2.rp hn2
      cases p1
      cases p2
      have h : Ok2 X.F cl W R0 H0 G (if -(2 ^ 62) ≤ m ∧ m < 2 ^ 62 ∧ -(2 ^ 62) ≤ n ∧ n < 2 ^ 62 then .ok (rangeD m (n - m).toNat, ρ2) else .bad) _ := h
      by_cases hc : -(2 ^ 62) ≤ m ∧ m < 2 ^ 62 ∧ -(2 ^ 62) ≤ n ∧ n < 2 ^ 62
      · rw [if_pos hc] at h
        exact ⟨m, n, rfl, ⟨hc.1, hc.2.1, hc.2.2.1, hc.2.2.2⟩, h _ H1 R1 H0 G S1 l1 walkD_range (unh_none rfl) (fun _ => ⟨rfl, rfl⟩)⟩
      · rw [if_neg hc] at h
        exact h.elim
theorem pi_enD (hg : Gl X "enumerate") (hm : X.mg "enumerate" = none) (hs : notStar a = true) (hn : isBor ea = none) (ha : PE X a (tN X.F cl W ea fa)) :
    PI X (.Tuple elts kk tpos) (.Call (.Name "enumerate" p) [a] [] pos) (wiD X.F cl W (.enum ea) fun ρ => (fa ρ).bind fun x => Out.ofOpt ((seqD x.1).map (enumD 0)) x.2) := by
  refine ⟨fun pins s σ H Rk I ⟨R0, H0, G, ρ, R, S, h⟩ => ?_⟩
  refine (pi_en hg hm (pa_consD hs ha pa_nilD) (by simp [hs])).run pins s σ H Rk I ⟨R0, H0, G, ρ, R, S, resA_iff.mpr (ok2_bind.mpr ((ok2_bind.mp h).imp fun x ρ1 h => ?_))⟩
  obtain ⟨ds, hd, h⟩ := ok2_opt.mp h
  obtain ⟨es, hd2, rfl⟩ := Option.map_eq_some_iff.mp hd
  refine fun vs R1 H1 S1 l1 o1 => ?_
  cases o1 with
  | cons o1 t =>
    cases t
    obtain ⟨k, a, xs, rfl, sr⟩ := src_of (o1.rp hn) hd2
    exact ⟨k, a, xs, rfl, sr.has R1 H1 (Le.refl _) S1.sub, h _ H1 R1 H0 G S1 l1 (walkD_en sr) (unh_none rfl) (fun _ => ⟨rfl, rfl⟩)⟩
theorem Src.mono {K : Frg} {R1 R2 : Hp} {k : Sk} {a : Addr} {xs : List V} {ds : List PyData} (s : Src K R1 k a xs ds) (l : Le R1 R2) : Src K R2 k a xs ds := ⟨s.rp.mono l, fun R H le sb => s.has R H (l.trans le) sb⟩
theorem pi_z2D (hg : Gl X "zip") (hm : X.mg "zip" = none) (hs : notStar a = true) (hs2 : notStar b = true) (hn : isBor ea = none) (hn2 : isBor eb = none) (ha : PE X a (tN X.F cl W ea fa)) (hb : PE X b (tN X.F cl W eb fb)) :
    PI X (.Tuple elts kk tpos) (.Call (.Name "zip" p) [a, b] [] pos) (wiD X.F cl W (.zip2 ea eb) fun ρ => (fa ρ).bind fun x => (fb x.2).bind fun y => Out.ofOpt ((seqD x.1).bind fun l => (seqD y.1).map fun m => zipD l m) y.2) := by
  refine ⟨fun pins s σ H Rk I ⟨R0, H0, G, ρ, R, S, h⟩ => ?_⟩
  refine (pi_z2 hg hm (pa_consD hs ha (pa_consD hs2 hb pa_nilD)) (by simp [hs, hs2])).run pins s σ H Rk I ⟨R0, H0, G, ρ, R, S, resA_iff.mpr (ok2_bind.mpr ((ok2_bind.mp h).imp fun x ρ1 h => ?_))⟩
  refine ok2_bind.mpr (ok2_bind.mpr ((ok2_bind.mp h).imp fun y ρ2 h => ?_))
  obtain ⟨ds, hd, h⟩ := ok2_opt.mp h
  obtain ⟨d1, e1, hd⟩ := Option.bind_eq_some_iff.mp hd
  obtain ⟨d2, e2, rfl⟩ := Option.map_eq_some_iff.mp hd
  refine fun vs R1 H1 S1 l1 o1 => ?_
  cases o1 with
  | cons o1 t =>
    cases t with
    | cons o2 t =>
      cases t
      obtain ⟨k, a, xs, rfl, sr⟩ := src_of (o1.rp hn) e1
      obtain ⟨k2, b, ys, rfl, sr2⟩ := src_of (o2.rp hn2) e2
      exact ⟨k, k2, a, b, xs, ys, rfl, sr.has R1 H1 (Le.refl _) S1.sub, sr2.has R1 H1 (Le.refl _) S1.sub, h _ H1 R1 H0 G S1 l1 (walkD_z2 sr sr2) (unh_none rfl) (fun _ => ⟨rfl, rfl⟩)⟩
theorem pi_revD (hg : Gl X "reversed") (hm : X.mg "reversed" = none) (hs : notStar a = true) (hn : isBor ea = none) (ha : PE X a (tN X.F cl W ea fa)) :
    PI X tg (.Call (.Name "reversed" p) [a] [] pos) (wiD X.F cl W (.rev ea) fun ρ => (fa ρ).bind fun x => Out.ofOpt ((seqD x.1).map List.reverse) x.2) := by
  refine ⟨fun pins s σ H Rk I ⟨R0, H0, G, ρ, R, S, h⟩ => ?_⟩
  refine (RT.pi_revA (tg := tg) hg hm (pe_frz ha) (starEach_cons hs [] X.env)).run pins s σ H Rk I ⟨R0, H0, G, ρ, R, S, resR_iff.mpr ((ok2_bind.mp h).imp fun x ρ1 h => ?_)⟩
  obtain ⟨ds, hd, h⟩ := ok2_opt.mp h
  obtain ⟨es, hd2, rfl⟩ := Option.map_eq_some_iff.mp hd
  refine fun v R1 H1 S1 l1 o1 => ?_
  have o2 := o1.rp hn
  have fin : ∀ J, WalkD X.F R1 H0 G J es.reverse → Rk J H1 := fun J w => h J H1 R1 H0 G S1 l1 w (unh_none rfl) (fun _ => ⟨rfl, rfl⟩)
  have hd2 : seqD x = some es := hd2
  cases x <;> first | (cases hd2; done) | skip
  · cases hd2
    cases o2 with
    | lst z q => exact ⟨_, _, rfl, .inl ⟨.inl (S1.sub.lst z), fin _ (walkD_rev z q)⟩⟩
  · cases hd2
    cases o2 with
    | @tup a2 xt _ z q =>
      refine ⟨a2, xt, rfl, .inr ⟨?_, fin _ (walkD_revT z q)⟩⟩
      rcases z with z | z
      · exact .inl (.inl (S1.sub.tup z))
      · exact .inr z
theorem pi_itemsD {apos cpos : Pos} (hbase : attributeBase a "items" X.env (eval a X.env) = eval a X.env) (hline : (apos.endLine == cpos.line) = true) (hn : isBor ea = none) (ha : PE X a (tN X.F cl W ea fa)) :
    PI X (.Tuple elts kk tpos) (.Call (.Attribute a "items" apos) [] [] cpos) (wiD X.F cl W (.items ea) fun ρ => (fa ρ).bind fun x => (match x.1 with
    | .dict kvs => if plainKeys kvs then .ok (kvs.map fun q => .tuple [q.1, q.2], x.2) else .bad
    | _ => .bad)) := by
  refine ⟨fun pins s σ H Rk I ⟨R0, H0, G, ρ, R, S, h⟩ => ?_⟩
  refine (pi_items (pe_frz ha) hbase hline).run pins s σ H Rk I ⟨R0, H0, G, ρ, R, S, resR_iff.mpr ((ok2_bind.mp h).imp fun x ρ1 h => ?_)⟩
  refine fun v R1 H1 S1 l1 o1 => ?_
  have o2 := o1.rp hn
  cases x <;> first | exact h.elim | skip
  rename_i kvs
  have h : Ok2 X.F cl W R0 H0 G (if plainKeys kvs then .ok (kvs.map fun q => PyData.tuple [q.1, q.2], ρ1) else .bad) _ := h
  cases o2 with
  | dicX _ _ _ _ _ o _ _ _ _ e =>
    rw [not_plainX o e] at h
    exact h.elim
  | dic z q =>
    rw [q.plain] at h
    exact ⟨_, _, _, rfl, S1.sub.frz z, h _ H1 R1 H0 G S1 l1 (walkD_items z q) (unh_none rfl) (fun _ => ⟨rfl, rfl⟩)⟩
end
end DL
set_option Elab.async false
set_option linter.all false
set_option maxRecDepth 100000
set_option maxHeartbeats 1000000
/-! DL, part p: comprehensions. -/
namespace DL
open PySem PySem.Spec PyProof.Rows L2
theorem set_get_ne {α : Type} {l : List α} {i j : Nat} {x : α} (h : j ≠ i) : (l.set i x)[j]? = l[j]? := by rw [List.getElem?_set_ne (Ne.symm h)]
theorem wipe_get {σ : L2.St} {j : Nat} : ∀ {vs : List Nat}, j ∉ vs → (wipe σ vs)[j]? = σ[j]?
  | [], _ => rfl
  | v :: vs, h => by
    unfold wipe
    rw [set_get_ne (fun e => h (by rw [e]; exact List.mem_cons_self))]
    exact wipe_get fun z => h (List.mem_cons_of_mem _ z)
theorem wipeD_get {ρ : DEnv} {j : Nat} : ∀ {vs : List Nat}, j ∉ vs → (wipeD ρ vs)[j]? = ρ[j]?
  | [], _ => rfl
  | v :: vs, h => by
    unfold wipeD
    rw [set_get_ne (fun e => h (by rw [e]; exact List.mem_cons_self))]
    exact wipeD_get fun z => h (List.mem_cons_of_mem _ z)
theorem wipeD_len (ρ : DEnv) : ∀ vs : List Nat, (wipeD ρ vs).length = ρ.length
  | [] => rfl
  | v :: vs => by unfold wipeD; rw [List.length_set, wipeD_len ρ vs]
theorem wipe_mem {σ : L2.St} {j : Nat} (hj : j < σ.length) : ∀ {vs : List Nat}, j ∈ vs → (wipe σ vs)[j]? = some none
  | v :: vs, h => by
    unfold wipe
    by_cases e : j = v
    · subst e
      rw [List.getElem?_set_self (by rw [wipe_length]; exact hj)]
    · rw [set_get_ne e]
      exact wipe_mem hj ((List.mem_cons.mp h).resolve_left e)
theorem wipeD_mem {ρ : DEnv} {j : Nat} (hj : j < ρ.length) : ∀ {vs : List Nat}, j ∈ vs → (wipeD ρ vs)[j]? = some .no
  | v :: vs, h => by
    unfold wipeD
    by_cases e : j = v
    · subst e
      rw [List.getElem?_set_self (by rw [wipeD_len]; exact hj)]
    · rw [set_get_ne e]
      exact wipeD_mem hj ((List.mem_cons.mp h).resolve_left e)
theorem wipe_ext {σ σ' : L2.St} {vs : List Nat} (hl : σ.length = σ'.length) (h : ∀ j, j ∉ vs → σ[j]? = σ'[j]?) : wipe σ vs = wipe σ' vs := by
  apply List.ext_getElem?
  intro j
  by_cases e : j ∈ vs
  · by_cases hj : j < σ.length
    · rw [wipe_mem hj e, wipe_mem (by rw [← hl]; exact hj) e]
    · rw [List.getElem?_eq_none (by rw [wipe_length]; omega), List.getElem?_eq_none (by rw [wipe_length]; omega)]
  · rw [wipe_get e, wipe_get e, h j e]
section
variable {K : Frg} {R0 H0 R R' H H' : Hp} {G : List Addr} {ρ : DEnv} {σ : L2.St}
theorem Stt.wiped (S : Stt K R0 H0 G ρ σ R H) : ∀ vs : List Nat, Stt K R0 H0 G (wipeD ρ vs) (wipe σ vs) R H
  | [] => S
  | v :: vs => (S.wiped vs).setNo
theorem Fresh.wiped {a : Addr} (F : Fresh ρ σ R H0 a) (hl : ρ.length = σ.length) (vs : List Nat) : Fresh (wipeD ρ vs) (wipe σ vs) R H0 a := by
  refine ⟨F.r, F.h, fun i s e o x => ?_⟩
  have hi : i < ρ.length := by
    have := (List.getElem?_eq_some_iff.mp e).1
    rwa [wipeD_len] at this
  by_cases m : i ∈ vs
  · rw [wipeD_mem hi m] at e
    cases e
    cases o
  · rw [wipeD_get m] at e
    rw [wipe_get m] at x
    exact F.n i s e o x
/-- what is held outside may not be changed -/
theorem Stt.hold (S : Stt K R0 H0 G ρ σ R H) {D : Addr} {u : HO} (F : Fresh ρ σ R H0 D) (hD : H D = some u) : Stt K R0 (upd H0 D u) G ρ σ R H := by
  refine ⟨S.sub, S.old, fun a q => ?_, fun b o e g => ?_, fun a g => ?_, S.gH, S.len, fun i s e => ?_, S.ap⟩
  · rcases S.new a q with z | z
    · exact .inl z
    · refine .inr ?_
      rw [upd_ne fun e => q (by rw [e]; exact F.r)]
      exact z
  · by_cases n : b = D
    · rw [n, upd_same] at e
      cases e
      rw [n]
      exact hD
    · rw [upd_ne n] at e
      exact S.keep b o e g
  · have n : a ≠ D := fun z => S.g0 a g (by rw [z]; exact F.h)
    rw [upd_ne n]
    exact S.g0 a g
  · have ok := S.sl i s e
    cases s with
    | no => trivial
    | val d => exact ok
    | exc c d => exact ok
    | own r l =>
      obtain ⟨a, xs, e1, h1, h2, h3, h4⟩ := ok
      refine ⟨a, xs, e1, h1, h2, h3, ?_⟩
      cases r with
      | true => exact h4
      | false =>
        show upd H0 D u a = none
        rw [upd_ne fun z => F.n i _ e rfl (by rw [e1, z])]
        exact h4
    | ownD r l =>
      obtain ⟨a, xs, e1, h1, h2, h3, h4⟩ := ok
      refine ⟨a, xs, e1, h1, h2, h3, ?_⟩
      cases r with
      | true => exact h4
      | false =>
        show upd H0 D u a = none
        rw [upd_ne fun z => F.n i _ e rfl (by rw [e1, z])]
        exact h4
theorem Stt.unhold {D : Addr} {u : HO} (S : Stt K R0 (upd H0 D u) G ρ σ R H) (h0 : H0 D = none) (hg : D ∉ G) (hr : R0 D = none) : Stt K R0 H0 G ρ σ R H ∧ Fresh ρ σ R H0 D ∧ H D = some u := by
  have rD : R D = none := by
    cases e : R D with
    | none => rfl
    | some w =>
      rcases S.new D (by rw [e]; simp) with z | z
      · exact absurd hr z
      · rw [upd_same] at z
        cases z
  have sn : ∀ (i : Nat) (s : Slot), ρ[i]? = some s → s.isOwn = true → σ[i]? ≠ some (some (.ref D)) := fun i s e o x => by
    have ok := S.sl i s e
    cases s with
    | no => cases o
    | val d => cases o
    | exc c d => cases o
    | own r l =>
      obtain ⟨a, xs, e1, h1, h2, h3, h4⟩ := ok
      rw [x] at e1
      cases e1
      cases r with
      | true => exact hg h4
      | false =>
        have h4 : upd H0 D u D = none := h4
        rw [upd_same] at h4
        cases h4
    | ownD r l =>
      obtain ⟨a, xs, e1, h1, h2, h3, h4⟩ := ok
      rw [x] at e1
      cases e1
      cases r with
      | true => exact hg h4
      | false =>
        have h4 : upd H0 D u D = none := h4
        rw [upd_same] at h4
        cases h4
  refine ⟨⟨S.sub, S.old, fun a q => ?_, fun b o e g => ?_, fun a g => ?_, S.gH, S.len, fun i s e => ?_, S.ap⟩, ⟨rD, h0, sn⟩, S.keep D u upd_same hg⟩
  · rcases S.new a q with z | z
    · exact .inl z
    · rw [upd_ne fun e => q (by rw [e]; exact rD)] at z
      exact .inr z
  · exact S.keep b o (by rw [upd_ne (ne_of_none e h0)]; exact e) g
  · have q := S.g0 a g
    rw [upd_ne (fun z => hg (by rw [← z]; exact g))] at q
    exact q
  · have ok := S.sl i s e
    cases s with
    | no => trivial
    | val d => exact ok
    | exc c d => exact ok
    | own r l =>
      obtain ⟨a, xs, e1, h1, h2, h3, h4⟩ := ok
      refine ⟨a, xs, e1, h1, h2, h3, ?_⟩
      cases r with
      | true => exact h4
      | false =>
        have h4 : upd H0 D u a = none := h4
        rw [upd_ne fun z => sn i _ e rfl (by rw [e1, z])] at h4
        exact h4
    | ownD r l =>
      obtain ⟨a, xs, e1, h1, h2, h3, h4⟩ := ok
      refine ⟨a, xs, e1, h1, h2, h3, ?_⟩
      cases r with
      | true => exact h4
      | false =>
        have h4 : upd H0 D u a = none := h4
        rw [upd_ne fun z => sn i _ e rfl (by rw [e1, z])] at h4
        exact h4
theorem Grow.keep {a : Addr} {u : HO} (g : Grow R H R' H') (h : H a = some u) : H' a = some u := by
  induction g with
  | refl => exact h
  | lay g hp ih => rw [upd_ne (ne_of_none ih hp)]; exact ih
theorem Grow.none {a : Addr} (g : Grow R H R' H') (h : R a = none) (hH : H a ≠ none) : R' a = none := by
  induction g with
  | refl => exact h
  | @lay R1 H1 p u g hp ih =>
    have n : a ≠ p := fun z => by
      cases e : H a with
      | none => exact hH e
      | some w =>
        have q := g.keep e
        rw [z, hp] at q
        cases q
    rw [upd_ne n]
    exact ih
theorem backD_len (ρ1 ρ2 : DEnv) : ∀ vs : List Nat, (backD ρ1 ρ2 vs).length = ρ2.length
  | [] => rfl
  | v :: vs => by unfold backD; rw [List.length_set, backD_len ρ1 ρ2 vs]
theorem backD_get {ρ1 ρ2 : DEnv} {j : Nat} : ∀ {vs : List Nat}, j ∉ vs → (backD ρ1 ρ2 vs)[j]? = ρ2[j]?
  | [], _ => rfl
  | v :: vs, h => by
    unfold backD
    rw [set_get_ne (fun e => h (by rw [e]; exact List.mem_cons_self))]
    exact backD_get fun z => h (List.mem_cons_of_mem _ z)
theorem backD_mem {ρ1 ρ2 : DEnv} {j : Nat} (hj : j < ρ2.length) : ∀ {vs : List Nat}, j ∈ vs → (backD ρ1 ρ2 vs)[j]? = some (ρ1.getD j .no)
  | v :: vs, h => by
    unfold backD
    by_cases e : j = v
    · subst e
      rw [List.getElem?_set_self (by rw [backD_len]; exact hj)]
    · rw [set_get_ne e]
      exact backD_mem hj ((List.mem_cons.mp h).resolve_left e)
/-- the names of a comprehension as they stood -/
theorem Stt.backed {R1 H1 : Hp} {ρ1 ρ2 : DEnv} {vs : List Nat} {τ : L2.St} (S1 : Stt K R0 H0 G ρ1 σ R1 H1) (l : Le R1 R) (hn : ∀ i ∈ vs, (ρ1.getD i .no).isOwn = false) (S2 : Stt K R0 H0 G ρ2 τ R H) (hl : τ.length = σ.length) (he : ∀ j, j ∉ vs → τ[j]? = σ[j]?) :
    Stt K R0 H0 G (backD ρ1 ρ2 vs) σ R H := by
  have lens : ρ1.length = ρ2.length := by rw [S1.len, S2.len, hl]
  have at1 : ∀ (i : Nat) (s : Slot), (backD ρ1 ρ2 vs)[i]? = some s → i ∈ vs → ρ1[i]? = some s ∧ s.isOwn = false := fun i s e m => by
    have hi : i < ρ2.length := by
      have := (List.getElem?_eq_some_iff.mp e).1
      rwa [backD_len] at this
    rw [backD_mem hi m] at e
    cases e
    refine ⟨?_, hn i m⟩
    have hi1 : i < ρ1.length := by rw [lens]; exact hi
    simp [List.getD, hi1]
  refine ⟨S2.sub, S2.old, S2.new, S2.keep, S2.g0, S2.gH, by rw [backD_len, ← lens, S1.len], fun i s e => ?_, fun i j s s' a e e' o o' x x' => ?_⟩
  · by_cases m : i ∈ vs
    · obtain ⟨e1, o1⟩ := at1 i s e m
      exact (S1.sl i s e1).mono l fun a o => by rw [o1] at o; cases o
    · rw [backD_get m] at e
      rw [← he i m]
      exact S2.sl i s e
  · have m : i ∉ vs := fun m => by rw [(at1 i s e m).2] at o; cases o
    have m' : j ∉ vs := fun m => by rw [(at1 j s' e' m).2] at o'; cases o'
    rw [backD_get m] at e
    rw [backD_get m'] at e'
    rw [← he i m] at x
    rw [← he j m'] at x'
    exact S2.ap i j s s' a e e' o o' x x'
end
/-! ### targets -/
def gNames : List Nat → TGs
  | [] => gNil
  | i :: is => gCons (gName i) (gNames is)
def gD (K : Frg) : Tg → TG
  | .n i => gName i
  | .t is => gTup K is.length (gNames is)
def Tg.ix : Tg → List Nat
  | .n i => [i]
  | .t is => is
section
variable {K : Frg} {R0 H0 R H : Hp} {G : List Addr}
theorem gNames_ok : ∀ {is : List Nat} {ds : List PyData} {xs : List V} {ρ ρ' : DEnv} {σ : L2.St} {Q : L2.St → Hp → Prop}, Stt K R0 H0 G ρ σ R H → RpL K R xs ds → bindL is ds ρ = some ρ' →
    (∀ σ', Stt K R0 H0 G ρ' σ' R H → σ'.length = σ.length → (∀ j, j ∉ is → σ'[j]? = σ[j]?) → Q σ' H) → gNames is xs σ H Q
  | [], [], _, _, _, _, _, S, .nil, b, k => by
    cases b
    exact ⟨rfl, k _ S rfl fun _ _ => rfl⟩
  | i :: is, d :: ds, _, _, _, _, _, S, .cons (v := v) (vs := vs) h t, b, k => ⟨v, vs, rfl, gNames_ok (S.setVal h) t b fun σ' S' hl he => k σ' S' (by rw [hl, List.length_set]) fun j hj => by
      rw [he j (fun m => hj (List.mem_cons_of_mem _ m)), set_get_ne fun e => hj (by rw [e]; exact List.mem_cons_self)]⟩
  | [], _ :: _, _, _, _, _, _, _, _, b, _ => by cases b
  | _ :: _, [], _, _, _, _, _, _, _, b, _ => by cases b
theorem bindL_len : ∀ {is : List Nat} {ds : List PyData} {ρ ρ' : DEnv}, bindL is ds ρ = some ρ' → ds.length = is.length
  | [], [], _, _, _ => rfl
  | _ :: _, _ :: _, _, _, b => congrArg Nat.succ (bindL_len b)
  | [], _ :: _, _, _, b => by cases b
  | _ :: _, [], _, _, b => by cases b
theorem gD_ok {X : Cx} {tg : Tg} {v : V} {d : PyData} {ρ ρ' : DEnv} {σ : L2.St} {Q : L2.St → Hp → Prop} (S : Stt X.F R0 H0 G ρ σ R H) (h : Rp X.F R v d) (b : bindT tg d ρ = some ρ')
    (k : ∀ σ', Stt X.F R0 H0 G ρ' σ' R H → σ'.length = σ.length → (∀ j, j ∉ tg.ix → σ'[j]? = σ[j]?) → Q σ' H) : gD X.F tg v σ H Q := by
  cases tg with
  | n i =>
    cases b
    exact k _ (S.setVal h) List.length_set fun j hj => set_get_ne fun e => hj (by rw [e]; exact List.mem_singleton_self _)
  | t is =>
    cases d with
    | tuple ds =>
      obtain ⟨a, xs, rfl, ha, la⟩ := h.tuple (X := X) S.sub
      exact ⟨a, xs, rfl, ha, by rw [la.len]; exact bindL_len b, gNames_ok S la b k⟩
    | _ => cases b
end
/-! ### a comprehension -/
def stepD (tg : Tg) (ft : DEnv → Out (Bool × DEnv)) (fe : DEnv → OV) : PyData → DEnv → Out (Option PyData × DEnv) := fun d ρ1 => (match bindT tg d ρ1 with
    | some ρ2 => (ft ρ2).bind fun q => if q.1 then (fe q.2).bind fun y => .ok (some y.1, y.2) else .ok (none, q.2)
    | none => .bad)
def lcF (own : List Nat) (tg : Tg) (it : It) (fi : DEnv → Out (List PyData × DEnv)) (ft : DEnv → Out (Bool × DEnv)) (fe : DEnv → OV) : DEnv → OV := fun ρ =>
  (fi ρ).bind fun x => if own.any (fun i => (x.2.getD i .no).isOwn) || decide (sizeLine < x.1.length) then .bad else (lcLoop own (stepD tg ft fe) x.1 [] x.2).bind fun y => .ok (.list y.1, unholdD (holdOf it) ρ (backD x.2 (wipeD y.2 own) own))
theorem lc_noexc {own : List Nat} {step : PyData → DEnv → Out (Option PyData × DEnv)} : ∀ {ds acc : List PyData} {ρ : DEnv} {c : Str} {d : PyData}, lcLoop own step ds acc ρ ≠ .exc c d
  | [], _, _, _, _, h => nomatch h
  | x :: xs, acc, ρ, c, d, h => by
    unfold lcLoop at h
    cases e : step x (wipeD ρ own) with
    | ok r => rw [e] at h; exact lc_noexc h
    | exc c' d' => rw [e] at h; cases h
    | bad => rw [e] at h; cases h
/-- one turn, taken apart -/
theorem lc_turn {own : List Nat} {tg : Tg} {ft : DEnv → Out (Bool × DEnv)} {fe : DEnv → OV} {d : PyData} {ds acc : List PyData} {ρ : DEnv} {y : List PyData × DEnv} (h : lcLoop own (stepD tg ft fe) (d :: ds) acc ρ = .ok y) :
    ∃ ρ1 b ρ2, bindT tg d (wipeD ρ own) = some ρ1 ∧ ft ρ1 = .ok (b, ρ2) ∧ ((b = true ∧ ∃ e ρ3, fe ρ2 = .ok (e, ρ3) ∧ lcLoop own (stepD tg ft fe) ds (acc ++ [e]) ρ3 = .ok y) ∨ (b = false ∧ lcLoop own (stepD tg ft fe) ds acc ρ2 = .ok y)) := by
  unfold lcLoop at h
  unfold stepD at h
  cases e1 : bindT tg d (wipeD ρ own) with
  | none => rw [e1] at h; cases h
  | some ρ1 =>
    rw [e1] at h
    simp only at h
    cases e2 : ft ρ1 with
    | bad => rw [e2] at h; cases h
    | exc c d => rw [e2] at h; cases h
    | ok q =>
      obtain ⟨b, ρ2⟩ := q
      rw [e2] at h
      refine ⟨ρ1, b, ρ2, rfl, e2, ?_⟩
      cases b with
      | false => exact .inr ⟨rfl, h⟩
      | true =>
        simp only [Out.bind, if_true] at h
        cases e3 : fe ρ2 with
        | bad => rw [e3] at h; cases h
        | exc c d => rw [e3] at h; cases h
        | ok w =>
          obtain ⟨e, ρ3⟩ := w
          rw [e3] at h
          exact .inl ⟨rfl, e, ρ3, rfl, h⟩
abbrev WF : XK := fun _ _ _ => False
section
variable {X : Cx} {cm : Cls} {W : XK} {tgE iter elt : Expr} {ifs : List Expr} {scope : Scope} {own : List (Str × Nat)} {pos : Pos} {tg : Tg} {it : It} {fi : DEnv → Out (List PyData × DEnv)} {ft : DEnv → Out (Bool × DEnv)} {fe : DEnv → OV} {ee : E}
/-- what a loop walks, the state told -/
def wiX (K : Frg) (cl : Cls) (W : XK) (it : It) (f : DEnv → Out (List PyData × DEnv)) (R0 H0 : Hp) (G : List Addr) (ρ : DEnv) (R : Hp) : TI := fun σ H Rk => Stt K R0 H0 G ρ σ R H ∧ Ok2 K cl W R0 H0 G (f ρ) fun ds ρ' =>
  ∀ J H' R' H0' G', Stt K R0 H0' G' ρ' σ R' H' → Le R R' → WalkD K R' H0' G' J ds → Unh K R0 H0 G H0' G' (holdOf it) ρ σ R' → (holdOf it = none → H0' = H0 ∧ G' = G) → Rk J H'
theorem tLcX (hix : ∀ i ∈ tg.ix, i ∈ own.map (·.2)) (hn : isBor ee = none) (σ : L2.St) (H : Hp) (Q : VK) {R0 H0 : Hp} {G : List Addr} {ρ : DEnv} {R : Hp} (S : Stt X.F R0 H0 G ρ σ R H) (h : ResN X.F cm W R0 H0 G (.lst []) σ R Q (lcF (own.map (·.2)) tg it fi ft fe ρ)) :
    tLc (wiX X.F cm W it fi R0 H0 G ρ R) (gD X.F tg) (tT X.F cm WF ft) (tR X.F cm WF ee fe) (own.map (·.2)) σ H Q := by
  generalize hvs : own.map (·.2) = vs at h hix ⊢
  refine ⟨S, (ok2_bind.mp (resN_iff.mp h)).imp fun ds ρ1 h J H1 R1 H0' G' S1 l1 wk unh _ D hD => ?_⟩
  have h : Ok2 X.F cm W R0 H0 G (if vs.any (fun i => (ρ1.getD i .no).isOwn) || decide (sizeLine < ds.length) then .bad else (lcLoop vs (stepD tg ft fe) ds [] ρ1).bind fun y => .ok (.list y.1, unholdD (holdOf it) ρ (backD ρ1 (wipeD y.2 vs) vs))) fun d ρ => ∀ v R' H', Stt X.F R0 H0 G ρ σ R' H' → Le R R' → OpN X.F (.lst []) ρ σ R' H0 H' v d → Q v H' := h
  by_cases hc : (vs.any (fun i => (ρ1.getD i .no).isOwn) || decide (sizeLine < ds.length)) = true
  · rw [if_pos hc] at h
    exact h.elim
  rw [if_neg hc] at h
  rw [Bool.or_eq_true, not_or] at hc
  have hno : ∀ i ∈ vs, (ρ1.getD i .no).isOwn = false := fun i m => by
    cases e : (ρ1.getD i .no).isOwn with
    | false => rfl
    | true => exact absurd (List.any_eq_true.mpr ⟨i, m, e⟩) hc.1
  have hsz : ds.length ≤ sizeLine := by
    have := hc.2
    simp only [decide_eq_true_eq] at this
    omega
  cases hl : lcLoop vs (stepD tg ft fe) ds [] ρ1 with
  | bad => rw [hl] at h; exact h.elim
  | exc c d => exact absurd hl lc_noexc
  | ok y =>
    rw [hl] at h
    obtain ⟨acc1, ρF⟩ := y
    obtain ⟨Y, wlk, wy⟩ := wk.ex
    have r1D : R1 D = none := S1.r0 hD
    have r0D : R0 D = none := by
      cases e : R0 D with
      | none => rfl
      | some u => rw [S1.old D u e] at r1D; cases r1D
    have h0D : H0' D = none := S1.h0 hD
    have gD' : D ∉ G' := fun g => S1.g0 D g h0D
    refine lc_it wlk (fun i H => ∃ R2 ρ2 acc xs, Stt X.F R0 H0' G' (wipeD ρ2 vs) (wipe σ vs) R2 H ∧ Le R1 R2 ∧ Fresh (wipeD ρ2 vs) (wipe σ vs) R2 H0' D ∧ H D = some (.lst xs) ∧ RpL X.F R2 xs acc ∧ acc.length ≤ i ∧ lcLoop vs (stepD tg ft fe) (ds.drop i) acc ρ2 = .ok (acc1, ρF)) ?_ ?_ ?_ ?_
    · have Sw := S1.wiped vs
      exact ⟨R1, ρ1, [], [], Sw.alloc hD, Le.refl _, Sw.fresh hD, upd_same, .nil, Nat.le_refl _, hl⟩
    · rintro i H _ ⟨R2, ρ2, acc, xs, S2, l2, _⟩
      exact ⟨S2.keep, R2, l2, S2.sub⟩
    · rintro i x H H' hi ⟨R2, ρ2, acc, xs, S2, l2, F2, hDx, la, hlen, hloop⟩ hy
      obtain ⟨d, hd⟩ : ∃ d, ds[i]? = some d := ⟨ds[i], by simp [hi]⟩
      obtain ⟨R3, g3, p3⟩ := wy i H x H' R2 d S2.keep l2 S2.sub hy hd
      obtain ⟨S3, l3⟩ := S2.grow g3
      have hD3 := g3.keep hDx
      have F3 : Fresh (wipeD ρ2 vs) (wipe σ vs) R3 H0' D := ⟨g3.none F2.r (by rw [hDx]; simp), F2.h, F2.n⟩
      have S3h := S3.hold F3 hD3
      have ed : ds.drop i = d :: ds.drop (i + 1) := by
        have := List.drop_eq_getElem_cons hi
        rw [this]
        congr 1
        simpa [hi] using hd
      rw [ed] at hloop
      obtain ⟨ρ3, b, ρ4, eb, et, hrest⟩ := lc_turn hloop
      refine gD_ok S3h p3 eb fun σ2 S4 hl2 he2 => ?_
      have ew : wipe σ2 vs = wipe σ vs := by
        refine wipe_ext (by rw [hl2, wipe_length]) fun j hj => ?_
        rw [he2 j fun m => hj (hix j m), wipe_get hj]
      refine ⟨ew, R0, _, G', ρ3, R3, S4, ?_⟩
      rw [et]
      refine fun R5 H5 S5 l5 => ?_
      rcases hrest with ⟨rfl, e, ρ5, ee', hloop'⟩ | ⟨rfl, hloop'⟩
      · show tR X.F cm WF ee fe σ2 H5 _
        refine tR_ok S5 ee' fun v R6 H6 S6 l6 o6 => ?_
        obtain ⟨S7, F7, hD7⟩ := S6.unhold h0D gD' r0D
        have S8 := S7.wiped vs
        rw [ew] at S8
        have F8 := F7.wiped S7.len vs
        rw [ew] at F8
        have lacc := la.len
        have la6 := (((la.mono l3).mono l5).mono l6).app (.one (o6.rp hn))
        refine ⟨xs, hD7, by omega, R6, ρ5, acc ++ [e], xs ++ [v], S8.outer F8, ((l2.trans l3).trans l5).trans l6, F8, upd_same, la6, ?_, hloop'⟩
        rw [List.length_append]
        show acc.length + 1 ≤ i + 1
        omega
      · show ∃ R2 ρ2 acc xs, _
        obtain ⟨S7, F7, hD7⟩ := S5.unhold h0D gD' r0D
        have S8 := S7.wiped vs
        rw [ew] at S8
        have F8 := F7.wiped S7.len vs
        rw [ew] at F8
        exact ⟨R5, ρ4, acc, xs, S8, (l2.trans l3).trans l5, F8, hD7, (la.mono l3).mono l5, by omega, hloop'⟩
    · rintro Hz ⟨R2, ρ2, acc, xs, S2, l2, F2, hDx, la, hlen, hloop⟩
      rw [List.drop_length] at hloop
      cases hloop
      have Sb' := S1.backed l2 hno S2 (wipe_length σ vs) (fun j hj => wipe_get hj)
      have Sf := unh _ R2 Hz Sb' l2
      have Sx := unh ρ1 R1 H1 S1 (Le.refl _)
      refine h _ R2 Hz Sf (l1.trans l2) (.new rfl (.lst ⟨F2.r, Sx.h0 hD, fun j s e o x => ?_⟩ hDx la))
      have lF : ρF.length = ρ1.length := by
        have q := S2.len
        rw [wipeD_len, wipe_length] at q
        rw [S1.len]
        exact q
      have held : ∀ i0, holdOf it = some i0 → j = i0 → False := fun i0 e0 ej => by
        subst ej
        have lj : j < ρ1.length := by
          have := (List.getElem?_eq_some_iff.mp x).1
          rw [S1.len]
          exact this
        have e3 : (unholdD (holdOf it) ρ ρ1)[j]? = some s := by
          rw [e0] at e ⊢
          unfold unholdD at e ⊢
          have lb : j < (backD ρ1 (wipeD ρF vs) vs).length := by
            rw [backD_len, wipeD_len, lF]
            exact lj
          simp only [List.getElem?_set_self lb] at e
          simp only [List.getElem?_set_self lj]
          exact e
        exact (Sx.ownAt e3 o x).1 hD
      have e2 : (backD ρ1 (wipeD ρF vs) vs)[j]? = some s := by
        cases e0 : holdOf it with
        | none =>
          rw [e0] at e
          exact e
        | some i0 =>
          rw [e0] at e
          unfold unholdD at e
          simp only [set_get_ne fun ej => held i0 e0 ej] at e
          exact e
      by_cases m : j ∈ vs
      · have lj : j < (wipeD ρF vs).length := by
          have := (List.getElem?_eq_some_iff.mp e2).1
          rwa [backD_len] at this
        rw [backD_mem lj m] at e2
        cases e2
        rw [hno j m] at o
        cases o
      · rw [backD_get m] at e2
        exact F2.n j s e2 o (by rw [wipe_get m]; exact x)
theorem tLcD (hix : ∀ i ∈ tg.ix, i ∈ own.map (·.2)) (hn : isBor ee = none) (σ : L2.St) (H : Hp) (Q : VK) (h : tF X.F cm W (lcF (own.map (·.2)) tg it fi ft fe) σ H Q) :
    tLc (wiD X.F cm W it fi) (gD X.F tg) (tT X.F cm WF ft) (tR X.F cm WF ee fe) (own.map (·.2)) σ H Q := by
  obtain ⟨R0, H0, G, ρ, R, S, h⟩ := h
  exact ⟨R0, H0, G, ρ, R, tLcX hix hn σ H Q S h⟩
theorem pe_lcD (hc : X.calm = true) (nd : X.N.Nodup) (hi : PI X tgE iter (wiD X.F cm W it fi)) (ok : BlkOk X.N X.env.scope scope own)
    (hg : ∀ (s : Shared) (H : Hp) (C : Addr) (cl : List (Str × Addr)) (fp : List Addr), PG (X.blk s H scope (compEnvC scope cl C X.env) fp) tgE (gD X.F tg))
    (ht : ∀ (s : Shared) (H : Hp) (C : Addr) (cl : List (Str × Addr)) (fp : List Addr), PTs (X.blk s H scope (compEnvC scope cl C X.env) fp) ifs (tT X.F cm WF ft))
    (he : ∀ (s : Shared) (H : Hp) (C : Addr) (cl : List (Str × Addr)) (fp : List Addr), PE (X.blk s H scope (compEnvC scope cl C X.env) fp) elt (tN X.F cm WF ee fe))
    (hs : ∀ x, foldedSetIterable iter X.env x = pure x) (hix : ∀ i ∈ tg.ix, i ∈ own.map (·.2)) (hn : isBor ee = none) : PE X (.ListComp elt [⟨tgE, iter, ifs, 0⟩] scope pos) (tF X.F cm W (lcF (own.map (·.2)) tg it fi ft fe)) :=
  pe_imp (pe_lc hc nd hi ok hg ht (fun s H C cl fp => pe_frz (he s H C cl fp)) hs) fun σ H Q h => tLcD hix hn σ H Q h
/-- name = [..] on one line: swapped stores -/
theorem ps_lcD {i : Nat} {y : Str} {py spos : Pos} (hc : X.calm = true) (nd : X.N.Nodup) (hy : X.N[i]? = some y) (hyl : X.env.scope.names.lookup y = some .local)
    (hsw : swapsWith (.ListComp elt [⟨tgE, iter, ifs, 0⟩] scope pos) (some (.Name y py)) spos.line X.env = pure true) (hi : PI X tgE iter (wiD X.F cm W it fi)) (ok : BlkOk X.N X.env.scope scope own)
    (hg : ∀ (s : Shared) (H : Hp) (C : Addr) (cl : List (Str × Addr)) (fp : List Addr), PG (X.blk s H scope (compEnvC scope cl C X.env) fp) tgE (gD X.F tg))
    (ht : ∀ (s : Shared) (H : Hp) (C : Addr) (cl : List (Str × Addr)) (fp : List Addr), PTs (X.blk s H scope (compEnvC scope cl C X.env) fp) ifs (tT X.F cm WF ft))
    (he : ∀ (s : Shared) (H : Hp) (C : Addr) (cl : List (Str × Addr)) (fp : List Addr), PE (X.blk s H scope (compEnvC scope cl C X.env) fp) elt (tN X.F cm WF ee fe))
    (hs : ∀ x, foldedSetIterable iter X.env x = pure x) (hix : ∀ i ∈ tg.ix, i ∈ own.map (·.2)) (hn : isBor ee = none) :
    PS X (.Assign [.Name y py] (.ListComp elt [⟨tgE, iter, ifs, 0⟩] scope pos) spos) (tAsg (tF X.F cm W (lcF (own.map (·.2)) tg it fi ft fe)) (gName i)) := by
  have p := ps_setLc (te := tR X.F cm WF ee fe) hc nd hy hyl hsw hi ok hg ht (fun s H C cl fp => pe_frz (he s H C cl fp)) hs
  exact ⟨fun pins s σ H D I h => p.run pins s σ H D I (tLcD hix hn σ H _ h)⟩
end
end DL
set_option Elab.async false
set_option linter.all false
set_option maxRecDepth 100000
set_option maxHeartbeats 4000000
/-! DL, part qo: dict(pairs) whose last key is of another kind. -/
namespace DL
open PySem PySem.Spec PyProof.Rows L2
section
variable {P : Program} {w : World}
theorem pairs_xs : ∀ {es : List DictEntry} {kvs : List (Key × Value)}, Pairs (mixKind P w) es kvs → (∀ e ∈ es, ∃ k, keyIs k e.key = true ∧ e.hash = keyH w k) →
    ∃ xs : List (Key × Value × Value), es = (xs.map fun x => (⟨keyH w x.1, x.2.1, x.2.2⟩ : DictEntry)) ∧ (∀ x ∈ xs, keyIs x.1 x.2.1 = true) ∧ xs.map (fun x => (x.1, x.2.2)) = kvs
  | _, _, .nil, _ => ⟨[], rfl, fun _ h => (by cases h), rfl⟩
  | _, _, @Pairs.cons _ _ _ _ _ e kv es kvs h1 h2 t, hk => by
    obtain ⟨xs, e1, e2, e3⟩ := pairs_xs t fun e he => hk e (List.mem_cons_of_mem _ he)
    obtain ⟨k, k1, k2⟩ := hk e List.mem_cons_self
    have ke : k = kv.1 := (mixKind P w).inj _ _ _ k1 h1
    subst ke
    refine ⟨(kv.1, e.key, e.val) :: xs, ?_, fun x hx => ?_, ?_⟩
    · rw [List.map_cons, ← e1, ← k2]
    · rcases List.mem_cons.mp hx with rfl | hx
      · exact k1
      · exact e2 x hx
    · rw [List.map_cons, e3]
      show (kv.1, e.val) :: kvs = kv :: kvs
      rw [h2]
theorem entsN_of {xs : List (Key × Value × Value)} : (xs.map fun x => (⟨keyH w x.1, x.2.1, x.2.2⟩ : DictEntry)) = (xs.map fun x => ((nkK x.1, x.2.1, x.2.2) : NEnt)).map (entN w) := by
  rw [List.map_map]
  refine List.map_congr_left fun x _ => ?_
  show _ = (⟨(nkK x.1).hash w, x.2.1, x.2.2⟩ : DictEntry)
  rw [nkK_hash]
variable {A : Around} {E : Value → Shared → Prop} {s : Shared}
/-- d[ko] = vo, ko of another kind, new -/
theorem set_last {d : Addr} {kvs : List (Key × Value)} {kn : NestedKey} {ko vo : Value} {Q : Unit → Shared → Prop} (hu : A.units + 16 < cLine) (hk : IsN s.heap kn ko) (hs : isExactStrKey ko = false) (hne : ∀ k, nkK k ≠ kn) (hm : s.heap.DictOf (mixKind P w) d kvs) (hz : kvs.length < sizeLine)
    (hQ : ∀ h' tk o xs, h'.get? d = some o → XD w o xs kn ko vo → xs.map (fun x => (x.1, x.2.2)) = kvs → Heap.SameBut d s.heap h' → Q () { s with heap := h', toks := tk }) : wpAny (model P w) A (dictSet d ko vo) Q E s := by
  obtain ⟨o, es, ep, ho, hc, hd, hks, hp, hn⟩ := hm
  obtain ⟨xs, e1, e2, e3⟩ := pairs_xs hp fun e he => hks e (Array.mem_toList_iff.mp he)
  have hl : es.size = kvs.length := by rw [← Array.length_toList, e1, ← e3]; simp
  have nd : (xs.map (·.1)).Nodup := by
    rw [← e3, List.map_map] at hn
    exact hn
  unfold dictSet
  try with_reducible refine wpAny_holding ?_
  refine wpAny_bind (pyHash_key kn ko _ s _ hk.1 (by have := hk.2; omega) ?_)
  unfold dictSetHashed
  try with_reducible refine wpAny_holding ?_
  refine wpAny_bind (find_n (s := { s with toks := s.toks + kn.draws }) (xs := xs.map fun x => (nkK x.1, x.2.1, x.2.2)) (by omega) hk (.inl fun x t z => by rw [z] at hs; cases hs) ho hd (by rw [e1]; exact entsN_of) (fun x hx => ?_) ?_ (fun _ => ?_) fun j p hj => ?_)
  · obtain ⟨y, hy, rfl⟩ := List.mem_map.mp hx
    exact nkK_is (e2 y hy)
  · rw [List.map_map]
    have e : ((fun x : NEnt => x.1) ∘ fun x : Key × Value × Value => ((nkK x.1, x.2.1, x.2.2) : NEnt)) = nkK ∘ (·.1) := rfl
    rw [e, ← List.map_map]
    exact List.pairwise_map.mpr (List.Pairwise.imp (fun h z => h (nkK_inj z)) nd)
  · refine wpAny_bind (wpAny_rule (wpAny_updateDictKeys (hz := by omega) (s := { s with toks := s.toks + kn.draws }) ho hd (hQ _ _ _ xs (Heap.get?_update_self _ ho (Obj.isFreed_of_dict (Obj.data_mapDictKeys hd _)))
      ⟨hc.mapDictKeys _, ⟨_, _, Obj.data_mapDictKeys hd _, ?_⟩, e2, nd, ?_⟩ e3 (Heap.SameBut.update ..))))
    · rw [← e1]
      simp
    · have : xs.length = kvs.length := by rw [← e3]; simp
      omega
  · rw [List.getElem?_map] at hj
    obtain ⟨y, _, e⟩ := Option.map_eq_some_iff.mp hj
    cases e
    exact absurd rfl (hne y.1)
/-- dict(l), l a list of pairs, the last one's key of another kind -/
theorem call_dict_last {a : Addr} {items : Array Value} {Ts : Nat → Addr} {ps : List (Value × Value)} {prs : List (Key × Value)} {kn : NestedKey} {ko vo : Value} {Q : Value → Shared → Prop} (hh : A.handled = none) (hu : A.units + 32 < cLine)
    (hl : PlainSeq "list" s.heap a items) (hi : PairItems s.heap items Ts ps) (hlen : ps.length = prs.length + 1) (hp : ∀ (i : Nat) (k : Key) (v : Value), prs[i]? = some (k, v) → ∃ kv, ps[i]? = some (kv, v) ∧ keyIs k kv = true) (hlast : ps[prs.length]? = some (ko, vo))
    (hk : IsN s.heap kn ko) (hs : isExactStrKey ko = false) (hne : ∀ k, nkK k ≠ kn) (hz : ps.length ≤ sizeLine)
    (h : ∀ h' tk o xs, h'.get? s.heap.objs.size = some o → XD w o xs kn ko vo → xs.map (fun x => (x.1, x.2.2)) = merged [] prs → (∀ b o, s.heap.get? b = some o → h'.get? b = some o) → Q (.ref s.heap.objs.size) { s with heap := h', toks := tk }) :
    wpAny (model P w) A (call (.type "dict") [.ref a]) Q E s := by
  have PA := PairArg.list (prog := P) (w := w) a items Ts ps
  refine call_dict_arg PA ⟨hl, hi⟩ fun s1 hs1 hdf ok1 => ?_
  subst hs1
  have up : ∀ b o, s.heap.get? b = some o → (s.heap.push { cls := .type "dict", data := .dict #[] }).get? b = some o := fun b o e => Heap.get?_push_of_some _ e
  have hm0 : (s.heap.push { cls := .type "dict", data := .dict #[] }).DictOf (mixKind P w) s.heap.objs.size [] := Heap.DictOf.new _
  have neD : ∀ b o, s.heap.get? b = some o → b ≠ s.heap.objs.size := fun b o e => Nat.ne_of_lt (Heap.lt_size e)
  have stay : ∀ h' : Heap, (∀ b o, b ≠ s.heap.objs.size → s.heap.get? b = some o → h'.get? b = some o) → IsN h' kn ko := fun h' k => ⟨NestedIs.at (fun b o vs n e _ => k b o (neD b o e) e) _ _ hk.1, hk.2⟩
  refine updateFrom_arg (A := A.in1) (Tab := fun i h1 => (∀ b o, b ≠ s.heap.objs.size → s.heap.get? b = some o → h1.get? b = some o) ∧ (if i ≤ prs.length then h1.DictOf (mixKind P w) s.heap.objs.size (merged [] (prs.take i))
    else ∃ o xs, h1.get? s.heap.objs.size = some o ∧ XD w o xs kn ko vo ∧ xs.map (fun x => (x.1, x.2.2)) = merged [] prs)) PA .none hh ok1 hdf ⟨fun b o _ e => up b o e, ?_⟩ ?_ ?_ ?_ ?_
  · rw [if_pos (Nat.zero_le _)]
    exact hm0
  · rintro i h1 ⟨_, tb⟩
    split at tb
    · exact tb.lt_size
    · obtain ⟨o, _, e, _⟩ := tb
      exact Heap.lt_size e
  · rintro i h1 h2 wr hd hw ⟨t1, tb⟩ hk2
    have hw' : ∀ b ∈ wr, ∀ o, s.heap.get? b ≠ some o := fun b hb o e => by
      rcases hw b hb with z | z
      · cases z
      · rw [up b o e] at z
        cases z
    refine ⟨fun b o n e => hk2 b o (fun z => hw' b z o e) (t1 b o n e), ?_⟩
    split at tb <;> rename_i hle
    · rw [if_pos hle]
      exact tb.at' fun o e => hk2 _ o hd e
    · rw [if_neg hle]
      obtain ⟨o, xs, e, r⟩ := tb
      exact ⟨o, xs, hk2 _ o hd e, r⟩
  · intro i k v s' Q' E' hi2 hrel ⟨t1, tb⟩ _ hQ
    have hrel : ps[i]? = some (k, v) := hrel
    have hle : i ≤ prs.length := by omega
    rw [if_pos hle] at tb
    by_cases hlt : i < prs.length
    · obtain ⟨⟨kk, v2⟩, hkv⟩ : ∃ y, prs[i]? = some y := ⟨prs[i], List.getElem?_eq_getElem hlt⟩
      obtain ⟨kv, e1, e2⟩ := hp i kk v2 hkv
      rw [hrel] at e1
      cases e1
      refine wpAny_dictSet_pairs (knd := mixKind P w) (k := kk) (hsz := by have := merged_length ([] : List (Key × Value)) (prs.take i); rw [List.length_take] at this; simp at this; omega) e2 tb fun h' hm' hsb => ?_
      refine hQ h' _ ⟨fun b o n e => hsb.extBut b o n (t1 b o n e), ?_⟩ hsb
      rw [if_pos (show i + 1 ≤ prs.length by omega), merged_take_succ [] prs i (kk, v) hkv]
      exact hm'
    · have ei : i = prs.length := by omega
      subst ei
      rw [hlast] at hrel
      cases hrel
      rw [List.take_length] at tb
      have hml := merged_length ([] : List (Key × Value)) prs
      refine set_last (by show A.units + 1 + 1 + 16 < _; omega) (stay _ t1) hs hne tb (by simp at hml; omega) fun h' tk o xs e1 e2 e3 hsb => ?_
      refine hQ h' _ ⟨fun b o n e => hsb.extBut b o n (t1 b o n e), ?_⟩ hsb
      rw [if_neg (show ¬ prs.length + 1 ≤ prs.length by omega)]
      exact ⟨o, xs, e1, e2, e3⟩
  · intro h' tk ⟨t1, tb⟩ _
    rw [hlen, if_neg (show ¬ prs.length + 1 ≤ prs.length by omega)] at tb
    obtain ⟨o, xs, e1, e2, e3⟩ := tb
    exact ⟨rfl, h h' tk o xs e1 e2 e3 fun b o e => t1 b o (neD b o e) e⟩
end
end DL
set_option Elab.async false
set_option linter.all false
set_option maxRecDepth 100000
set_option maxHeartbeats 1000000
/-! DL, part q: calls of built-ins. -/
namespace DL
open PySem PySem.Spec PyProof.Rows L2
def rc1 (K : Frg) (g : PyData → Option PyData) : List V → Hp → VK → Prop := fun xs H Q => ∃ x, xs = [x] ∧ r1 false K g x H Q
def rc2 (K : Frg) (g : PyData → PyData → Option PyData) : List V → Hp → VK → Prop := fun xs H Q => ∃ x y, xs = [x, y] ∧ r2 false K g x y H Q
section
variable {X : Cx} {cl : Cls} {W : XK} {e ea eb : E} {fa fb : DEnv → OV} {a b ex : Expr} {x : Str} {p pos : Pos}
theorem pe_c1 {g : PyData → Option PyData} (mk : ∀ t, PA X [a] t → PE X ex (tCB (rc1 X.F g) t)) (ns : notStar a = true) (ha : PE X a (tN X.F cl W ea fa)) :
    PE X ex (tF X.F cl W fun ρ => (fa ρ).bind fun x => Out.ofOpt ((opd ea x.1 x.2).bind g) x.2) := by
  refine pe_imp (mk _ (pa_consD ns ha pa_nilD)) fun σ H Q ⟨R0, H0, G, ρ, R, S, h⟩ => ⟨R0, H0, G, ρ, R, S, resA_iff.mpr (ok2_bind.mpr ((ok2_bind.mp (resN_iff.mp h)).imp fun x ρ1 h vs R1 H1 S1 l1 o1 => ?_))⟩
  obtain ⟨d, ht, h⟩ := ok2_opt.mp h
  obtain ⟨d1, e1, ht⟩ := Option.bind_eq_some_iff.mp ht
  cases o1 with
  | cons o1 t =>
    cases t
    refine ⟨_, rfl, R1, d1, d, S1.sub, opd_ok S1 o1 e1, ht, fun u H3 m => ?_⟩
    obtain ⟨R3, S3, l3, n⟩ := m.stt S1
    exact h u R3 H3 S3 (l1.trans l3) (.new rfl n)
theorem pe_c2 {g : PyData → PyData → Option PyData} (mk : ∀ t, PA X [a, b] t → PE X ex (tCB (rc2 X.F g) t)) (ns : notStar a = true) (ns2 : notStar b = true) (ha : PE X a (tN X.F cl W ea fa)) (hb : PE X b (tN X.F cl W eb fb)) :
    PE X ex (tF X.F cl W fun ρ => (fa ρ).bind fun x => (fb x.2).bind fun y => Out.ofOpt (two g ea eb x.1 y.1 y.2) y.2) := by
  refine pe_imp (mk _ (pa_consD ns ha (pa_consD ns2 hb pa_nilD))) fun σ H Q ⟨R0, H0, G, ρ, R, S, h⟩ => ⟨R0, H0, G, ρ, R, S, resA_iff.mpr (ok2_bind.mpr ((ok2_bind.mp (resN_iff.mp h)).imp fun x ρ1 h => ok2_bind.mpr (ok2_bind.mpr ((ok2_bind.mp h).imp fun y ρ2 h vs R1 H1 S1 l1 o1 => ?_))))⟩
  obtain ⟨d, ht, h⟩ := ok2_opt.mp h
  unfold two at ht
  obtain ⟨d1, e1, ht⟩ := Option.bind_eq_some_iff.mp ht
  obtain ⟨d2, e2, ht⟩ := Option.bind_eq_some_iff.mp ht
  cases o1 with
  | cons o1 t =>
    cases t with
    | cons o2 t =>
      cases t
      refine ⟨_, _, rfl, R1, d1, d2, d, S1.sub, opd_ok S1 o1 e1, opd_ok S1 o2 e2, ht, fun u H3 m => ?_⟩
      obtain ⟨R3, S3, l3, n⟩ := m.stt S1
      exact h u R3 H3 S3 (l1.trans l3) (.new rfl n)
theorem vals1' {x : V} {us : List Value} (r : Vals [x] us) : ∃ u, us = [u] ∧ RelV x u := vals1 r
/-! ### one argument -/
theorem cr_len : CallR X (.builtin "len") (rc1 X.F (b1X .len)) := by
  intro pins s σ H xs us Q I r h
  obtain ⟨x, rfl, R, d1, d, sb, h1, q, k⟩ := h
  cases d1 <;> simp only [b1X, b1D] at q <;> try (cases q; done)
  · cases q
    refine call_len_str pins s σ H _ us Q I r ⟨_, by rw [h1.str.1], h1.str.2, k _ _ (.rp .refl (.int _))⟩
  · cases q
    obtain ⟨a, ys, rfl, ha, la⟩ := h1.list (X := X) sb
    rw [← la.len] at k
    exact call_len_seq pins s σ H _ us Q I r ⟨a, ys, rfl, .inl (.inl ha), k _ _ (.rp .refl (.int _))⟩
  · cases q
    obtain ⟨a, ys, rfl, ha, la⟩ := h1.tuple (X := X) sb
    rw [← la.len] at k
    exact call_len_seq pins s σ H _ us Q I r ⟨a, ys, rfl, .inr ha, k _ _ (.rp .refl (.int _))⟩
  · cases q
    obtain ⟨u, hus, rx⟩ := vals1 r
    subst hus
    rcases h1.dictC (X := X) sb with ⟨a, ys, rfl, ha, la⟩ | ⟨a, o, xs, ks, kn, ko, vo, vk, vv, ds, kd, vd, rfl, xr, rfl⟩
    · cases rx
      rw [← la.len] at k
      exact d_len I ha fun t s' I' => ⟨.int _, H, I', ⟨t, rfl⟩, k _ _ (.rp .refl (.int _))⟩
    · cases rx
      rw [List.length_append] at k
      exact xr.len I sb fun t s' I' => ⟨.int _, H, I', ⟨t, rfl⟩, k _ _ (.rp .refl (.int _))⟩
theorem cr_int : CallR X (.type "int") (rc1 X.F (b1X .int)) := by
  intro pins s σ H xs us Q I r h
  obtain ⟨x, rfl, R, d1, d, sb, h1, q, k⟩ := h
  cases d1 <;> simp only [b1X, b1D] at q <;> try (cases q; done)
  · cases q
    exact call_int1 pins s σ H _ us Q I r (.inr ⟨_, by rw [h1.bool], k _ _ (.rp .refl (.int _))⟩)
  · cases q
    exact call_int1 pins s σ H _ us Q I r (.inl ⟨_, by rw [h1.int], k _ _ (.rp .refl (.int _))⟩)
theorem cr_list (hc : X.calm = true) : CallR X (.type "list") (rc1 X.F (b1X .list)) := by
  intro pins s σ H xs us Q I r h
  obtain ⟨x, rfl, R, d1, d, sb, h1, q, k⟩ := h
  cases d1 <;> simp only [b1X, b1D] at q <;> try (cases q; done)
  · cases q
    obtain ⟨a, ys, rfl, ha, la⟩ := h1.list (X := X) sb
    exact call_list_of pins s σ H _ us Q I r ⟨a, ys, rfl, .inl (.inl ha), fun p hp => k _ _ (.lst .refl hp la)⟩
  · cases q
    obtain ⟨a, ys, rfl, ha, la⟩ := h1.tuple (X := X) sb
    exact call_list_of pins s σ H _ us Q I r ⟨a, ys, rfl, .inr ha, fun p hp => k _ _ (.lst .refl hp la)⟩
  · split at q
    rotate_left
    · cases q
    rename_i pk
    cases q
    obtain ⟨a, ys, rfl, ha, la⟩ := h1.dict (X := X) sb pk
    exact call_listD hc pins s σ H _ us Q I r ⟨a, ys, rfl, ha, fun p hp => k _ _ (.lst .refl hp la.keys)⟩
theorem cr_tuple : CallR X (.type "tuple") (rc1 X.F (b1X .tuple)) := by
  intro pins s σ H xs us Q I r h
  obtain ⟨x, rfl, R, d1, d, sb, h1, q, k⟩ := h
  cases d1 <;> simp only [b1X, b1D] at q <;> try (cases q; done)
  · cases q
    obtain ⟨a, ys, rfl, ha, la⟩ := h1.list (X := X) sb
    exact call_tuple_of pins s σ H _ us Q I r ⟨a, ys, rfl, .inl ⟨.inl ha, fun p hp => k _ _ (.tup .refl hp la)⟩⟩
  · cases q
    obtain ⟨a, ys, rfl, ha, la⟩ := h1.tuple (X := X) sb
    cases h1 with
    | rp h1 => exact call_tuple_of pins s σ H _ us Q I r ⟨a, ys, rfl, .inr ⟨ha, k _ _ (.rp .refl h1)⟩⟩
theorem fits_of {I : Nat} {R : Hp} {K : Frg} (hl : sizeLine = 16777216 := sizeLine_eq) {H : Hp} {v : V} {d : PyData} (h : Wp K R H v d) (hx : ∀ ds, d = .list ds ∨ d = .tuple ds → (ds.length : Int) < 2 ^ 63) : d.fits63 := by
  cases d with
  | str x =>
    have := h.str.2
    show (x.length : Int) < 2 ^ 63
    omega
  | list l => exact hx l (.inl rfl)
  | tuple l => exact hx l (.inr rfl)
  | _ => trivial
/-- every list, every tuple known is of a length that fits -/
theorem rp_fits {pins : List (Addr × Obj)} {σ : L2.St} {H R : Hp} {s : Shared} (I : Inv X pins σ H s) (sb : Sb R H) {v : V} {d : PyData} (h : Wp X.F R H v d) : d.fits63 := by
  have hl : (sizeLine : Nat) = 16777216 := sizeLine_eq
  cases d with
  | str x =>
    have := h.str.2
    show (x.length : Int) < 2 ^ 63
    omega
  | list l =>
    obtain ⟨a, ys, rfl, ha, la⟩ := h.list (X := X) sb
    have := (Inv.rdM I ha).1
    have := la.len
    show (l.length : Int) < 2 ^ 63
    omega
  | tuple l =>
    obtain ⟨a, ys, rfl, ha, la⟩ := h.tuple (X := X) sb
    obtain ⟨_, _, _, z⟩ := I.tuple ha
    have := la.len
    show (l.length : Int) < 2 ^ 63
    omega
  | _ => trivial
theorem rpl_fits {pins : List (Addr × Obj)} {σ : L2.St} {H R : Hp} {s : Shared} (I : Inv X pins σ H s) (sb : Sb R H) : ∀ {vs : List V} {ds : List PyData}, RpL X.F R vs ds → ∀ x ∈ ds, x.fits63
  | _, _, .nil, _, h => by cases h
  | _, _, .cons h t, x, m => by
    rcases List.mem_cons.mp m with rfl | m
    · exact rp_fits I sb (.rp h)
    · exact rpl_fits I sb t x m
theorem cr_all (hc : X.calm = true) : CallR X (.builtin "all") (rc1 X.F (b1X .all)) := by
  intro pins s σ H xs us Q I r h
  obtain ⟨x, rfl, R, d1, d, sb, h1, q, k⟩ := h
  cases d1 <;> simp only [b1X, b1D] at q <;> try (cases q; done)
  split at q
  · rename_i hp
    cases q
    obtain ⟨a, ys, rfl, ha, la⟩ := h1.list (X := X) sb
    obtain ⟨u, rfl, rx⟩ := vals1 r
    cases rx
    obtain ⟨its, rv, p, _⟩ := Inv.rdl I ha
    obtain ⟨as, hr, _⟩ := RpL.reads I sb la its rv
    exact PySem.W.all_list_data (I.ok.hd hc) p.isList (by simpa using hr) hp (rpl_fits I sb la) fun h' tk hk => ⟨.bl _, H, I.kept hk, rfl, k _ _ (.rp .refl (.bl _))⟩
  · cases q
theorem cr_any (hc : X.calm = true) : CallR X (.builtin "any") (rc1 X.F (b1X .any)) := by
  intro pins s σ H xs us Q I r h
  obtain ⟨x, rfl, R, d1, d, sb, h1, q, k⟩ := h
  cases d1 <;> simp only [b1X, b1D] at q <;> try (cases q; done)
  split at q
  · rename_i hp
    cases q
    obtain ⟨a, ys, rfl, ha, la⟩ := h1.list (X := X) sb
    obtain ⟨u, rfl, rx⟩ := vals1 r
    cases rx
    obtain ⟨its, rv, p, _⟩ := Inv.rdl I ha
    obtain ⟨as, hr, _⟩ := RpL.reads I sb la its rv
    exact PySem.W.any_list_data (I.ok.hd hc) p.isList (by simpa using hr) hp (rpl_fits I sb la) fun h' tk hk => ⟨.bl _, H, I.kept hk, rfl, k _ _ (.rp .refl (.bl _))⟩
  · cases q
theorem sumI_of {K : Frg} {R : Hp} : ∀ {vs : List V} {ds : List PyData} {i : Int}, RpL K R vs ds → sumI ds = some i → ∃ ns : List Int, vs = ns.map V.int ∧ i = ns.sum
  | _, _, _, .nil, q => by cases q; exact ⟨[], rfl, rfl⟩
  | _, _, _, .cons (d := d) h t, q => by
    cases d with
    | int n =>
      obtain ⟨j, e1, rfl⟩ := Option.map_eq_some_iff.mp q
      obtain ⟨ns, rfl, rfl⟩ := sumI_of t e1
      cases h
      exact ⟨n :: ns, rfl, by simp⟩
    | _ => cases q
theorem cr_sumD (hc : X.calm = true) : CallR X (.builtin "sum") (rc1 X.F (b1X .sum)) := by
  intro pins s σ H xs us Q I r h
  obtain ⟨x, rfl, R, d1, d, sb, h1, q, k⟩ := h
  cases d1 <;> simp only [b1X, b1D] at q <;> try (cases q; done)
  obtain ⟨i, e1, rfl⟩ := Option.map_eq_some_iff.mp q
  obtain ⟨a, ys, rfl, ha, la⟩ := h1.list (X := X) sb
  obtain ⟨ns, rfl, rfl⟩ := sumI_of la e1
  exact cr_sum hc pins s σ H _ us Q I r ⟨a, ns, rfl, .inl ha, k _ _ (.rp .refl (.int _))⟩
theorem one_not {pins : List (Addr × Obj)} {σ : L2.St} {H : Hp} {s : Shared} (I : Inv X pins σ H s) (one : ∃ o, X.base.get? 1 = some o) {as : List Addr} (h : ∀ a ∈ as, H a ≠ none) : sysModules ∉ as := fun m => by
  obtain ⟨o, e⟩ := one
  exact h _ m (I.bs sysModules o e).2
theorem cr_repr {k : Nat} (hr : Room k X.A) (gd : X.A.guards = some []) (one : ∃ o, X.base.get? 1 = some o) : CallR X (.builtin "repr") (rc1 X.F (b1X .repr)) := by
  intro pins s σ H xs us Q I r h
  obtain ⟨x, rfl, R, d1, d, sb, h1, q, k⟩ := h
  have q : (if d1.showable && decide (d1.depth ≤ 60) && decide (d1.shown.length ≤ sizeLine) then some (PyData.str d1.shown) else none) = some d := by
    cases d1 <;> exact q
  split at q
  · rename_i hz
    cases q
    simp only [Bool.and_eq_true, decide_eq_true_eq] at hz
    obtain ⟨⟨hz1, hz2⟩, hz3⟩ := hz
    obtain ⟨u, rfl, rx⟩ := vals1 r
    obtain ⟨as, ra, hna⟩ := h1.reads I sb rx
    have hu := hr.units
    have fin : ∀ h' u tk, (∀ b o, s.heap.get? b = some o → h'.get? b = some o) → EP X pins σ Q (.str d1.shown u) { s with heap := h', toks := tk } := fun h' u tk hk => ⟨.str d1.shown, H, I.kept hk, ⟨u, rfl⟩, k _ _ (.rp .refl (.str _ hz3))⟩
    cases ra with
    | none => exact PySem.P.repr_of_none (fin s.heap _ _ fun _ _ e => e)
    | bool b => exact PySem.P.repr_of_bool (by
        have q := fin s.heap s.toks (s.toks + 1) fun _ _ e => e
        cases b <;> exact q)
    | int n t =>
      unfold PyData.showable at hz1
      exact PySem.P.repr_of_int (of_decide_eq_true hz1) (fin s.heap _ _ fun _ _ e => e)
    | str y t => exact PySem.P.repr_of_str (fin s.heap _ _ fun _ _ e => e) hz3
    | list a b c d => exact repr_of_reads' (.list a b c d) hz1 (fun _ => one_not I one hna) gd (by omega) (fun _ _ e => e) fin hz3
    | tuple a b c d => exact repr_of_reads' (.tuple a b c d) hz1 (fun _ => one_not I one hna) gd (by omega) (fun _ _ e => e) fin hz3
    | dict a b c d e => exact repr_of_reads' (.dict a b c d e) hz1 (fun _ => one_not I one hna) gd (by omega) (fun _ _ e => e) fin hz3
  · cases q
theorem cr_abs : CallR X (.builtin "abs") (rc1 X.F (b1X .abs)) := by
  intro pins s σ H xs us Q I r h
  obtain ⟨x, rfl, R, d1, d, sb, h1, q, k⟩ := h
  cases d1 <;> simp only [b1X, b1D] at q <;> try (cases q; done)
  cases q
  exact call_abs pins s σ H _ us Q I r ⟨_, by rw [h1.int], k _ _ (.rp .refl (.int _))⟩
/-! ### two arguments -/
theorem cr_max2 (hc : X.calm = true) : CallR X (.builtin "max") (rc2 X.F (b2D .max)) := by
  intro pins s σ H xs us Q I r h
  obtain ⟨x, y, rfl, R, d1, d2, d, sb, h1, h2, q, k⟩ := h
  cases d1 <;> cases d2 <;> simp only [b2D] at q <;> try (cases q; done)
  cases q
  exact call_max2 hc pins s σ H _ us Q I r ⟨_, _, by rw [h1.int, h2.int], k _ _ (.rp .refl (.int _))⟩
theorem cr_min2 (hc : X.calm = true) : CallR X (.builtin "min") (rc2 X.F (b2D .min)) := by
  intro pins s σ H xs us Q I r h
  obtain ⟨x, y, rfl, R, d1, d2, d, sb, h1, h2, q, k⟩ := h
  cases d1 <;> cases d2 <;> simp only [b2D] at q <;> try (cases q; done)
  cases q
  exact call_min2 hc pins s σ H _ us Q I r ⟨_, _, by rw [h1.int, h2.int], k _ _ (.rp .refl (.int _))⟩
/-! ### dict(..) -/
theorem keyEq_kD (j k : Key) : keyEq (kD j) (kD k) = decide (j = k) := by
  cases j <;> cases k <;> simp [keyEq, kD]
theorem put_rp {K : Frg} {R : Hp} {k : Key} {v : V} {d : PyData} (f : keyFit k) (h : Rp K R v d) {ks : List (Key × V)} {ds : List (PyData × PyData)} (l : RpD K R ks ds) : RpD K R (putK ks k v) (put (kD k) d ds) := by
  have ea : ∀ {ks : List (Key × V)} {ds : List (PyData × PyData)}, RpD K R ks ds → (ks.any fun kv => decide (kv.1 = k)) = ds.any fun q => keyEq q.1 (kD k) := by
    intro ks ds l
    induction ds generalizing ks with
    | nil => cases l; rfl
    | cons q ds ih =>
      cases l with
      | cons f2 h2 t =>
        rw [List.any_cons, List.any_cons, ih t]
        show (decide (_ = k) || _) = (keyEq (kD _) (kD k) || _)
        rw [keyEq_kD]
  have em : ∀ {ks : List (Key × V)} {ds : List (PyData × PyData)}, RpD K R ks ds → RpD K R (ks.map fun kv => if kv.1 = k then (kv.1, v) else kv) (ds.map fun q => if keyEq q.1 (kD k) then (q.1, d) else q) := by
    intro ks ds l
    induction ds generalizing ks with
    | nil => cases l; exact .nil
    | cons q ds ih =>
      cases l with
      | @cons j w ks d2 _ f2 h2 t =>
        rw [List.map_cons, List.map_cons]
        show RpD K R ((if j = k then (j, v) else (j, w)) :: _) ((if keyEq (kD j) (kD k) then (kD j, d) else (kD j, d2)) :: _)
        rw [keyEq_kD]
        by_cases e : j = k
        · rw [if_pos e, if_pos (decide_eq_true e)]
          exact .cons f2 h (ih t)
        · rw [if_neg e, if_neg (by simp [e])]
          exact .cons f2 h2 (ih t)
  have eap : ∀ {ks : List (Key × V)} {ds : List (PyData × PyData)}, RpD K R ks ds → RpD K R (ks ++ [(k, v)]) (ds ++ [(kD k, d)]) := by
    intro ks ds l
    induction ds generalizing ks with
    | nil => cases l; exact .cons f h .nil
    | cons q ds ih =>
      cases l with
      | cons f2 h2 t => exact .cons f2 h2 (ih t)
  unfold putK put
  rw [ea l]
  split
  · exact em l
  · exact eap l
theorem Rp.keyOf {K : Frg} {R : Hp} {v : V} {d : PyData} (h : Rp K R v d) (i : isKey d = true) : ∃ k, v = kV k ∧ d = kD k ∧ keyFit k := by
  cases d with
  | int n => cases h; exact ⟨.inl n, rfl, rfl, trivial⟩
  | str x => cases h; exact ⟨.inr x, rfl, rfl, by assumption⟩
  | _ => cases i
theorem pairs_rp {H R : Hp} (sb : Sb R H) : ∀ {ds : List PyData} {vs : List V} {acc : List (PyData × PyData)} {accV : List (Key × V)} {out : List (PyData × PyData)}, RpL X.F R vs ds → RpD X.F R accV acc → pairsD ds acc = some out →
    ∃ (ps : List Addr) (kvs : List (Key × V)), vs = ps.map V.ref ∧ Paired (fun p kv => SqT X.F H p [kV kv.1, kv.2]) ps kvs ∧ RpD X.F R (mergeK accV kvs) out := by
  intro ds
  induction ds with
  | nil =>
    intro vs acc accV out hl ha q
    cases hl
    cases q
    exact ⟨[], [], rfl, .nil, ha⟩
  | cons d ds ih =>
    intro vs acc accV out hl ha q
    cases hl with
    | cons h t =>
      obtain ⟨kd, vd, rfl⟩ : ∃ kd vd, d = .tuple [kd, vd] := by
        unfold pairsD at q
        split at q
        · rename_i e; cases e
        · rename_i e; cases e; exact ⟨_, _, rfl⟩
        · cases q
      have q : (if isKey kd then pairsD ds (put kd vd acc) else none) = some out := q
      split at q
      · rename_i hk
        obtain ⟨a, xs, rfl, sq, la⟩ := h.tuple (X := X) sb
        cases la with
        | cons h1 la =>
          cases la with
          | cons h2 la =>
            cases la
            obtain ⟨k, rfl, rfl, f⟩ := h1.keyOf hk
            obtain ⟨ps, kvs, rfl, p1, p2⟩ := ih t (put_rp f h2 ha) q
            exact ⟨a :: ps, (k, _) :: kvs, rfl, .cons sq p1, p2⟩
      · cases q
theorem RpL.app_inv {K : Frg} {R : Hp} : ∀ {ds : List PyData} {es : List PyData} {vs : List V}, RpL K R vs (ds ++ es) → ∃ xs ys, vs = xs ++ ys ∧ RpL K R xs ds ∧ RpL K R ys es
  | [], es, vs, h => ⟨[], vs, rfl, .nil, h⟩
  | d :: ds, es, vs, h => by
    cases h with
    | cons h t =>
      obtain ⟨xs, ys, rfl, h1, h2⟩ := RpL.app_inv t
      exact ⟨_ :: xs, ys, rfl, .cons h h1, h2⟩
theorem oddL_of : ∀ {ds : List PyData}, ds.all oddFlat = true → ∃ ks, oddL ds = some ks
  | [], _ => ⟨[], rfl⟩
  | d :: ds, h => by
    rw [List.all_cons, Bool.and_eq_true] at h
    obtain ⟨ks, e⟩ := oddL_of h.2
    have : ∃ k, oddF d = some k := by cases d <;> first | exact ⟨_, rfl⟩ | cases h.1
    obtain ⟨k, e2⟩ := this
    exact ⟨k :: ks, by show (oddF d).bind _ = _; rw [e2, Option.bind_some, e]; rfl⟩
theorem oddN_of {d : PyData} (h : oddKey d = true) : ∃ kn, oddN d = some kn := by
  cases d with
  | none => exact ⟨_, rfl⟩
  | tuple ds =>
    obtain ⟨ks, e⟩ := oddL_of (show ds.all oddFlat = true from h)
    exact ⟨.tup ks, by show (oddL ds).map NestedKey.tup = _; rw [e]; rfl⟩
  | _ => cases h
theorem kx_of : ∀ {ks : List (Key × V)} {vs : List (Key × Value)} {xs : List (Key × Value × Value)}, KV ks vs → xs.map (fun x => (x.1, x.2.2)) = vs → KX ks xs := by
  intro ks vs xs h
  unfold KV at h
  induction h generalizing xs with
  | nil => intro e; rw [List.map_eq_nil_iff.mp e]; exact .nil
  | cons h t ih =>
    intro e
    cases xs with
    | nil => cases e
    | cons x xs =>
      rw [List.map_cons] at e
      injection e with e1 e2
      subst e1
      exact .cons h (ih e2)
theorem getLast_split {α : Type} {l : List α} {x : α} (h : l.getLast? = some x) : l = l.dropLast ++ [x] := by
  cases l with
  | nil => cases h
  | cons a l =>
    rw [List.getLast?_eq_some_getLast (by simp)] at h
    cases h
    exact (List.dropLast_concat_getLast (by simp)).symm
theorem cr_dictP {kr : Nat} (hr : Room kr X.A) (hc : X.calm = true) : CallR X (.type "dict") (rc1 X.F (b1X .dictP)) := by
  intro pins s σ H xs us Q I r h
  obtain ⟨x, rfl, R, d1, d, sb, h1, q, k⟩ := h
  cases d1 with
  | list l =>
    obtain ⟨out, e1, rfl⟩ := Option.map_eq_some_iff.mp (show (pairsX l).map PyData.dict = some d from q)
    obtain ⟨a, ys, rfl, ha, la⟩ := h1.list (X := X) sb
    unfold pairsX at e1
    split at e1
    · rename_i o ho
      cases e1
      obtain ⟨ps, kvs, rfl, p1, p2⟩ := pairs_rp sb la .nil ho
      exact call_dictP hc pins s σ H _ us Q I r ⟨a, ps, kvs, rfl, .inl ha, p1, fun p hp => k _ _ (.dic .refl hp p2)⟩
    · split at e1
      · rename_i kd vd hgl
        split at e1
        · rename_i hok
          simp only [Bool.and_eq_true, decide_eq_true_eq] at hok
          obtain ⟨o1, e2, rfl⟩ := Option.map_eq_some_iff.mp e1
          have hsp := getLast_split hgl
          rw [hsp] at la
          obtain ⟨vs1, vs2, rfl, la1, la2⟩ := RpL.app_inv la
          cases la2 with
          | cons lt la2 =>
            cases la2
            obtain ⟨ps, kvs, rfl, p1, p2⟩ := pairs_rp sb la1 .nil e2
            obtain ⟨b, zs, rfl, sq, lz⟩ := lt.tuple (X := X) sb
            cases lz with
            | @cons vk _ _ _ hk lz =>
              cases lz with
              | @cons vv _ _ _ hv lz =>
                cases lz
                obtain ⟨kn, on⟩ := oddN_of hok.1
                obtain ⟨u, eu, rx⟩ := vals1 r
                subst eu
                cases rx
                obtain ⟨its, rv, pl, hz⟩ := Inv.rdl I ha
                have ei : its = (ps ++ [b]).map Value.ref := refs_at (by rw [List.map_append]; exact rv)
                subst ei
                obtain ⟨prs, rel, hl, hpr⟩ := pairs_of I p1
                obtain ⟨bits, brv, bt, _⟩ := I.tuple sq
                obtain ⟨ko, vo, eb, rk, rvv⟩ := vals2 brv
                subst eb
                obtain ⟨hkn, hks⟩ := oddN_is I sb on hk rk
                have hu := hr.un
                -- the pairs as values
                have hget : ∀ (j : Nat) (q : Key × Value), prs[j]? = some q → ∃ u, (∃ b', ps[j]? = some b' ∧ IsTup s.heap b' #[u, q.2]) ∧ keyIs q.1 u = true := fun j q e => by
                  obtain ⟨b', u, e1, e2, e3⟩ := hpr j q e
                  exact ⟨u, ⟨b', e1, e2⟩, e3⟩
                have hall : ∃ us : List Value, us.length = prs.length ∧ ∀ (j : Nat) (u : Value), us[j]? = some u → ∃ (q : Key × Value) (b' : Addr), prs[j]? = some q ∧ ps[j]? = some b' ∧ IsTup s.heap b' #[u, q.2] ∧ keyIs q.1 u = true := by
                  refine ⟨(List.range prs.length).map fun j => if hj : j < prs.length then Classical.choose (hget j prs[j] (List.getElem?_eq_getElem hj)) else .none, by simp, fun j u e => ?_⟩
                  rw [List.getElem?_map] at e
                  obtain ⟨j', e1, e2⟩ := Option.map_eq_some_iff.mp e
                  have hj : j < prs.length := by
                    have := (List.getElem?_eq_some_iff.mp e1).1
                    simpa using this
                  rw [List.getElem?_range hj] at e1
                  cases e1
                  rw [dif_pos hj] at e2
                  obtain ⟨⟨b', c1, c2⟩, c3⟩ := Classical.choose_spec (hget j prs[j] (List.getElem?_eq_getElem hj))
                  rw [e2] at c2 c3
                  exact ⟨prs[j], b', List.getElem?_eq_getElem hj, c1, c2, c3⟩
                obtain ⟨us, ul, hus⟩ := hall
                have hlen : prs.length = ps.length := hl
                let pv : List (Value × Value) := us.zip (prs.map (·.2)) ++ [(ko, vo)]
                have zl : (us.zip (prs.map (·.2))).length = prs.length := by rw [List.length_zip, List.length_map, ul]; omega
                have pvl : pv.length = prs.length + 1 := by show (us.zip (prs.map (·.2)) ++ [(ko, vo)]).length = _; rw [List.length_append, zl]; rfl
                have at1 : ∀ (j : Nat) (k : Key) (v : Value), prs[j]? = some (k, v) → ∃ kv, pv[j]? = some (kv, v) ∧ keyIs k kv = true ∧ ∃ b', ps[j]? = some b' ∧ IsTup s.heap b' #[kv, v] := fun j k v e => by
                  have hj := (List.getElem?_eq_some_iff.mp e).1
                  obtain ⟨u, hu1⟩ : ∃ u, us[j]? = some u := ⟨us[j]'(by omega), List.getElem?_eq_getElem _⟩
                  obtain ⟨q, b', c1, c2, c3, c4⟩ := hus j u hu1
                  rw [e] at c1
                  cases c1
                  refine ⟨u, ?_, c4, b', c2, c3⟩
                  show (us.zip (prs.map (·.2)) ++ [(ko, vo)])[j]? = _
                  rw [List.getElem?_append_left (by omega), List.getElem?_zip_eq_some]
                  exact ⟨hu1, by rw [List.getElem?_map, e]; rfl⟩
                have at2 : pv[prs.length]? = some (ko, vo) := by
                  show (us.zip (prs.map (·.2)) ++ [(ko, vo)])[prs.length]? = _
                  rw [List.getElem?_append_right (by omega), zl, Nat.sub_self]
                  rfl
                have psz : (ps ++ [b]).length = prs.length + 1 := by rw [List.length_append, hlen]; rfl
                refine call_dict_last (Ts := fun j => (ps ++ [b])[j]?.getD 0) (ps := pv) (prs := prs) (kn := kn) (ko := ko) (vo := vo) (items := ((ps ++ [b]).map Value.ref).toArray) (I.ok.hd hc) (by omega) ?_ ⟨?_, fun j k1 v1 e => ?_⟩ pvl (fun j k1 v1 e => ?_) at2 hkn hks (oddN_ne on) ?_ fun h' tk o xs e1 e2 e3 e4 => ?_
                · obtain ⟨o, n, h1, h2, h3, h4⟩ := pl
                  exact ⟨o, n, h1, h2, h3, h4⟩
                · rw [List.size_toArray, List.length_map, pvl, psz]
                · have hj := (List.getElem?_eq_some_iff.mp e).1
                  obtain ⟨b', eb'⟩ : ∃ b', (ps ++ [b])[j]? = some b' := ⟨(ps ++ [b])[j]'(by omega), List.getElem?_eq_getElem _⟩
                  refine ⟨by rw [List.getElem?_toArray, List.getElem?_map, eb']; show _ = some (Value.ref ((ps ++ [b])[j]?.getD 0)); rw [eb']; rfl, .inl ?_⟩
                  show Heap.IsTuple s.heap ((ps ++ [b])[j]?.getD 0) #[k1, v1]
                  rw [eb']
                  show Heap.IsTuple s.heap b' #[k1, v1]
                  by_cases hj2 : j < prs.length
                  · obtain ⟨kv, c1, _, b2, c2, c3⟩ := at1 j prs[j].1 prs[j].2 (List.getElem?_eq_getElem hj2)
                    rw [e] at c1
                    cases c1
                    rw [List.getElem?_append_left (by omega), c2] at eb'
                    cases eb'
                    exact c3
                  · have ej : j = prs.length := by omega
                    subst ej
                    rw [at2] at e
                    cases e
                    rw [List.getElem?_append_right (by omega), hlen, Nat.sub_self] at eb'
                    cases eb'
                    exact bt
                · obtain ⟨kv, c1, c2, _⟩ := at1 j k1 v1 e
                  exact ⟨kv, c1, c2⟩
                · rw [pvl, ← psz, ← List.length_map (f := V.ref), List.map_append]
                  exact hz
                · have hm : (s.heap.objs.size == sysModules) = false := beq_eq_false_iff_ne.mpr (Nat.ne_of_gt I.big)
                  have hn := I.hok.fresh (Nat.le_refl s.heap.objs.size)
                  have hR : R s.heap.objs.size = none := by
                    cases eR : R s.heap.objs.size with
                    | none => rfl
                    | some u =>
                      rcases sb _ u eR with q | ⟨_, _, _, q⟩ <;> rw [hn] at q <;> cases q
                  have le : Le R (upd R s.heap.objs.size (.frz o (.ext fun _ => True))) := Le.upd hR
                  have rp : Rp X.F (upd R s.heap.objs.size (.frz o (.ext fun _ => True))) (.ref s.heap.objs.size) (.dict (o1 ++ [(kd, vd)])) :=
                    .dicX upd_same hm e2 (kx_of (KV.merge rel .nil) e3) (RpD.mono le p2) on (hk.mono le) rk (hv.mono le) rvv rfl
                  exact ⟨.ref s.heap.objs.size, upd H s.heap.objs.size (.frz o (.ext fun _ => True)), I.laid (t' := tk) e4 (Nat.le_refl _) ⟨e1, trivial, ⟨o, e1⟩, fun _ _ _ _ => trivial⟩, rfl,
                    k _ _ (.odd .refl hn rp (not_plainX on rfl))⟩
        · cases e1
      · cases e1
  | _ => cases q
theorem cr_dictD : CallR X (.type "dict") (rc1 X.F (b1X .dict)) := by
  intro pins s σ H xs us Q I r h
  obtain ⟨x, rfl, R, d1, d, sb, h1, q, k⟩ := h
  cases d1 with
  | dict l =>
    have q : (if plainKeys l then some (PyData.dict l) else none) = some d := q
    split at q
    rotate_left
    · cases q
    rename_i pk
    cases q
    obtain ⟨a, ks, rfl, ha, la⟩ := h1.dict (X := X) sb pk
    exact call_dictD pins s σ H _ us Q I r ⟨a, ks, rfl, ha, fun p hp => k _ _ (.dic .refl hp la)⟩
  | _ => cases q
end
/-! ### a negative number, bit_length -/
section
variable {X : Cx}
theorem un_negD : UnR X (unaryOp .USub) (r1 false X.F (b1X .neg)) := by
  intro pins s σ H x v Q I rx h
  obtain ⟨R, d1, d, sb, h1, q, k⟩ := h
  cases d1 <;> simp only [b1X, b1D] at q <;> try (cases q; done)
  cases q
  rw [h1.int] at rx
  exact un_neg pins s σ H _ v Q I rx ⟨_, rfl, k _ _ (.rp .refl (.int _))⟩
end
end DL
set_option Elab.async false
set_option linter.all false
set_option maxRecDepth 100000
set_option maxHeartbeats 1000000
/-! DL, part r: statements. -/
namespace DL
open PySem PySem.Spec PyProof.Rows L2
def FlOk (K : Frg) (cl : Cls) (W : XK) (R0 H0 : Hp) (G : List Addr) (R : Hp) (D : Ends) : Fl → Prop
  | .nx ρ => ∀ σ R' H', Stt K R0 H0 G ρ σ R' H' → Le R R' → D.nx σ H'
  | .rt d ρ => ∀ v σ R' H', Stt K R0 H0 G ρ σ R' H' → Le R R' → Rp K R' v d → D.rt v H'
  | .bk ρ => ∀ σ R' H', Stt K R0 H0 G ρ σ R' H' → Le R R' → D.bk σ H'
  | .ct ρ => ∀ σ R' H', Stt K R0 H0 G ρ σ R' H' → Le R R' → D.ct σ H'
  | .exc c d => Wsh K cl R0 H0 G W c d
  | .bad => False
def tS (K : Frg) (cl : Cls) (W : XK) (f : DEnv → Fl) : TS := fun D σ H => ∃ R0 H0 G ρ R, Stt K R0 H0 G ρ σ R H ∧ FlOk K cl W R0 H0 G R D (f ρ)
section
variable {K : Frg} {cl : Cls} {W : XK} {R0 H0 R R' : Hp} {G : List Addr} {D : Ends}
theorem FlOk.mono {f : Fl} (h : FlOk K cl W R0 H0 G R D f) (l : Le R R') : FlOk K cl W R0 H0 G R' D f := by
  cases f with
  | nx ρ => exact fun σ R2 H2 S l2 => h σ R2 H2 S (l.trans l2)
  | rt d ρ => exact fun v σ R2 H2 S l2 => h v σ R2 H2 S (l.trans l2)
  | bk ρ => exact fun σ R2 H2 S l2 => h σ R2 H2 S (l.trans l2)
  | ct ρ => exact fun σ R2 H2 S l2 => h σ R2 H2 S (l.trans l2)
  | exc c d => exact h
  | bad => exact h
/-- other ends -/
theorem FlOk.imp {D' : Ends} {f : Fl} (h : FlOk K cl W R0 H0 G R D f) (h1 : D'.nx = D.nx) (h2 : D'.rt = D.rt) (h3 : D'.bk = D.bk) (h4 : D'.ct = D.ct) : FlOk K cl W R0 H0 G R D' f := by
  cases f with
  | nx ρ => exact fun σ R2 H2 S l2 => by rw [h1]; exact h σ R2 H2 S l2
  | rt d ρ => exact fun v σ R2 H2 S l2 p => by rw [h2]; exact h v σ R2 H2 S l2 p
  | bk ρ => exact fun σ R2 H2 S l2 => by rw [h3]; exact h σ R2 H2 S l2
  | ct ρ => exact fun σ R2 H2 S l2 => by rw [h4]; exact h σ R2 H2 S l2
  | exc c d => exact h
  | bad => exact h
theorem flOk_of {o : OV} {k : PyData → DEnv → Fl} (h : FlOk K cl W R0 H0 G R D (Fl.of o k)) : Ok2 K cl W R0 H0 G o fun d ρ => FlOk K cl W R0 H0 G R D (k d ρ) := by
  cases o <;> exact h
end
section
variable {X : Cx} {cl : Cls} {W : XK} {e ea eb : E} {f fa fb : DEnv → OV} {a b ex : Expr} {pos : Pos} {st : Stmt} {sts p q : List Stmt} {g gp gq : DEnv → Fl}
theorem ps_imp {t t' : TS} (h : PS X st t) (k : ∀ D σ H, t' D σ H → t D σ H) : PS X st t' := ⟨fun pins s σ H D I q => h.run pins s σ H D I (k D σ H q)⟩
theorem pss_imp {t t' : TS} (h : PSs X sts t) (k : ∀ D σ H, t' D σ H → t D σ H) : PSs X sts t' := ⟨fun pins s σ H D I q => h.run pins s σ H D I (k D σ H q)⟩
theorem pss_nilD : PSs X [] (tS X.F cl W fun ρ => .nx ρ) := pss_imp pss_nil fun D σ H ⟨R0, H0, G, ρ, R, S, h⟩ => h σ R H S (Le.refl R)
theorem pss_consD (h1 : PS X st (tS X.F cl W g)) (h2 : PSs X sts (tS X.F cl W gp)) : PSs X (st :: sts) (tS X.F cl W fun ρ => (match g ρ with
    | .nx ρ' => gp ρ'
    | r => r)) := pss_imp (pss_cons h1 h2) fun D σ H ⟨R0, H0, G, ρ, R, S, h⟩ => by
    refine ⟨R0, H0, G, ρ, R, S, ?_⟩
    cases hg : g ρ with
    | nx ρ' =>
      simp only [hg] at h
      exact fun σ' R' H' S' l => ⟨R0, H0, G, ρ', R', S', FlOk.mono h l⟩
    | rt d ρ' => simp only [hg] at h; exact h
    | bk ρ' => simp only [hg] at h; exact h
    | ct ρ' => simp only [hg] at h; exact h
    | exc c d => simp only [hg] at h; exact h
    | bad => simp only [hg] at h; exact h
theorem ps_passD : PS X (.Pass pos) (tS X.F cl W fun ρ => .nx ρ) := ps_imp ps_pass fun D σ H ⟨R0, H0, G, ρ, R, S, h⟩ => h σ R H S (Le.refl R)
theorem ps_brkD : PS X (.Break pos) (tS X.F cl W fun ρ => .bk ρ) := ps_imp ps_break fun D σ H ⟨R0, H0, G, ρ, R, S, h⟩ => h σ R H S (Le.refl R)
theorem ps_cntD : PS X (.Continue pos) (tS X.F cl W fun ρ => .ct ρ) := ps_imp ps_continue fun D σ H ⟨R0, H0, G, ρ, R, S, h⟩ => h σ R H S (Le.refl R)
theorem ps_retD (hn : isBor e = none) (h : PE X ex (tN X.F cl W e f)) : PS X (.Return (some ex) pos) (tS X.F cl W fun ρ => Fl.of (f ρ) fun d ρ' => .rt d ρ') :=
  ps_imp (ps_ret (pe_frz h)) fun D σ H ⟨R0, H0, G, ρ, R, S, h⟩ => ⟨R0, H0, G, ρ, R, S, resR_iff.mpr ((flOk_of h).imp fun d ρ1 h v R1 H1 S1 l1 o1 => h v σ R1 H1 S1 l1 (o1.rp hn))⟩
theorem ps_exD (h : PE X ex (tN X.F cl W e f)) (hs : swapsWith ex none pos.line X.env = pure false) : PS X (.Expr ex pos) (tS X.F cl W fun ρ => Fl.of (f ρ) fun _ ρ' => .nx ρ') :=
  ps_imp (ps_expr h hs) fun D σ H ⟨R0, H0, G, ρ, R, S, h⟩ => ⟨R0, H0, G, ρ, R, S, resN_iff.mpr ((flOk_of h).imp fun d ρ1 h v R1 H1 S1 l1 o1 => h σ R1 H1 S1 l1)⟩
theorem ps_ifD {ft : DEnv → Out (Bool × DEnv)} {c : Expr} (hc : PT X c (tT X.F cl W ft)) (ha : PSs X p (tS X.F cl W gp)) (hb : PSs X q (tS X.F cl W gq)) : PS X (.If c p q pos) (tS X.F cl W fun ρ => (match ft ρ with
    | .ok x => if x.1 then gp x.2 else gq x.2
    | .exc c d => .exc c d
    | .bad => .bad)) := ps_imp (ps_if hc ha hb) fun D σ H ⟨R0, H0, G, ρ, R, S, h⟩ => by
    refine ⟨R0, H0, G, ρ, R, S, ?_⟩
    cases hf : ft ρ with
    | bad => simp only [hf] at h; exact h
    | exc c d => simp only [hf] at h; exact h
    | ok x =>
      simp only [hf] at h
      obtain ⟨b, ρ1⟩ := x
      refine fun R1 H1 S1 l1 => ?_
      cases b with
      | true => exact ⟨R0, H0, G, ρ1, R1, S1, FlOk.mono h l1⟩
      | false => exact ⟨R0, H0, G, ρ1, R1, S1, FlOk.mono h l1⟩
/-! ### stores -/
theorem ps_asgT {t : TE} {i : Nat} (hp : PS X st (tAsg t (gName i))) (hn : isBor e = none) (k : ∀ σ H Q, tR X.F cl W e f σ H Q → t σ H Q) : PS X st (tS X.F cl W fun ρ => Fl.of (f ρ) fun d ρ' => .nx (ρ'.set i (.val d))) :=
  ps_imp hp fun D σ H ⟨R0, H0, G, ρ, R, S, h⟩ => k σ H _ ⟨R0, H0, G, ρ, R, S, resR_iff.mpr ((flOk_of h).imp fun d ρ1 h v R1 H1 S1 l1 o1 => h _ R1 H1 (S1.setVal (o1.rp hn)) l1)⟩
theorem ps_asgOT {t : TE} {i : Nat} (hp : PS X st (tAsg t (gName i))) (hn : isBor e = none) (ho : old e = false) (k : ∀ σ H Q, tN X.F cl W e f σ H Q → t σ H Q) : PS X st (tS X.F cl W fun ρ => Fl.of (f ρ) fun d ρ' => (match ownOf d with
    | some s => .nx (ρ'.set i s)
    | none => .bad)) :=
  ps_imp hp fun D σ H ⟨R0, H0, G, ρ, R, S, h⟩ => k σ H _ ⟨R0, H0, G, ρ, R, S, resN_iff.mpr ((flOk_of h).imp fun d ρ1 h v R1 H1 S1 l1 o1 => by
    unfold OpN at o1
    rw [hn] at o1
    have o1 : NewP (old e) X.F ρ1 σ R1 H0 H1 v d := o1
    rw [ho] at o1
    cases o1 with
    | rp h2 o => cases d <;> first | exact h.elim | (rcases o with o | o <;> cases o)
    | lst fr hp q => exact h _ R1 H1 (S1.setOwn fr hp q) l1
    | tup fr hp q => exact h.elim
    | odd fr hp q pk =>
      have e : ownOf (.dict _) = none := if_neg (by rw [pk]; exact Bool.false_ne_true)
      rw [e] at h
      exact h.elim
    | dic fr hp q =>
      have e : ownOf (.dict _) = some (.ownD false _) := if_pos q.plain
      rw [e] at h
      exact h _ R1 H1 (S1.setOwnD fr hp q) l1)⟩
/-- a tuple is taken apart -/
theorem ps_asgTup {tgE : Expr} {is : List Nat} (hp : PS X st (tAsg (tR X.F cl W e f) (gD X.F (.t is)))) (hn : isBor e = none) : PS X st (tS X.F cl W fun ρ => Fl.of (f ρ) fun d ρ' => (match bindT (.t is) d ρ' with
    | some ρ2 => .nx ρ2
    | none => .bad)) := ps_imp hp fun D σ H ⟨R0, H0, G, ρ, R, S, h⟩ => ⟨R0, H0, G, ρ, R, S, resR_iff.mpr ((flOk_of h).imp fun d ρ1 h v R1 H1 S1 l1 o1 => by
    cases hb : bindT (.t is) d ρ1 with
    | none => simp only [hb] at h; exact h.elim
    | some ρ2 =>
      simp only [hb] at h
      exact gD_ok S1 (o1.rp hn) hb fun σ' S' _ _ => h σ' R1 H1 S' l1)⟩
/-- x.append(e) -/
theorem ps_appD {i : Nat} {o : Expr} {apos cpos : Pos} (ho : PE X o (tVar i)) (hbase : attributeBase o "append" X.env (eval o X.env) = eval o X.env) (hline : (apos.endLine == cpos.line) = true) (ns : notStar a = true) (hn : isBor e = none) (h : PE X a (tN X.F cl W e f)) :
    PS X (.Expr (.Call (.Attribute o "append" apos) [a] [] cpos) pos) (tS X.F cl W fun ρ => (match ρ[i]? with
    | some (.own _ _) => Fl.of (f ρ) fun d ρ' => (match ρ'[i]? with
      | some (.own r l) => if l.length < sizeLine then .nx (ρ'.set i (.own r (l ++ [d]))) else .bad
      | _ => .bad)
    | _ => .bad)) := by
  have pe := pe_bm (X := X) PySem.F.plainAttrs_list PySem.F.slot_list_append PySem.F.type_list_append mt_append ho (pa_consD ns h pa_nilD) hbase (by rw [starEach_cons ns]; rfl) hline (starEach_cons ns [] X.env) rfl
  refine ps_imp (ps_expr pe rfl) fun D σ H ⟨R0, H0, G, ρ, R, S, h⟩ => ?_
  cases hs : ρ[i]? with
  | none => simp only [hs] at h; exact h.elim
  | some s =>
    simp only [hs] at h
    cases s with
    | own r0 l0 =>
      obtain ⟨p, xs, e1, e2, _⟩ := S.sl i _ hs
      refine ⟨.ref p, e1, .inl ⟨rfl, xs, .inl (.inl e2)⟩, R0, H0, G, ρ, R, S, resA_iff.mpr (ok2_bind.mpr ((flOk_of h).imp fun d ρ1 h vs R1 H1 S1 l1 o1 => ?_))⟩
      cases o1 with
      | cons o1 t =>
        cases t
        cases hs1 : ρ1[i]? with
        | none => simp only [hs1] at h; exact h.elim
        | some s1 =>
          simp only [hs1] at h
          cases s1 with
          | own r l =>
            by_cases hz : l.length < sizeLine
            · simp only [if_pos hz] at h
              obtain ⟨p', ys, z1, z2, z3, _⟩ := S1.sl i _ hs1
              rw [e1] at z1
              cases z1
              obtain ⟨p2, ys2, w1, w2, w3, S2⟩ := S1.putOwn hs1 (z3.app (.one (o1.rp hn)))
              rw [e1] at w1
              cases w1
              exact ⟨p, ys, _, rfl, rfl, z2, by rw [z3.len]; exact hz, h _ _ _ S2 l1⟩
            · simp only [if_neg hz] at h
              exact h.elim
          | _ => exact h.elim
    | _ => exact h.elim
/-- x.pop(e) -/
theorem pe_popD {i : Nat} {o : Expr} {apos cpos : Pos} (ho : PE X o (tVar i)) (hbase : attributeBase o "pop" X.env (eval o X.env) = eval o X.env) (hline : (apos.endLine == cpos.line) = true) (ns : notStar a = true) (hn : isBor e = none) (h : PE X a (tN X.F cl W e f)) :
    PE X (.Call (.Attribute o "pop" apos) [a] [] cpos) (tV X.F cl W fun ρ => (match ρ[i]? with
    | some (.own _ _) => (f ρ).bind fun x => popD i x.1 x.2
    | _ => .bad)) := by
  have pe := pe_bm (X := X) PySem.F.plainAttrs_list PySem.F.slot_list_pop PySem.F.type_list_pop mt_popAt ho (pa_consD ns h pa_nilD) hbase (by rw [starEach_cons ns]; rfl) hline (starEach_cons ns [] X.env) rfl
  refine pe_imp pe fun σ H Q ⟨R0, H0, G, ρ, R, S, h⟩ => ?_
  cases hs : ρ[i]? with
  | none => simp only [hs] at h; exact h.elim
  | some s =>
    simp only [hs] at h
    cases s with
    | own r0 l0 =>
      obtain ⟨p, xs, e1, e2, _⟩ := S.sl i _ hs
      refine ⟨.ref p, e1, .inl ⟨rfl, xs, .inl (.inl e2)⟩, R0, H0, G, ρ, R, S, resA_iff.mpr (ok2_bind.mpr ((ok2_bind.mp (resN_iff.mp h)).imp fun d ρ1 h vs R1 H1 S1 l1 o1 => ?_))⟩
      cases o1 with
      | cons o1 t =>
        cases t
        have h : Ok2 X.F cl W R0 H0 G (popD i d ρ1) _ := h
        unfold popD at h
        cases hs1 : ρ1[i]? with
        | none => simp only [hs1] at h; exact h.elim
        | some s1 =>
          simp only [hs1] at h
          cases s1 with
          | own r l =>
            cases d with
            | int n =>
              by_cases hb : -(2 ^ 63) ≤ n ∧ n < 2 ^ 63
              · simp only [if_pos hb] at h
                cases hm : seqIx l.length n with
                | none => simp only [hm] at h; exact h.elim
                | some m =>
                  simp only [hm] at h
                  cases hd2 : l[m]? with
                  | none => simp only [hd2] at h; exact h.elim
                  | some d2 =>
                    simp only [hd2] at h
                    have o2 := o1.rp hn
                    cases o2
                    obtain ⟨p', ys, z1, z2, z3, _⟩ := S1.sl i _ hs1
                    rw [e1] at z1
                    cases z1
                    obtain ⟨v, v1, v2⟩ := z3.atD hd2
                    obtain ⟨p2, ys2, w1, w2, w3, S2⟩ := S1.putOwn hs1 (z3.erase m)
                    rw [e1] at w1
                    cases w1
                    have hm2 : ixN l.length n = some m := hm
                    have hm3 := (ixN_seq hm2).1
                    exact ⟨p, ys, n, m, v, rfl, rfl, z2, hb.1, hb.2, by rw [z3.len]; exact hm3, v1, h _ _ _ S2 l1 (.new rfl (.rp v2))⟩
              · simp only [if_neg hb] at h
                exact h.elim
            | _ => exact h.elim
          | _ => cases d <;> exact h.elim
    | _ => exact h.elim
/-! ### loops -/
theorem ps_forD {tgE iter : Expr} {tg : Tg} {it : It} {fi : DEnv → Out (List PyData × DEnv)} (hp : PassesOwn (model X.prog X.w) X.A X.env X.xe) (hc : X.calm = true) (hi : PI X tgE iter (wiD X.F cl W it fi)) (hg : PG X tgE (gD X.F tg)) (hb : PSs X p (tS X.F cl W gp)) (hfs : ∀ x, foldedSetIterable iter X.env x = pure x) :
    PS X (.For tgE iter p [] pos) (tS X.F cl W fun ρ => (match fi ρ with
    | .ok x => (match holdOf it with
      | some _ => .bad
      | none => forLoop (fun d ρ1 => match bindT tg d ρ1 with
        | some ρ2 => gp ρ2
        | none => .bad) x.1 x.2)
    | .exc c d => .exc c d
    | .bad => .bad)) := by
  refine ps_imp (ps_for hp hc hi hg hb hfs) fun D σ H ⟨R0, H0, G, ρ, R, S, h⟩ => ⟨R0, H0, G, ρ, R, S, ?_⟩
  cases hf : fi ρ with
  | bad => simp only [hf] at h; exact h
  | exc c d => simp only [hf] at h; exact h
  | ok x =>
    simp only [hf] at h
    obtain ⟨ds, ρ1⟩ := x
    cases hh : holdOf it with
    | some i => simp only [hh] at h; exact h.elim
    | none =>
      simp only [hh] at h
      refine fun J H1 R1 H0' G' S1 l1 wk _ same => ?_
      obtain ⟨rfl, rfl⟩ := same (by first | exact hh | rfl)
      obtain ⟨Y, wlk, wy⟩ := wk.ex
      generalize hstep : (fun d ρ1 => match bindT tg d ρ1 with
        | some ρ2 => gp ρ2
        | none => Fl.bad) = step at h
      refine for_it wlk (fun i σ' H' => ∃ R2 ρ2, Stt X.F R0 H0' G' ρ2 σ' R2 H' ∧ Le R1 R2 ∧ FlOk X.F cl W R0 H0' G' R2 D (forLoop step (ds.drop i) ρ2)) ?_ ?_ ?_ ?_
      · exact ⟨R1, ρ1, S1, Le.refl _, h.mono l1⟩
      · rintro i σ' H' _ ⟨R2, ρ2, S2, l2, _⟩
        exact ⟨S2.keep, R2, l2, S2.sub⟩
      · rintro i x σ' H' H'' hi ⟨R2, ρ2, S2, l2, h2⟩ hy
        obtain ⟨d, hd⟩ : ∃ d, ds[i]? = some d := ⟨ds[i], by simp [hi]⟩
        obtain ⟨R3, g3, p3⟩ := wy i H' x H'' R2 d S2.keep l2 S2.sub hy hd
        obtain ⟨S3, l3⟩ := S2.grow g3
        have ed : ds.drop i = d :: ds.drop (i + 1) := by
          have := List.drop_eq_getElem_cons hi
          rw [this]
          congr 1
          simpa [hi] using hd
        rw [ed] at h2
        unfold forLoop at h2
        have hsd : step d ρ2 = (match bindT tg d ρ2 with
          | some ρ2 => gp ρ2
          | none => Fl.bad) := by rw [← hstep]
        rw [hsd] at h2
        cases eb : bindT tg d ρ2 with
        | none => simp only [eb] at h2; exact h2.elim
        | some ρ3 =>
          simp only [eb] at h2
          refine gD_ok S3 p3 eb fun σ2 S4 _ _ => ⟨R0, H0', G', ρ3, R3, S4, ?_⟩
          cases hg : gp ρ3 with
          | nx ρ4 =>
            simp only [hg] at h2
            exact fun σ5 R5 H5 S5 l5 => ⟨R5, ρ4, S5, (l2.trans l3).trans l5, h2.mono (l3.trans l5)⟩
          | ct ρ4 =>
            simp only [hg] at h2
            exact fun σ5 R5 H5 S5 l5 => ⟨R5, ρ4, S5, (l2.trans l3).trans l5, h2.mono (l3.trans l5)⟩
          | bk ρ4 =>
            simp only [hg] at h2
            exact fun σ5 R5 H5 S5 l5 => h2 σ5 R5 H5 S5 (l3.trans l5)
          | rt d4 ρ4 =>
            simp only [hg] at h2
            exact fun v σ5 R5 H5 S5 l5 => h2 v σ5 R5 H5 S5 (l3.trans l5)
          | exc c d => simp only [hg] at h2; exact h2
          | bad => simp only [hg] at h2; exact h2
      · rintro σ' H' ⟨R2, ρ2, S2, l2, h2⟩
        rw [List.drop_length] at h2
        exact h2 σ' R2 H' S2 (Le.refl _)
theorem ps_whlD {c : Expr} {ft : DEnv → Out (Bool × DEnv)} (fu : Nat) (hp : PassesOwn (model X.prog X.w) X.A X.env X.xe) (hc : PT X c (tT X.F cl W ft)) (hb : PSs X p (tS X.F cl W gp)) :
    PS X (.While c p [] pos) (tS X.F cl W fun ρ => whlLoop ft gp fu ρ) := by
  refine ps_imp (ps_while hp hc hb) fun D σ H ⟨R0, H0, G, ρ, R, S, h⟩ => ?_
  refine ⟨fun m σ' H' => ∃ R2 ρ2, Stt X.F R0 H0 G ρ2 σ' R2 H' ∧ FlOk X.F cl W R0 H0 G R2 D (whlLoop ft gp m ρ2), ⟨fu, R, ρ, S, h⟩, ?_⟩
  rintro m σ' H' ⟨R2, ρ2, S2, h2⟩
  cases m with
  | zero => exact h2.elim
  | succ m =>
    unfold whlLoop at h2
    refine ⟨R0, H0, G, ρ2, R2, S2, ?_⟩
    cases hf : ft ρ2 with
    | bad => simp only [hf] at h2; exact h2
    | exc c d => simp only [hf] at h2; exact h2
    | ok x =>
      simp only [hf] at h2
      obtain ⟨b, ρ3⟩ := x
      refine fun R3 H3 S3 l3 => ?_
      cases b with
      | false => exact h2 σ' R3 H3 S3 l3
      | true =>
        refine ⟨fun σ5 H5 => ∃ R5 ρ5, Stt X.F R0 H0 G ρ5 σ5 R5 H5 ∧ FlOk X.F cl W R0 H0 G R5 D (whlLoop ft gp m ρ5), fun σ5 H5 q => ⟨m, Nat.lt_succ_self m, q⟩, R0, H0, G, ρ3, R3, S3, ?_⟩
        cases hg : gp ρ3 with
        | nx ρ4 =>
          simp only [hg] at h2
          exact fun σ5 R5 H5 S5 l5 => ⟨R5, ρ4, S5, h2.mono (l3.trans l5)⟩
        | ct ρ4 =>
          simp only [hg] at h2
          exact fun σ5 R5 H5 S5 l5 => ⟨R5, ρ4, S5, h2.mono (l3.trans l5)⟩
        | bk ρ4 =>
          simp only [hg] at h2
          exact fun σ5 R5 H5 S5 l5 => h2 σ5 R5 H5 S5 (l3.trans l5)
        | rt d4 ρ4 =>
          simp only [hg] at h2
          exact fun v σ5 R5 H5 S5 l5 => h2 v σ5 R5 H5 S5 (l3.trans l5)
        | exc c d => simp only [hg] at h2; exact h2
        | bad => simp only [hg] at h2; exact h2
end
end DL
set_option Elab.async false
set_option linter.all false
set_option maxRecDepth 100000
set_option maxHeartbeats 1000000
/-! DL, part s: several names at once, stores into lists and dicts, displays of dicts, isinstance. -/
namespace DL
open PySem PySem.Spec PyProof.Rows L2
/-- the values for several names: the flagged ones are new lists, dicts, each its own -/
inductive ParV (K : Frg) (ρ : DEnv) (σ : L2.St) (R H0 H : Hp) : List Bool → List V → List PyData → List Addr → Prop
  | nil : ParV K ρ σ R H0 H [] [] [] []
  | rp {os : List Bool} {v : V} {vs : List V} {d : PyData} {ds : List PyData} {as : List Addr} : Rp K R v d → ParV K ρ σ R H0 H os vs ds as → ParV K ρ σ R H0 H (false :: os) (v :: vs) (d :: ds) as
  | lst {os : List Bool} {p : Addr} {xs : List V} {l : List PyData} {vs : List V} {ds : List PyData} {as : List Addr} : Fresh ρ σ R H0 p → H p = some (.lst xs) → RpL K R xs l → p ∉ as → ParV K ρ σ R H0 H os vs ds as → ParV K ρ σ R H0 H (true :: os) (.ref p :: vs) (.list l :: ds) (p :: as)
  | dic {os : List Bool} {p : Addr} {ks : List (Key × V)} {l : List (PyData × PyData)} {vs : List V} {ds : List PyData} {as : List Addr} : Fresh ρ σ R H0 p → H p = some (.dK ks) → RpD K R ks l → p ∉ as → ParV K ρ σ R H0 H os vs ds as → ParV K ρ σ R H0 H (true :: os) (.ref p :: vs) (.dict l :: ds) (p :: as)
def tP (K : Frg) (cl : Cls) (W : XK) (os : List Bool) (f : DEnv → Out (List PyData × DEnv)) : TA := fun σ H Q => ∃ R0 H0 G ρ R, Stt K R0 H0 G ρ σ R H ∧ Ok2 K cl W R0 H0 G (f ρ) fun ds ρ' =>
  ∀ vs as R' H', Stt K R0 H0 G ρ' σ R' H' → Le R R' → ParV K ρ' σ R' H0 H' os vs ds as → Q vs H'
def setAll (σ : L2.St) : List Nat → List V → L2.St
  | i :: is, v :: vs => setAll (σ.set i (some v)) is vs
  | _, _ => σ
section
variable {K : Frg} {cl : Cls} {W : XK} {R0 H0 R R' H H' : Hp} {G : List Addr} {ρ ρ' : DEnv} {σ σ' : L2.St}
theorem ParV.fr {os : List Bool} {vs : List V} {ds : List PyData} {as : List Addr} (h : ParV K ρ σ R H0 H os vs ds as) (k : ∀ a ∈ as, Fresh ρ σ R H0 a → Fresh ρ' σ' R H0 a) : ParV K ρ' σ' R H0 H os vs ds as := by
  induction h with
  | nil => exact .nil
  | rp h _ ih => exact .rp h (ih k)
  | lst f a b c _ ih => exact .lst (k _ List.mem_cons_self f) a b c (ih fun q m => k q (List.mem_cons_of_mem _ m))
  | dic f a b c _ ih => exact .dic (k _ List.mem_cons_self f) a b c (ih fun q m => k q (List.mem_cons_of_mem _ m))
theorem fresh_set {i : Nat} {s : Slot} {x : Option V} {a : Addr} (f : Fresh ρ σ R H0 a) (h : s.isOwn = true → x ≠ some (.ref a)) (hl : ρ.length = σ.length) : Fresh (ρ.set i s) (σ.set i x) R H0 a := by
  refine ⟨f.r, f.h, fun j t e o z => ?_⟩
  rcases get_set e with ⟨rfl, rfl⟩ | ⟨n, e⟩
  · have hj : j < σ.length := by
      have := (List.getElem?_eq_some_iff.mp e).1
      rw [List.length_set] at this
      rw [← hl]
      exact this
    rw [set_at hj] at z
    exact h o (Option.some.inj z)
  · rw [set_ne n] at z
    exact f.n j t e o z
theorem par_set : ∀ {is : List Nat} {os : List Bool} {vs : List V} {ds : List PyData} {as : List Addr} {ρ ρ2 : DEnv} {σ : L2.St}, Stt K R0 H0 G ρ σ R H → ParV K ρ σ R H0 H os vs ds as → parSet is os ds ρ = some ρ2 → Stt K R0 H0 G ρ2 (setAll σ is vs) R H
  | [], [], _, _, _, _, _, _, S, .nil, b => by cases b; exact S
  | i :: is, _, _, _, _, _, _, _, S, .rp h t, b => par_set (is := is) (S.setVal h) (t.fr fun a m f => fresh_set (s := .val _) f (fun z => nomatch z) S.len) b
  | i :: is, _, _, _, _, _, _, _, S, .lst (p := p) f a q n t, b => par_set (is := is) (S.setOwn f a q) (t.fr fun w m f => fresh_set (s := .own false _) (x := some (.ref p)) f (fun _ z => n (by cases z; exact m)) S.len) b
  | i :: is, _, _, _, _, _, _, _, S, .dic (p := p) (l := l) f a q n t, b => par_set (is := is) (S.setOwnD f a q) (t.fr fun w m f => fresh_set (s := .ownD false _) (x := some (.ref p)) f (fun _ z => n (by cases z; exact m)) S.len) (by
    have e : ownOf (.dict l) = some (.ownD false l) := if_pos q.plain
    have b : ((ownOf (.dict l)).bind fun s => parSet is _ _ (_ : DEnv)) = some _ := b
    rw [e] at b
    exact b)
  | [], _ :: _, _, _, _, _, _, _, _, _, b => by cases b
  | _ :: _, [], _, _, _, _, _, _, _, .nil, b => by cases b
theorem Wsh.hold {D : Addr} {u : HO} {c : Str} {d : PyData} (w : Wsh K cl R0 H0 G W c d) (h0 : H0 D = none) : Wsh K cl R0 (upd H0 D u) G W c d := by
  refine fun v R' H' dx A h1 h2 h3 h4 => w v R' H' dx ⟨A.sub, A.le, fun a q => ?_, fun b o e g => ?_, A.g⟩ ?_ h2 h3 h4
  · rcases A.new a q with z | z
    · exact .inl z
    · by_cases n : a = D
      · rw [n, upd_same] at z; cases z
      · rw [upd_ne n] at z
        exact .inr z
  · exact A.keep b o (by rw [upd_ne (ne_of_none e h0)]; exact e) g
  · by_cases n : dx = D
    · rw [n, upd_same] at h1; cases h1
    · rw [upd_ne n] at h1
      exact h1
theorem fresh_unhold {D a : Addr} {u : HO} (f : Fresh ρ σ R (upd H0 D u) a) : Fresh ρ σ R H0 a ∧ a ≠ D := by
  have n : a ≠ D := fun z => by
    have q := f.h
    rw [z, upd_same] at q
    cases q
  have q := f.h
  rw [upd_ne n] at q
  exact ⟨⟨f.r, q, f.n⟩, n⟩
theorem ParV.unhold {D : Addr} {u : HO} {os : List Bool} {vs : List V} {ds : List PyData} {as : List Addr} (h : ParV K ρ σ R (upd H0 D u) H os vs ds as) : ParV K ρ σ R H0 H os vs ds as ∧ D ∉ as := by
  induction h with
  | nil => exact ⟨.nil, fun z => nomatch z⟩
  | rp h _ ih => exact ⟨.rp h ih.1, ih.2⟩
  | lst f a b c _ ih =>
    obtain ⟨f1, f2⟩ := fresh_unhold f
    exact ⟨.lst f1 a b c ih.1, fun z => (List.mem_cons.mp z).elim (fun e => f2 e.symm) ih.2⟩
  | dic f a b c _ ih =>
    obtain ⟨f1, f2⟩ := fresh_unhold f
    exact ⟨.dic f1 a b c ih.1, fun z => (List.mem_cons.mp z).elim (fun e => f2 e.symm) ih.2⟩
end
section
variable {X : Cx} {cl : Cls} {W : XK} {e ea eb : E} {f fa fb : DEnv → OV} {fs : DEnv → Out (List PyData × DEnv)} {a b ex : Expr} {as : List Expr} {os : List Bool} {pos : Pos}
theorem pa_nilP : PA X [] (tP X.F cl W [] fun ρ => .ok ([], ρ)) := pa_imp pa_nil fun σ H Q ⟨R0, H0, G, ρ, R, S, h⟩ => h [] [] R H S (Le.refl R) .nil
theorem ParV.rpm {K : Frg} {ρ : DEnv} {σ : L2.St} {R H0 H : Hp} {v : V} {d : PyData} {vs : List V} {ds : List PyData} {as : List Addr} (h : Rp K R v d) (t : ParV K ρ σ R H0 H os vs ds as) : ParV K ρ σ R H0 H (false :: os) (v :: vs) (d :: ds) as := .rp h t
theorem pa_valP (ns : notStar a = true) (hn : isBor e = none) (ha : PE X a (tN X.F cl W e f)) (hs : PA X as (tP X.F cl W os fs)) : PA X (a :: as) (tP X.F cl W (false :: os) fun ρ => (f ρ).bind fun x => (fs x.2).bind fun y => .ok (x.1 :: y.1, y.2)) :=
  pa_imp (pa_cons (pe_frz ha) hs (starEach_cons ns as X.env)) fun σ H Q ⟨R0, H0, G, ρ, R, S, h⟩ => ⟨R0, H0, G, ρ, R, S, resR_iff.mpr ((ok2_bind.mp h).imp fun x ρ1 h v R1 H1 S1 l1 o1 => ⟨R0, H0, G, ρ1, R1, S1,
    (ok2_bind.mp h).imp fun y ρ2 h vs as R2 H2 S2 l2 o2 => h (v :: vs) as R2 H2 S2 (l1.trans l2) (.rp ((o1.rp hn).mono l2) o2)⟩)⟩
theorem pa_ownP (ns : notStar a = true) (hn : isBor e = none) (ho : old e = false) (ha : PE X a (tN X.F cl W e f)) (hs : PA X as (tP X.F cl W os fs)) : PA X (a :: as) (tP X.F cl W (true :: os) fun ρ => (f ρ).bind fun x => (match ownOf x.1 with
    | some _ => (fs x.2).bind fun y => .ok (x.1 :: y.1, y.2)
    | none => .bad)) :=
  pa_imp (pa_cons ha hs (starEach_cons ns as X.env)) fun σ H Q ⟨R0, H0, G, ρ, R, S, h⟩ => ⟨R0, H0, G, ρ, R, S, resN_iff.mpr ((ok2_bind.mp h).imp fun x ρ1 h v R1 H1 S1 l1 o1 => by
    unfold OpN at o1
    rw [hn] at o1
    have o1 : NewP (old e) X.F ρ1 σ R1 H0 H1 v x := o1
    rw [ho] at o1
    have r0 : ∀ p, Fresh ρ1 σ R1 H0 p → R0 p = none := fun p fr => by
      cases z : R0 p with
      | none => rfl
      | some u => have q := fr.r; rw [S1.old p u z] at q; cases q
    have g0 : ∀ p, Fresh ρ1 σ R1 H0 p → p ∉ G := fun p fr g => S1.g0 p g fr.h
    have go : ∀ p u, Fresh ρ1 σ R1 H0 p → Ok2 X.F cl W R0 H0 G ((fs ρ1).bind fun y => .ok (x :: y.1, y.2)) (fun ds ρ' => ∀ vs as R' H', Stt X.F R0 H0 G ρ' σ R' H' → Le R R' → ParV X.F ρ' σ R' H0 H' (true :: os) vs ds as → Q vs H') →
        Ok2 X.F cl W R0 (upd H0 p u) G (fs ρ1) fun ds ρ' => ∀ vs as R' H', Stt X.F R0 H0 G ρ' σ R' H' → Le R R' → ParV X.F ρ' σ R' H0 H' (true :: os) vs (x :: ds) as → Q vs H' := fun p u fr h => by
      have h := ok2_bind.mp h
      cases hf : fs ρ1 with
      | ok y => rw [hf] at h; exact h
      | exc c d => rw [hf] at h; exact Wsh.hold h fr.h
      | bad => rw [hf] at h; exact h
    cases o1 with
    | rp h2 o => cases x <;> first | exact h.elim | (rcases o with o | o <;> cases o)
    | @lst p xs l fr hp q =>
      refine ⟨R0, _, G, ρ1, R1, S1.hold fr hp, (go p _ fr h).imp fun ds ρ2 h vs as R2 H2 S2 l2 pv => ?_⟩
      obtain ⟨S3, F3, hp3⟩ := S2.unhold fr.h (g0 p fr) (r0 p fr)
      obtain ⟨pv2, np⟩ := pv.unhold
      exact h _ _ R2 H2 S3 (l1.trans l2) (.lst F3 hp3 (q.mono l2) np pv2)
    | tup fr hp q => exact h.elim
    | odd fr hp q pk =>
      have e : ownOf (.dict _) = none := if_neg (by rw [pk]; exact Bool.false_ne_true)
      rw [e] at h
      exact h.elim
    | @dic p ks l fr hp q =>
      have e : ownOf (.dict l) = some (.ownD false l) := if_pos q.plain
      simp only [e] at h
      refine ⟨R0, _, G, ρ1, R1, S1.hold fr hp, (go p _ fr h).imp fun ds ρ2 h vs as R2 H2 S2 l2 pv => ?_⟩
      obtain ⟨S3, F3, hp3⟩ := S2.unhold fr.h (g0 p fr) (r0 p fr)
      obtain ⟨pv2, np⟩ := pv.unhold
      exact h _ _ R2 H2 S3 (l1.trans l2) (.dic F3 hp3 (q.mono l2) np pv2))⟩
theorem sw2 {env : Env} {x y : Str} {px py pt pt2 : Pos} {kt k2 : Nat} (hk : env.blockKind = .function) (hx : env.kindOf x = some .local) (hy : env.kindOf y = some .local) (hl : (py.line == px.line) = true) (hne : (y == x) = false) (na : notStar a = true) (nb : notStar b = true)
    (hf : ([a, b].all (foldedForSure 8)) = false) (hc : ([a, b].all (constantsAlone 8)) = false) : swappedStores [.Tuple [.Name x px, .Name y py] kt pt] (.Tuple [a, b] k2 pt2) env = pure (some [x, y]) := by
  have key : ∀ (g : Expr → Bool), (∀ e, notStar e = true → g e = false) → [a, b].any g = false := fun g h => by simp [h a na, h b nb]
  have hl2 : py.line = px.line := by simpa using hl
  unfold swappedStores
  simp only [hk, List.length_cons, List.length_nil]
  rw [if_neg (by decide), key _ (fun e he => by cases e <;> first | rfl | cases he)]
  simp only [hf, hc, Bool.false_eq_true, if_false, hx, hy, List.filterMap_cons, List.filterMap_nil, List.head?_cons, Option.map_some, Option.getD_some, Expr.pos, hl2, beq_self_eq_true, Bool.and_self, if_true, List.length_cons, List.length_nil]
  have e : [x, y].eraseDups = [x, y] := by simp [List.eraseDups, List.eraseDupsBy, List.eraseDupsBy.loop, hne]
  rw [e]
  rfl
theorem sw3 {env : Env} {x y z : Str} {c : Expr} {px py pz pt pt2 : Pos} {kt k2 : Nat} (hk : env.blockKind = .function) (hx : env.kindOf x = some .local) (hy : env.kindOf y = some .local) (hz : env.kindOf z = some .local) (hl : (py.line == px.line) = true) (hl' : (pz.line == px.line) = true)
    (hne : (y == x) = false) (hxz : (z == x) = false) (hyz : (z == y) = false) (na : notStar a = true) (nb : notStar b = true) (nc : notStar c = true)
    (hf : ([a, b, c].all (foldedForSure 8)) = false) (hc : ([a, b, c].all (constantsAlone 8)) = false) : swappedStores [.Tuple [.Name x px, .Name y py, .Name z pz] kt pt] (.Tuple [a, b, c] k2 pt2) env = pure (some [x, y, z]) := by
  have key : ∀ (g : Expr → Bool), (∀ e, notStar e = true → g e = false) → [a, b, c].any g = false := fun g h => by simp [h a na, h b nb, h c nc]
  have hl2 : py.line = px.line := by simpa using hl
  have hl3 : pz.line = px.line := by simpa using hl'
  unfold swappedStores
  simp only [hk, List.length_cons, List.length_nil]
  rw [if_neg (by decide), key _ (fun e he => by cases e <;> first | rfl | cases he)]
  simp only [hf, hc, Bool.false_eq_true, if_false, hx, hy, hz, List.filterMap_cons, List.filterMap_nil, List.head?_cons, Option.map_some, Option.getD_some, Expr.pos, hl2, hl3, beq_self_eq_true, Bool.and_self, if_true, List.length_cons, List.length_nil]
  have e : [x, y, z].eraseDups = [x, y, z] := by simp [List.eraseDups, List.eraseDupsBy, List.eraseDupsBy.loop, hne, hxz, hyz]
  rw [e]
  rfl
theorem fl_par {K : Frg} {cl : Cls} {W : XK} {R0 H0 R : Hp} {G : List Addr} {D : Ends} {o : Out (List PyData × DEnv)} {is : List Nat} {os : List Bool} (h : FlOk K cl W R0 H0 G R D (match o with
      | .ok x => (match parSet is os x.1 x.2 with
        | some ρ2 => Fl.nx ρ2
        | none => .bad)
      | .exc c d => .exc c d
      | .bad => .bad)) : Ok2 K cl W R0 H0 G o fun ds ρ => ∃ ρ2, parSet is os ds ρ = some ρ2 ∧ FlOk K cl W R0 H0 G R D (.nx ρ2) := by
  cases o with
  | exc c d => exact h
  | bad => exact h
  | ok x =>
    have h : FlOk K cl W R0 H0 G R D (match parSet is os x.1 x.2 with
        | some ρ2 => Fl.nx ρ2
        | none => .bad) := h
    cases e : parSet is os x.1 x.2 with
    | none => rw [e] at h; exact h.elim
    | some ρ2 => rw [e] at h; exact ⟨ρ2, e, h⟩
theorem ParV.len {K : Frg} {ρ : DEnv} {σ : L2.St} {R H0 H : Hp} {vs : List V} {ds : List PyData} {as : List Addr} (h : ParV K ρ σ R H0 H os vs ds as) : vs.length = os.length := by
  induction h with
  | nil => rfl
  | rp _ _ ih => exact congrArg Nat.succ ih
  | lst _ _ _ _ _ ih => exact congrArg Nat.succ ih
  | dic _ _ _ _ _ ih => exact congrArg Nat.succ ih
theorem ps_par2D {i j : Nat} {o1 o2 : Bool} {x y : Str} {px py pt pt2 : Pos} {kt k2 : Nat} (hc : X.calm = true) (nd : X.N.Nodup) (hi : X.N[i]? = some x) (hj : X.N[j]? = some y) (hij : i ≠ j) (hx : X.env.scope.names.lookup x = some .local) (hy : X.env.scope.names.lookup y = some .local)
    (ha : PA X [a, b] (tP X.F cl W [o1, o2] fs)) (hw : swappedStores [.Tuple [.Name x px, .Name y py] kt pt] (.Tuple [a, b] k2 pt2) X.env = pure (some [x, y])) :
    PS X (.Assign [.Tuple [.Name x px, .Name y py] kt pt] (.Tuple [a, b] k2 pt2) pos) (tS X.F cl W fun ρ => (match fs ρ with
      | .ok x => (match parSet [i, j] [o1, o2] x.1 x.2 with
        | some ρ2 => .nx ρ2
        | none => .bad)
      | .exc c d => .exc c d
      | .bad => .bad)) := ps_imp (ps_par hc nd hi hj hij hx hy ha hw rfl) fun D σ H ⟨R0, H0, G, ρ, R, S, h⟩ => ⟨R0, H0, G, ρ, R, S, (fl_par h).imp fun ds ρ1 ⟨ρ2, e, h⟩ vs as R1 H1 S1 l1 pv => by
    have S2 := par_set S1 pv e
    have hl := pv.len
    match vs, hl with
    | [v, w], _ => exact ⟨v, w, rfl, h _ R1 H1 S2 l1⟩⟩
theorem ps_par3D {i j k : Nat} {o1 o2 o3 : Bool} {c : Expr} {x y z : Str} {px py pz pt pt2 : Pos} {kt k2 : Nat} (hc : X.calm = true) (nd : X.N.Nodup) (hi : X.N[i]? = some x) (hj : X.N[j]? = some y) (hk : X.N[k]? = some z) (hij : i ≠ j) (hik : i ≠ k) (hjk : j ≠ k)
    (hx : X.env.scope.names.lookup x = some .local) (hy : X.env.scope.names.lookup y = some .local) (hz : X.env.scope.names.lookup z = some .local)
    (ha : PA X [a, b, c] (tP X.F cl W [o1, o2, o3] fs)) (hw : swappedStores [.Tuple [.Name x px, .Name y py, .Name z pz] kt pt] (.Tuple [a, b, c] k2 pt2) X.env = pure (some [x, y, z])) :
    PS X (.Assign [.Tuple [.Name x px, .Name y py, .Name z pz] kt pt] (.Tuple [a, b, c] k2 pt2) pos) (tS X.F cl W fun ρ => (match fs ρ with
      | .ok x => (match parSet [i, j, k] [o1, o2, o3] x.1 x.2 with
        | some ρ2 => .nx ρ2
        | none => .bad)
      | .exc c d => .exc c d
      | .bad => .bad)) := ps_imp (ps_par3 hc nd hi hj hk hij hik hjk hx hy hz ha hw rfl) fun D σ H ⟨R0, H0, G, ρ, R, S, h⟩ => ⟨R0, H0, G, ρ, R, S, (fl_par h).imp fun ds ρ1 ⟨ρ2, e, h⟩ vs as R1 H1 S1 l1 pv => by
    have S2 := par_set S1 pv e
    have hl := pv.len
    match vs, hl with
    | [v, w, u], _ => exact ⟨v, w, u, rfl, h _ R1 H1 S2 l1⟩⟩
/-! ### x[i] = e -/
def rSetB : TSet := fun o i v H Q => rSetL o i v H Q ∨ ∃ a H', o = .ref a ∧ DPut H a i v H' ∧ Q H'
theorem set_both {kk : Nat} (hr : Room kk X.A) : PSet X rSetB := by
  intro pins s σ H o i v ov iv u Q I ro ri rv h
  rcases h with h | ⟨a, H', rfl, g, q⟩
  · exact set_list pins s σ H o i v ov iv u Q I ro ri rv h
  · cases ro
    have hu := hr.units
    exact d_setItem (by omega) I g ri rv fun s4 I4 => ⟨H', I4, q⟩
theorem ps_setD {kk i : Nat} {o ix val : Expr} {ev ei : E} {fv fi : DEnv → OV} {pos' : Pos} (hr : Room kk X.A) (ho : PE X o (tVar i)) (nv : isBor ev = none) (ni : isBor ei = none) (hv : PE X val (tN X.F cl W ev fv)) (hi : PE X ix (tN X.F cl W ei fi))
    (hs : swapsWith val (some (.Subscript o ix pos')) pos.line X.env = pure false) (ha : ∀ v, assign (.Subscript o ix pos') X.env v = (do
      let ov ← holding [v] (eval o X.env)
      let iv ← holding [v, ov] (eval ix X.env)
      standAt pos'
      holding [v, ov, iv] (setItem ov iv v)
      release [v, ov, iv] []))
    (hw : swappedStores [.Subscript o ix pos'] val X.env = pure none) : PS X (.Assign [.Subscript o ix pos'] val pos) (tS X.F cl W fun ρ => (match ρ[i]? with
      | some .no => .bad
      | none => .bad
      | _ => Fl.of (fv ρ) fun d ρ' => Fl.of (fi ρ') fun j ρ2 => setAt i j d ρ2)) := by
  refine ps_imp (ps_asg (X := X) (pos := pos) (pe_frz hv) (pg_sub ho (pe_frz hi) (set_both hr) ha) hs hw rfl) fun D σ H ⟨R0, H0, G, ρ, R, S, h⟩ => ?_
  obtain ⟨v0, hv0⟩ : ∃ v0, σ[i]? = some (some v0) ∧ FlOk X.F cl W R0 H0 G R D (Fl.of (fv ρ) fun d ρ' => Fl.of (fi ρ') fun j ρ2 => setAt i j d ρ2) := by
    cases hs : ρ[i]? with
    | none => simp only [hs] at h; exact h.elim
    | some s =>
      simp only [hs] at h
      have ok := S.sl i s hs
      cases s with
      | no => exact h.elim
      | val d => obtain ⟨v, e, _⟩ := ok; exact ⟨v, e, h⟩
      | exc c d => obtain ⟨a, dx, v, e, _⟩ := ok; exact ⟨_, e, h⟩
      | own r l => obtain ⟨a, xs, e, _⟩ := ok; exact ⟨_, e, h⟩
      | ownD r l => obtain ⟨a, xs, e, _⟩ := ok; exact ⟨_, e, h⟩
  obtain ⟨e0, h⟩ := hv0
  refine ⟨R0, H0, G, ρ, R, S, resR_iff.mpr ((flOk_of h).imp fun d ρ1 h v R1 H1 S1 l1 o1 => ⟨v0, e0, R0, H0, G, ρ1, R1, S1, resR_iff.mpr ((flOk_of h).imp fun j ρ2 h w R2 H2 S2 l2 o2 => ?_)⟩)⟩
  have p1 := (o1.rp nv).mono l2
  have p2 := o2.rp ni
  unfold setAt at h
  cases hs2 : ρ2[i]? with
  | none => simp only [hs2] at h; exact h.elim
  | some s2 =>
    simp only [hs2] at h
    cases s2 with
    | no => exact h.elim
    | val _ => exact h.elim
    | exc _ _ => exact h.elim
    | own r l =>
      cases j with
      | int n =>
        cases hm : seqIx l.length n with
        | none => simp only [hm] at h; exact h.elim
        | some m =>
          simp only [hm] at h
          cases p2
          obtain ⟨p', ys, z1, z2, z3, _⟩ := S2.sl i _ hs2
          rw [e0] at z1
          cases z1
          obtain ⟨p3, ys2, w1, w2, w3, S3⟩ := S2.putOwn hs2 (z3.set p1 m)
          rw [e0] at w1
          cases w1
          have hm2 : ixN ys.length n = some m := by rw [z3.len]; exact hm
          exact .inl ⟨p', ys, n, m, rfl, rfl, z2, hm2, h _ _ _ S3 (l1.trans l2)⟩
      | _ => exact h.elim
    | ownD r l =>
      by_cases hk : (isKey j && decide (l.length < sizeLine)) = true
      · simp only [if_pos hk] at h
        rw [Bool.and_eq_true, decide_eq_true_eq] at hk
        obtain ⟨k, rfl, rfl, f⟩ := p2.keyOf hk.1
        obtain ⟨p', ks, z1, z2, z3, _⟩ := S2.sl i _ hs2
        rw [e0] at z1
        cases z1
        obtain ⟨p3, ys2, w1, w2, w3, S3⟩ := S2.putOwnD hs2 (put_rp f p1 z3)
        rw [e0] at w1
        cases w1
        exact .inr ⟨p', _, rfl, .inl ⟨ks, k, z2, rfl, by rw [z3.len]; exact hk.2, rfl⟩, h _ _ _ S3 (l1.trans l2)⟩
      · simp only [if_neg hk] at h
        exact h.elim
/-! ### {k: v, ..} -/
theorem pe_dct0 : PE X (.Dict [] [] pos) (tF X.F cl W fun ρ => .ok (.dict [], ρ)) := pe_imp pe_dnewK fun σ H Q ⟨R0, H0, G, ρ, R, S, h⟩ => fun p hp =>
  h _ R _ (S.alloc hp) (Le.refl R) (.new rfl (.dic (S.fresh hp) upd_same .nil))
end
end DL
set_option Elab.async false
set_option linter.all false
set_option maxRecDepth 100000
set_option maxHeartbeats 1000000
/-! DL, part qa: isinstance of built-in classes. -/
namespace DL
open PySem PySem.Spec PyProof.Rows L2
def tyn : PyData → String
  | .none => "NoneType"
  | .bool _ => "bool"
  | .int _ => "int"
  | .str _ => "str"
  | .list _ => "list"
  | .tuple _ => "tuple"
  | .dict _ => "dict"
def tyOk (t : String) (x : Str) : Bool := (decide (t = "int") && decide (x = "int")) || (decide (t = "bool") && decide (x = "bool")) || (decide (t = "str") && decide (x = "str")) || (decide (t = "list") && decide (x = "list")) || (decide (t = "tuple") && decide (x = "tuple")) || (decide (t = "dict") && decide (x = "dict"))
structure TyFact (t : String) (x : Str) : Prop where
  boot : bootBuiltins x = some (.type t)
  bn : x ∈ bnames
  nn : x ≠ "__name__"
  nd : (x == ("__debug__" : Str)) = false
  kit : ∀ d : PyData, kitB (tyn d) t = some (isT t d)
theorem tyOk_fact {t : String} {x : Str} (h : tyOk t x = true) : TyFact t x := by
  unfold tyOk at h
  simp only [Bool.or_eq_true, Bool.and_eq_true, decide_eq_true_eq] at h
  rcases h with ((((⟨rfl, rfl⟩ | ⟨rfl, rfl⟩) | ⟨rfl, rfl⟩) | ⟨rfl, rfl⟩) | ⟨rfl, rfl⟩) | ⟨rfl, rfl⟩
  · exact ⟨PyProof.Rows.boot_int, by decide, by decide, by decide, fun d => by cases d <;> (simp only [tyn, isT]; decide +kernel)⟩
  · exact ⟨PyProof.Rows.boot_bool, by decide, by decide, by decide, fun d => by cases d <;> (simp only [tyn, isT]; decide +kernel)⟩
  · exact ⟨PyProof.Rows.boot_str, by decide, by decide, by decide, fun d => by cases d <;> (simp only [tyn, isT]; decide +kernel)⟩
  · exact ⟨PyProof.Rows.boot_list, by decide, by decide, by decide, fun d => by cases d <;> (simp only [tyn, isT]; decide +kernel)⟩
  · exact ⟨PyProof.Rows.boot_tuple, by decide, by decide, by decide, fun d => by cases d <;> (simp only [tyn, isT]; decide +kernel)⟩
  · exact ⟨PyProof.Rows.boot_dict, by decide, by decide, by decide, fun d => by cases d <;> (simp only [tyn, isT]; decide +kernel)⟩
section
variable {X : Cx} {cl : Cls} {W : XK} {e : E} {f : DEnv → OV} {a : Expr} {p pos : Pos}
/-- a value's type, wider still -/
inductive TyW (K : PySem.W.Frag) (H : Hp) : V → Value → Prop
  | base {x : V} {t : Value} (h : TyX K H x t) : TyW K H x t
  | xdict {a : Addr} {o : Obj} (e : H a = some (.frz o (.ext fun _ => True))) (c : o.cls = .type "dict") : TyW K H (.ref a) (.type "dict")
theorem kit_ofW {X : Cx} {pins : List (Addr × Obj)} {σ : L2.St} {H : Hp} {s : Shared} {x : V} {u t : Value} (I : Inv X pins σ H s) (rx : RelV x u) (ty : TyW X.K H x t) : ∃ P : Heap → Prop, PySem.W.KitX X.K u t P ∧ P s.heap ∧ u ≠ .builtin "__main__.__loader__#opaque" := by
  cases ty with
  | base h => exact kit_of I rx h
  | @xdict a o e c =>
    cases (show u = Value.ref a from rx)
    obtain ⟨h1, _⟩ := I.hok _ _ e
    exact ⟨_, PySem.W.kitx_dict, ⟨o, h1, c⟩, fun z => nomatch z⟩
def rIsW (K : PySem.W.Frag) : List V → Hp → VK → Prop := fun xs H Q => ∃ (x c : V) (t u : Value) (b : Bool), xs = [x, c] ∧ ClsV c u ∧ TyW K H x t ∧ PySem.W.kitOne K t u = some b ∧ Q (.bl b) H
def rIsTW (K : PySem.W.Frag) : List V → Hp → VK → Prop := fun xs H Q => ∃ (x : V) (tp : Addr) (cs : List V) (t : Value) (us : List Value) (b : Bool), xs = [x, .ref tp] ∧ H tp = some (.tup cs) ∧ Paired ClsV cs us ∧ TyW K H x t ∧ PySem.W.kitAny K t us = some b ∧ Q (.bl b) H
theorem call_isW {X : Cx} : CallR X (.builtin "isinstance") (rIsW X.K) := by
  intro pins s σ H xs us Q I r h
  obtain ⟨x, c, t, u, b, rfl, k, ty, e, q⟩ := h
  obtain ⟨u1, u2, rfl, r1, r2⟩ := vals2 r
  have e2 := k.eq r2
  subst e2
  obtain ⟨P, Z, p, hx⟩ := kit_ofW I r1 ty
  exact PySem.W.kia_one Z I.kIn p e hx fun tk => ⟨.bl b, H, I.tok tk, rfl, q⟩
theorem call_isTW {X : Cx} : CallR X (.builtin "isinstance") (rIsTW X.K) := by
  intro pins s σ H xs us Q I r h
  obtain ⟨x, tp, cs, t, ws, b, rfl, hT, k, ty, e, q⟩ := h
  obtain ⟨u1, u2, rfl, r1, r2⟩ := vals2 r
  cases (show u2 = Value.ref tp from r2)
  obtain ⟨P, Z, p, hx⟩ := kit_ofW I r1 ty
  obtain ⟨_, its, rv, o, h1, h2, n, h3⟩ := (show ObjOk X.prog X.w H s.heap tp (.tup cs) from I.hok tp _ hT)
  have e3 := ClsV.all k rv
  subst e3
  obtain ⟨oc, od, dt, sl⟩ := o
  simp only at h2 h3
  subst h2 h3
  exact PySem.W.kia_tup Z I.kIn p h1 e hx fun tk => ⟨.bl b, H, I.tok tk, rfl, q⟩
theorem tyx_of {R H : Hp} (sb : Sb R H) {v : V} {d : PyData} (h : Rp X.F R v d) : TyW X.K H v (.type (tyn d)) := by
  cases d with
  | none => cases h; exact .base (.base .non)
  | bool b => cases h; exact .base (.base (.bl b))
  | int i => cases h; exact .base (.base (.int i))
  | str x => cases h; exact .base (.base (.str x))
  | list l =>
    obtain ⟨a, xs, rfl, hr, _⟩ := (Wp.rp (H := H) h).list (X := X) sb
    rcases hr with hr | ⟨o, hr⟩
    · exact .base (.base (.lst hr))
    · exact .base (.base (.frz hr))
  | tuple l =>
    obtain ⟨a, xs, rfl, hr, _⟩ := (Wp.rp (H := H) h).tuple (X := X) sb
    rcases hr with (hr | ⟨o, hr⟩) | ⟨o, its, n, h1, h2, _⟩
    · exact .base (.base (.tup hr))
    · exact .base (.fTuple hr)
    · exact .base (.kTuple h1 h2)
  | dict l =>
    rcases (Wp.rp (H := H) h).dictC (X := X) sb with ⟨a, xs, rfl, hr, _⟩ | ⟨a, o, xs, ks, kn, ko, vo, vk, vv, ds, kd, vd, rfl, xr, rfl⟩
    · rcases hr with hr | ⟨o, hr⟩
      · exact .base (.base (.dK hr))
      · exact .base (.fDict hr)
    · exact .xdict xr.h xr.x.ex.1
theorem pe_isa1 {x : Str} {t : String} {px : Pos} (tf : TyFact t x) (hgi : Gl X "isinstance") (hmi : X.mg "isinstance" = none) (hg : Gl X x) (hm : X.mg x = none) (ns : notStar a = true) (hb : isBor e = none) (ha : PE X a (tN X.F cl W e f)) :
    PE X (.Call (.Name "isinstance" p) [a, .Name x px] [] pos) (tF X.F cl W fun ρ => (f ρ).bind fun y => .ok (.bool ([t].any fun t => isT t y.1), y.2)) := by
  have hp : PA X [a, .Name x px] (tCons (tR X.F cl W e f) (tCons (tC (.ty t)) tNil)) := pa_cons (pe_frz ha) (pa_cons (pe_bltn hg hm tf.boot rfl tf.nn tf.nd) pa_nil rfl) (starEach_cons ns _ X.env)
  refine pe_imp (pe_callB call_isW hgi hmi PyProof.Rows.boot_isinstance hp (by decide) (by decide) (starEach_cons ns _ X.env) rfl) fun σ H Q ⟨R0, H0, G, ρ, R, S, h⟩ => ⟨R0, H0, G, ρ, R, S, resR_iff.mpr ((ok2_bind.mp (resN_iff.mp h)).imp fun d ρ1 h v R1 H1 S1 l1 o1 => ?_)⟩
  have h1 : Rp X.F R1 v d := by
    unfold OpV at o1
    rw [hb] at o1
    exact o1
  refine ⟨v, .ty t, .type (tyn d), .type t, isT t d, rfl, .ty t, tyx_of S1.sub h1, kit_ty (tf.kit d), ?_⟩
  have e1 : ([t].any fun t => isT t d) = isT t d := by simp
  have h : ∀ v R' H', _ := h
  rw [e1] at h
  exact h _ R1 H1 S1 l1 (.new rfl (.rp (.bl _)))
def tTys : List String → TA
  | [] => tNil
  | t :: ts => tCons (tC (.ty t)) (tTys ts)
theorem tTys_iff {σ : L2.St} {H : Hp} : ∀ {ts : List String} {Q : List V → Hp → Prop}, Q (ts.map .ty) H → tTys ts σ H Q
  | [], _, h => h
  | t :: ts, Q, h => by
    show tC (.ty t) σ H fun x H1 => tTys ts σ H1 fun xs H2 => Q (x :: xs) H2
    exact tTys_iff (ts := ts) (Q := fun xs H2 => Q (.ty t :: xs) H2) h
inductive TysAt (X : Cx) : List String → List Expr → Prop
  | nil : TysAt X [] []
  | cons {t : String} {x : Str} {px : Pos} {ts : List String} {es : List Expr} : TyFact t x → Gl X x → X.mg x = none → TysAt X ts es → TysAt X (t :: ts) (.Name x px :: es)
theorem pa_tys {ts : List String} {es : List Expr} (h : TysAt X ts es) : PA X es (tTys ts) := by
  induction h with
  | nil => exact pa_nil
  | cons tf hg hm _ ih => exact pa_cons (pe_bltn hg hm tf.boot rfl tf.nn tf.nd) ih (starEach_cons rfl _ X.env)
theorem kit_tys {K : PySem.W.Frag} {d : PyData} {ts : List String} {es : List Expr} (h : TysAt X ts es) : PySem.W.kitAny K (.type (tyn d)) (ts.map .type) = some (ts.any fun t => isT t d) := by
  induction h with
  | nil => rfl
  | @cons t x px ts es tf _ _ _ ih =>
    refine kitAny_cons (kit_ty (tf.kit d)) (fun e => ?_) (fun e => ?_)
    · rw [List.any_cons, e]; exact ih
    · rw [List.any_cons, e]; rfl
theorem clsv_tys : ∀ ts : List String, Paired ClsV (ts.map .ty) (ts.map .type)
  | [] => .nil
  | t :: ts => .cons (.ty t) (clsv_tys ts)
theorem pe_isaT {ts : List String} {es : List Expr} {kx : Nat} {tp : Pos} (h : TysAt X ts es) (hl : ts.length ≤ 1000) (hgi : Gl X "isinstance") (hmi : X.mg "isinstance" = none) (ns : notStar a = true) (hb : isBor e = none) (ha : PE X a (tN X.F cl W e f)) :
    PE X (.Call (.Name "isinstance" p) [a, .Tuple es kx tp] [] pos) (tF X.F cl W fun ρ => (f ρ).bind fun y => .ok (.bool (ts.any fun t => isT t y.1), y.2)) := by
  have hp : PA X [a, .Tuple es kx tp] (tCons (tR X.F cl W e f) (tCons (tTup (tTys ts)) tNil)) := pa_cons (pe_frz ha) (pa_cons (pe_tup (pa_tys h)) pa_nil rfl) (starEach_cons ns _ X.env)
  refine pe_imp (pe_callB call_isTW hgi hmi PyProof.Rows.boot_isinstance hp (by decide) (by decide) (starEach_cons ns _ X.env) rfl) fun σ H Q ⟨R0, H0, G, ρ, R, S, q⟩ => ⟨R0, H0, G, ρ, R, S, resR_iff.mpr ((ok2_bind.mp (resN_iff.mp q)).imp fun d ρ1 q v R1 H1 S1 l1 o1 => ?_)⟩
  have h1 : Rp X.F R1 v d := by
    unfold OpV at o1
    rw [hb] at o1
    exact o1
  refine tTys_iff (ts := ts) ⟨by rw [List.length_map]; exact small_line hl, fun tp hn => ?_⟩
  have g : Grow R1 H1 (upd R1 tp (.tup (ts.map .ty))) (upd H1 tp (.tup (ts.map .ty))) := .lay .refl hn
  have q : ∀ v R' H', _ := q
  obtain ⟨S2, l2⟩ := S1.grow g
  exact ⟨v, tp, ts.map .ty, .type (tyn d), ts.map .type, ts.any fun t => isT t d, rfl, upd_same, clsv_tys ts, tyx_of S2.sub (Rp.mono l2 h1), kit_tys h, q _ _ _ S2 (l1.trans l2) (.new rfl (.rp (.bl _)))⟩
end
end DL
set_option Elab.async false
set_option linter.all false
set_option maxRecDepth 100000
set_option maxHeartbeats 1000000
/-! DL, part qb: list(d.items()), the dict locked or not. -/
namespace DL
open PySem PySem.Spec PyProof.Rows L2
section
variable {K : Frg} {R0 H0 R H H' : Hp} {G : List Addr} {ρ : DEnv} {σ : L2.St}
/-- more is there -/
theorem Stt.ext (S : Stt K R0 H0 G ρ σ R H) (k : ∀ b o, H b = some o → H' b = some o) : Stt K R0 H0 G ρ σ R H' := by
  have nn : ∀ a, H a ≠ none → H' a ≠ none := fun a h => by
    cases e : H a with
    | none => exact absurd e h
    | some u => rw [k a u e]; simp
  refine ⟨fun a w e => ?_, S.old, S.new, fun b o e g => k b o (S.keep b o e g), S.g0, fun a g => ⟨nn a (S.gH a g).1, (S.gH a g).2⟩, S.len, fun i s e => ?_, S.ap⟩
  · rcases S.sub a w e with q | ⟨o, xs, q1, q⟩
    · exact .inl (k _ _ q)
    · exact .inr ⟨o, xs, q1, k _ _ q⟩
  · refine (S.sl i s e).mono (Le.refl R) fun a o x => ?_
    have q := S.ownAt e o x
    refine ⟨?_, q.2⟩
    cases z : H a with
    | none => exact absurd z q.1
    | some u => exact k a u z
/-- the tuples just made are frozen -/
theorem items_frz {kvs : List (Key × V)} : ∀ {ts : List Addr} {ds : List (PyData × PyData)} {R : Hp}, Stt K R0 H0 G ρ σ R H' → Paired (fun (t : Addr) (q : Key × V) => H' t = some (.tup [kV q.1, q.2])) ts kvs → RpD K R kvs ds →
    (∀ t ∈ ts, (R t = none ∨ R t = H' t) ∧ H0 t = none ∧ ∀ (i : Nat) (s : Slot), ρ[i]? = some s → s.isOwn = true → σ[i]? ≠ some (some (.ref t))) →
    ∃ R', Stt K R0 H0 G ρ σ R' H' ∧ Le R R' ∧ (∀ b, b ∉ ts → R' b = R b) ∧ RpL K R' (ts.map V.ref) (ds.map fun q => .tuple [q.1, q.2]) := by
  induction kvs with
  | nil =>
    intro ts ds R S p l h
    cases p
    cases l
    exact ⟨R, S, Le.refl R, fun b _ => rfl, .nil⟩
  | cons kv kvs ih =>
    intro ts ds R S p l h
    cases p with
    | @cons t _ ts _ ht p =>
      cases l with
      | @cons key v _ d ds kf hv l =>
        have go : ∀ R1, Stt K R0 H0 G ρ σ R1 H' → Le R R1 → R1 t = some (.tup [kV key, v]) → (∀ b, b ≠ t → R1 b = R b) → ∃ R', Stt K R0 H0 G ρ σ R' H' ∧ Le R R' ∧ (∀ b, b ∉ t :: ts → R' b = R b) ∧ RpL K R' ((t :: ts).map V.ref) (((kD key, d) :: ds).map fun q => .tuple [q.1, q.2]) := fun R1 S1 l1 e1 off => by
          obtain ⟨R2, S2, l2, o2, r2⟩ := ih S1 p (l.mono l1) fun t' m => by
            obtain ⟨q1, q2, q3⟩ := h t' (List.mem_cons_of_mem _ m)
            refine ⟨?_, q2, q3⟩
            by_cases e : t' = t
            · subst e
              exact .inr (by rw [e1, ht])
            · rw [off t' e]
              exact q1
          refine ⟨R2, S2, l1.trans l2, fun b nb => ?_, .cons (.tup (.inl (l2 _ _ e1)) (.cons ?_ (.cons (hv.mono (l1.trans l2)) .nil))) r2⟩
          · rw [o2 b (fun m => nb (List.mem_cons_of_mem _ m)), off b (fun e => nb (by rw [e]; exact List.mem_cons_self))]
          · cases key with
            | inl i => exact .int i
            | inr x => exact .str x kf
        obtain ⟨q1, q2, q3⟩ := h t List.mem_cons_self
        cases e : R t with
        | none =>
          obtain ⟨S1, l1⟩ := S.freeze ⟨e, q2, q3⟩ ht
          exact go _ S1 l1 upd_same fun b n => upd_ne n
        | some u =>
          rcases q1 with q1 | q1
          · rw [e] at q1; cases q1
          · exact go R S (Le.refl R) (by rw [q1, ht]) fun b _ => rfl
end
/-- what list(d.items()) does -/
def rItL : V → Hp → VK → Prop := fun x H Q => ∃ (d : Addr) (kvs : List (Key × V)), x = .ref d ∧ Rd H d (.dK kvs) ∧ ∀ (H' : Hp) (q : Addr) (ts : List Addr), (∀ b o, H b = some o → H' b = some o) → H q = none → (∀ t ∈ ts, H t = none) → q ∉ ts →
  H' q = some (.lst (ts.map V.ref)) → Paired (fun (t : Addr) (z : Key × V) => H' t = some (.tup [kV z.1, z.2])) ts kvs → Q (.ref q) H'
section
variable {X : Cx} {o : Expr} {te : TE} {p apos cpos pos : Pos} {cl : Cls} {W : XK} {ea : E} {fa : DEnv → OV}
theorem pe_itL (hc : X.calm = true) (he : PE X o te) (hg : Gl X "list") (hm : X.mg "list" = none) (hb : attributeBase o "items" X.env (eval o X.env) = eval o X.env) (hl : (apos.endLine == cpos.line) = true) :
    PE X (.Call (.Name "list" p) [.Call (.Attribute o "items" apos) [] [] cpos] [] pos) (tUn rItL te) := by
  have st := starEach_cons (e := .Call (.Attribute o "items" apos) [] [] cpos) (by rfl) [] X.env
  refine ⟨fun pins s σ H Q I hq => wpAny_Call_Name_kw (ld_blt I hg hm PyProof.Rows.boot_list (PyProof.Rows.callWith_type1 ?_ st rfl))⟩
  rw [st]
  refine (show wpAny _ _ (spliced ((false, eval (.Call (.Attribute o "items" apos) [] [] cpos) X.env) :: backTo pos (starEach [] X.env))) _ _ s from Calls.spliced_cons (wpAny_Call_method (T := "dict") (id := "dict.items") hb rfl hl F.plainAttrs_dict F.slot_dict_items F.type_dict_items (thn (he.run pins s σ H _ I hq) fun u s1 y => ?_)))
  obtain ⟨x, H1, I1, rx, d, kvs, ex, hd, q⟩ := y
  subst ex
  cases rx
  obtain ⟨z1, z2, vs, kv, dof⟩ := (show ObjOk X.prog X.w H1 s1.heap d (.dK kvs) from hd.ok I1.hok)
  obtain ⟨ep, dat⟩ := dof.dictAt
  have same := Paired.length kv
  have I2 : Inv X pins σ H1 { s1 with heap := s1.heap.push { cls := .type "dict_items", data := .fields #[.ref d] } } := I1.kept (t' := s1.toks) fun b ob e => Heap.get?_push_of_some _ e
  refine ⟨dof.typeIs, dof.mapOf.noDict, (show wpAny _ _ (callWith cpos (.builtin "dict.items") [.ref d] [] []) _ X.xe s1 from method_meetsIn F.slot_dict_items F.entry_dict_items rfl (PySem.evalArgs_none ⟨rfl, dof.typeIs, F.args_dict_items_1 _, _, meets_dict_items (mixKind X.prog X.w) d z2, ⟨vs, dof⟩, Calls.spliced_nil ?_⟩))⟩
  refine PySem.W.kdx_call (kvs := vs) (knd := mixKind X.prog X.w) (ep := ep) (I1.ok.hd hc) ⟨_, Heap.get?_push_size _ rfl, rfl, rfl⟩ (dat.push _) (by omega) fun h2 tk2 acc2 c2 ts g1 g2 g3 g4 g5 => ?_
  obtain ⟨H', k1, k2, k3, k4, k5, k6, J⟩ := LiI.items_laid (tk := tk2) I2 z1 kv g1 g2 g3 g4 g5
  exact ⟨.ref _, H', J, rfl, q H' _ ts k1 k2 k3 k4 k5 k6⟩
theorem pe_itemsLD (hc : X.calm = true) (hg : Gl X "list") (hm : X.mg "list" = none) (hb : attributeBase o "items" X.env (eval o X.env) = eval o X.env) (hl : (apos.endLine == cpos.line) = true) (ha : PE X o (tN X.F cl W ea fa)) :
    PE X (.Call (.Name "list" p) [.Call (.Attribute o "items" apos) [] [] cpos] [] pos) (tF X.F cl W fun ρ => (fa ρ).bind fun x => Out.ofOpt ((opd ea x.1 x.2).bind (b1X .itemsL)) x.2) := by
  refine pe_imp (pe_itL hc (pe_frz ha) hg hm hb hl) fun σ H Q ⟨R0, H0, G, ρ, R, S, h⟩ => ⟨R0, H0, G, ρ, R, S, resR_iff.mpr ((ok2_bind.mp (resN_iff.mp h)).imp fun x ρ1 h v R1 H1 S1 l1 o1 => ?_)⟩
  obtain ⟨d, ht, h⟩ := ok2_opt.mp h
  obtain ⟨d1, e1, ht⟩ := Option.bind_eq_some_iff.mp ht
  have wp := opd_ok S1 o1 e1
  cases d1 <;> simp only [b1X, b1D] at ht <;> try (cases ht; done)
  split at ht
  rotate_left
  · cases ht
  rename_i pk
  cases ht
  obtain ⟨a, ks, rfl, rd, la⟩ := wp.dict (X := X) S1.sub pk
  refine ⟨a, ks, rfl, rd, fun H' q ts k1 k2 k3 k4 k5 k6 => ?_⟩
  have S2 := S1.ext k1
  obtain ⟨R3, S3, l3, off, rl⟩ := items_frz S2 k6 la fun t m => ⟨.inl (S1.r0 (k3 t m)), S1.h0 (k3 t m), fun i s e o x => (S1.ownAt e o x).1 (k3 t m)⟩
  exact h _ R3 H' S3 (l1.trans l3) (.new rfl (.lst ⟨by rw [off q k4]; exact S1.r0 k2, S1.h0 k2, fun i s e o x => (S1.ownAt e o x).1 k2⟩ k5 rl))
end
end DL
set_option Elab.async false
set_option linter.all false
set_option maxRecDepth 100000
set_option maxHeartbeats 2000000
/-! DL, part ma: zip of three, lists and tuples in any mix. -/
namespace DL
open PySem PySem.Spec PyProof.Rows L2
def Iz3 (K : PySem.W.Frag) (k1 k2 k3 : Sk) (a b c : Addr) : L2.It :=
  ⟨fun i H => ∃ xs ys zs x y z, k1.has K H a xs ∧ k2.has K H b ys ∧ k3.has K H c zs ∧ xs[i]? = some x ∧ ys[i]? = some y ∧ zs[i]? = some z,
    fun i H v H' => ∃ T x y z, v = .ref T ∧ H T = none ∧ H' = upd H T (.tup [x, y, z]) ∧ (∀ xs, k1.has K H a xs → xs[i]? = some x) ∧ (∀ ys, k2.has K H b ys → ys[i]? = some y) ∧ ∀ zs, k3.has K H c zs → zs[i]? = some z,
    fun i H => ∃ xs ys zs, k1.has K H a xs ∧ k2.has K H b ys ∧ k3.has K H c zs ∧ i = min (min xs.length ys.length) zs.length⟩
theorem turn_z3 {P : Program} {w : World} {K : PySem.W.Frag} {elts : List Expr} {kk : Nat} {tpos : Pos} {k1 k2 k3 : Sk} {a b c z TI TO i1 i2 i3 : Addr} (D : ZipSep3 z TI TO i1 i2 i3 [i1, a] [i2, b] [i3, c]) (n1 : a ≠ i1) (n2 : b ≠ i2) (n3 : c ≠ i3) :
    Turn P w K (.Tuple elts kk tpos) (Iz3 K k1 k2 k3 a b c) [z, TI, TO, i1, i2, i3] z (fun i h => IsZip h z TI TO .none ∧ IsTupOf3 h TI (.ref i1) (.ref i2) (.ref i3) ∧ (∃ x y v, IsTupOf3 h TO x y v) ∧ k1.iter h i1 a i ∧ k2.iter h i2 b i ∧ k3.iter h i3 c i) where
  mem := by simp
  obj := fun i h st c hc => by
    obtain ⟨hz, hTI, ⟨x, y, v, hTO⟩, st1, st2, st3⟩ := st
    simp only [List.mem_cons, List.not_mem_nil, or_false] at hc
    rcases hc with q | q | q | q | q | q <;> subst q
    · exact ⟨_, hz, fun v q => nomatch q⟩
    · exact ⟨_, hTI, fun v q => nomatch q⟩
    · exact ⟨_, hTO, fun v q => nomatch q⟩
    · exact Sk.live st1
    · exact Sk.live st2
    · exact Sk.live st3
  keep := fun i h h' st k => by
    obtain ⟨hz, hTI, ⟨x, y, v, hTO⟩, st1, st2, st3⟩ := st
    exact ⟨k z (by simp) _ hz, k TI (by simp) _ hTI, ⟨x, y, v, k TO (by simp) _ hTO⟩, Sk.at_ st1 fun o q => k i1 (by simp) o q, Sk.at_ st2 fun o q => k i2 (by simp) o q, Sk.at_ st3 fun o q => k i3 (by simp) o q⟩
  item := by
    intro X hP hw hK hc i pins s σ H E I hf st hg
    subst hP hw hK
    obtain ⟨hz, hTI, hTO, st1, st2, st3⟩ := st
    obtain ⟨xs, ys, zs, x, y, v, q1, q2, q3, e1, e2, e3⟩ := hg
    obtain ⟨its, rv, p1, _⟩ := Sk.inv I q1
    obtain ⟨its2, rv2, p2, _⟩ := Sk.inv I q2
    obtain ⟨its3, rv3, p3, _⟩ := Sk.inv I q3
    have hh : X.A.in1.handled = none := I.ok.hd hc
    have l1 := rv.length
    have l2 := rv2.length
    have l3 := rv3.length
    have hi : i < min (min its.toArray.size its2.toArray.size) its3.toArray.size := by
      have h1 := (List.getElem?_eq_some_iff.mp e1).1
      have h2 := (List.getElem?_eq_some_iff.mp e2).1
      have h3 := (List.getElem?_eq_some_iff.mp e3).1
      simp only [List.size_toArray]
      omega
    have Wk := WalksT.zipD3 (prog := X.prog) (w := X.w) D (Sk.draws hh i1 a n1 its.toArray k1) (Sk.draws hh i2 b n2 its2.toArray k2) (Sk.draws hh i3 c n3 its3.toArray k3)
    have hw : ∀ b ∈ [z, TO, i1, i2, i3], FpOk X pins H b := fun b hb => hf b (by
      simp only [List.mem_cons, List.not_mem_nil, or_false] at hb ⊢
      rcases hb with q | q | q | q | q <;> simp [q])
    refine thn (item_W Wk I hw ⟨hz, hTI, hTO, ⟨st1, p1⟩, ⟨st2, p2⟩, ⟨st3, p3⟩⟩ hi (E := E) (Y := fun vs => vs = [x, y, v]) fun vals hv => ?_) fun r s1 ⟨u, er, q⟩ => ⟨u, er, thn q fun _ s2 ⟨T, vs, hge, I2, eu, ev, st'⟩ => ?_⟩
    · obtain ⟨u1, u2, u3, h1, h2, h3, rfl⟩ := hv
      obtain ⟨x', z1, z2⟩ := itsAt rv h1
      obtain ⟨y', z3, z4⟩ := itsAt rv2 h2
      obtain ⟨v', z5, z6⟩ := itsAt rv3 h3
      rw [e1] at z1
      rw [e2] at z3
      rw [e3] at z5
      cases z1
      cases z3
      cases z5
      exact ⟨[x, y, v], .cons z2 (.cons z4 (.cons z6 .nil)), by show (3 : Nat) ≤ 1000; decide, rfl⟩
    · subst ev eu
      refine ⟨.ref T, _, I2, rfl, ⟨T, x, y, v, rfl, I.hok.fresh hge, rfl, fun xs' h => by rw [Sk.inj I h q1]; exact e1, fun ys' h => by rw [Sk.inj I h q2]; exact e2, fun zs' h => by rw [Sk.inj I h q3]; exact e3⟩,
        ⟨st'.1, st'.2.1, st'.2.2.1, st'.2.2.2.1.1, st'.2.2.2.2.1.1, st'.2.2.2.2.2.1⟩, fun b hb => ?_⟩
      have hb1 := (hf b hb).1
      rw [upd_ne fun e => ?_]
      · exact hb1
      · subst e
        have : b < s.heap.objs.size := by
          simp only [List.mem_cons, List.not_mem_nil, or_false] at hb
          obtain ⟨_, _, _, hTO⟩ := hTO
          obtain ⟨_, ho1, _⟩ := Sk.live st1
          obtain ⟨_, ho2, _⟩ := Sk.live st2
          obtain ⟨_, ho3, _⟩ := Sk.live st3
          rcases hb with q | q | q | q | q | q <;> rw [q]
          · exact Heap.lt_size hz
          · exact Heap.lt_size hTI
          · exact Heap.lt_size hTO
          · exact Heap.lt_size ho1
          · exact Heap.lt_size ho2
          · exact Heap.lt_size ho3
        exact absurd (Nat.lt_of_lt_of_le this hge) (Nat.lt_irrefl _)
  done := by
    intro X hP hw hK hc i pins s σ H E I hf st hg
    subst hP hw hK
    obtain ⟨hz, hTI, hTO, st1, st2, st3⟩ := st
    obtain ⟨xs, ys, zs, q1, q2, q3, e⟩ := hg
    obtain ⟨its, rv, p1, _⟩ := Sk.inv I q1
    obtain ⟨its2, rv2, p2, _⟩ := Sk.inv I q2
    obtain ⟨its3, rv3, p3, _⟩ := Sk.inv I q3
    have hh : X.A.in1.handled = none := I.ok.hd hc
    have hi : i = min (min its.toArray.size its2.toArray.size) its3.toArray.size := by
      simp only [List.size_toArray, ← rv.length, ← rv2.length, ← rv3.length]
      exact e
    subst hi
    have Wk := WalksT.zipD3 (prog := X.prog) (w := X.w) D (Sk.draws hh i1 a n1 its.toArray k1) (Sk.draws hh i2 b n2 its2.toArray k2) (Sk.draws hh i3 c n3 its3.toArray k3)
    have hw : ∀ b ∈ [z, TO, i1, i2, i3], FpOk X pins H b := fun b hb => hf b (by
      simp only [List.mem_cons, List.not_mem_nil, or_false] at hb ⊢
      rcases hb with q | q | q | q | q <;> simp [q])
    exact done_W Wk I hw ⟨hz, hTI, hTO, ⟨st1, p1⟩, ⟨st2, p2⟩, ⟨st3, p3⟩⟩
  self := fun A i s Q E st h => wpAny_pyIter_zip st.1 h
def iZ3 (K : PySem.W.Frag) (ta : TA) : TI := fun σ H R => ta σ H fun vs H1 => ∃ k1 k2 k3 a b c xs ys zs, vs = [.ref a, .ref b, .ref c] ∧ Sk.has K H1 a xs k1 ∧ Sk.has K H1 b ys k2 ∧ Sk.has K H1 c zs k3 ∧ R (Iz3 K k1 k2 k3 a b c) H1
theorem vals3D {x y z : V} {us : List Value} (r : Vals [x, y, z] us) : ∃ u w t, us = [u, w, t] ∧ RelV x u ∧ RelV y w ∧ RelV z t := by
  cases r with
  | cons r1 r2 =>
    obtain ⟨u, w, rfl, r3, r4⟩ := vals2 r2
    exact ⟨_, u, w, rfl, r1, r3, r4⟩
theorem pi_z3 {X : Cx} {as : List Expr} {e : Expr} {ta : TA} {p pos tpos : Pos} {elts : List Expr} {kk : Nat} (hg : Gl X "zip") (hm : X.mg "zip" = none) (ha : PA X (e :: as) ta) (hs : (e :: as).all notStar = true) :
    PI X (.Tuple elts kk tpos) (.Call (.Name "zip" p) (e :: as) [] pos) (iZ3 X.K ta) := by
  refine ⟨fun pins s σ H R I h => ?_⟩
  rw [List.all_cons, Bool.and_eq_true] at hs
  refine Call_ (ld_blt I hg hm PyProof.Rows.boot_zip (PyProof.Rows.callWith_type1 (thn (ha.run pos pins s σ H _ I h) fun us s1 ⟨vs, H1, I1, r1, q1⟩ => ?_) (starEach_cons hs.1 as X.env) (plain_star hs.2 X.env pos)))
  obtain ⟨k1, k2, k3, a, b, c, xs, ys, zs, ex, hqx, hqy, hqz, q⟩ := q1
  subst ex
  obtain ⟨u1, u2, u3, rfl, w1, w2, w3⟩ := vals3D r1
  cases w1
  cases w2
  cases w3
  obtain ⟨its, rv, p1, la⟩ := Sk.inv I1 hqx
  obtain ⟨its2, rv2, p2, lb⟩ := Sk.inv I1 hqy
  obtain ⟨its3, rv3, p3, lc⟩ := Sk.inv I1 hqz
  refine zip_begins3 (Sk.begins a its.toArray k1) (Sk.begins b its2.toArray k2) (Sk.begins c its3.toArray k3) p1 p2 p3 fun h' hz hTI hTO h1 h2 h3 hsz hk => wpAny_pyIter_zip hz ?_
  have I2 : Inv X pins σ H1 { s1 with heap := h' } := I1.kept (t' := s1.toks) hk
  refine ⟨s1.heap.objs.size + 5, [s1.heap.objs.size + 5, s1.heap.objs.size + 3, s1.heap.objs.size + 4, s1.heap.objs.size, s1.heap.objs.size + 1, s1.heap.objs.size + 2], _, _, H1, rfl, I2,
    turn_z3 (zip_sep3 (fp1 := [a]) (fp2 := [b]) (fp3 := [c]) (fun c hc => by rw [List.mem_singleton.mp hc]; exact la) (fun c hc => by rw [List.mem_singleton.mp hc]; exact lb) (fun d hc => by rw [List.mem_singleton.mp hc]; exact lc))
      (Nat.ne_of_lt la) (Nat.ne_of_lt (Nat.lt_succ_of_lt lb)) (Nat.ne_of_lt (Nat.lt_succ_of_lt (Nat.lt_succ_of_lt lc))), ⟨hz, hTI, ⟨_, _, _, hTO⟩, Sk.new h1, Sk.new h2, Sk.new h3⟩, fun c hcm => ?_, q⟩
  have hle : s1.heap.objs.size ≤ c := by
    simp only [List.mem_cons, List.not_mem_nil, or_false] at hcm
    rcases hcm with z | z | z | z | z | z <;> rw [z]
    · exact Nat.le_add_right _ _
    · exact Nat.le_add_right _ _
    · exact Nat.le_add_right _ _
    · exact Nat.le_refl _
    · exact Nat.le_add_right _ _
    · exact Nat.le_add_right _ _
  exact I1.fpOk hle (I1.hok.fresh hle)
end DL
set_option Elab.async false
set_option linter.all false
set_option maxRecDepth 100000
set_option maxHeartbeats 1000000
/-! DL, part oa: zip of three, by the evaluator. -/
namespace DL
open PySem PySem.Spec PyProof.Rows L2
theorem zip3D_len : ∀ ds es fs : List PyData, (zip3D ds es fs).length = min (min ds.length es.length) fs.length
  | [], es, fs => by cases es <;> cases fs <;> simp [zip3D]
  | _ :: _, [], fs => by cases fs <;> simp [zip3D]
  | _ :: _, _ :: _, [] => by simp [zip3D]
  | _ :: ds, _ :: es, _ :: fs => by
    unfold zip3D
    rw [List.length_cons, zip3D_len ds es fs, List.length_cons, List.length_cons, List.length_cons]
    omega
theorem zip3D_at : ∀ {ds es fs : List PyData} {i : Nat} {d : PyData}, (zip3D ds es fs)[i]? = some d → ∃ x y z, ds[i]? = some x ∧ es[i]? = some y ∧ fs[i]? = some z ∧ d = .tuple [x, y, z]
  | [], es, fs, _, _, h => by cases es <;> cases fs <;> simp [zip3D] at h
  | _ :: _, [], fs, _, _, h => by cases fs <;> simp [zip3D] at h
  | _ :: _, _ :: _, [], _, _, h => by simp [zip3D] at h
  | x :: ds, y :: es, z :: fs, 0, d, h => by
    simp [zip3D] at h
    exact ⟨x, y, z, rfl, rfl, rfl, h.symm⟩
  | x :: ds, y :: es, z :: fs, i + 1, d, h => by
    unfold zip3D at h
    rw [List.getElem?_cons_succ] at h
    obtain ⟨x', y', z', h1, h2, h3, h4⟩ := zip3D_at h
    exact ⟨x', y', z', by simpa using h1, by simpa using h2, by simpa using h3, h4⟩
def YTrip (f g k : Nat → Option V) (i : Nat) (H : Hp) (v : V) (H' : Hp) : Prop := ∃ T x y z, v = .ref T ∧ H T = none ∧ H' = upd H T (.tup [x, y, z]) ∧ f i = some x ∧ g i = some y ∧ k i = some z
section
variable {K : Frg} {R1 H0 : Hp} {G : List Addr}
theorem walkD_z3 {k1 k2 k3 : Sk} {a b c : Addr} {xs ys zs : List V} {ds es fs : List PyData} (s : Src K R1 k1 a xs ds) (t : Src K R1 k2 b ys es) (u : Src K R1 k3 c zs fs) : WalkD K R1 H0 G (Iz3 K k1 k2 k3 a b c) (zip3D ds es fs) := by
  refine ⟨YTrip (fun i => xs[i]?) (fun i => ys[i]?) (fun i => zs[i]?), ?_, fun i H v H' R d _ le sb y e => ?_⟩
  · rw [zip3D_len, ← s.rp.len, ← t.rp.len, ← u.rp.len]
    refine ⟨fun i H hi ⟨_, R, le, sb⟩ => ?_, fun H ⟨_, R, le, sb⟩ => ⟨xs, ys, zs, s.has R H le sb, t.has R H le sb, u.has R H le sb, rfl⟩, fun i H v H' _ ⟨_, R, le, sb⟩ y => ?_⟩
    · have h1 : i < xs.length := by omega
      have h2 : i < ys.length := by omega
      have h3 : i < zs.length := by omega
      exact ⟨xs, ys, zs, xs[i], ys[i], zs[i], s.has R H le sb, t.has R H le sb, u.has R H le sb, by simp [h1], by simp [h2], by simp [h3]⟩
    · obtain ⟨T, x, y, z, h1, h2, h3, h4, h5, h6⟩ := y
      exact ⟨T, x, y, z, h1, h2, h3, h4 xs (s.has R H le sb), h5 ys (t.has R H le sb), h6 zs (u.has R H le sb)⟩
  · obtain ⟨T, x, y, z, rfl, h2, rfl, y1, y2, y3⟩ := y
    have y1 : xs[i]? = some x := y1
    have y2 : ys[i]? = some y := y2
    have y3 : zs[i]? = some z := y3
    obtain ⟨d1, e1, p1⟩ := s.rp.at y1
    obtain ⟨d2, e2, p2⟩ := t.rp.at y2
    obtain ⟨d3, e3, p3⟩ := u.rp.at y3
    obtain ⟨d4, d5, d6, e4, e5, e6, rfl⟩ := zip3D_at e
    rw [e1] at e4
    rw [e2] at e5
    rw [e3] at e6
    cases e4
    cases e5
    cases e6
    have le2 : Le R (upd R T (.tup [x, y, z])) := Le.upd (r_none sb h2)
    exact ⟨_, .lay .refl h2, .tup (.inl upd_same) (.cons ((p1.mono le).mono le2) (.cons ((p2.mono le).mono le2) (.one ((p3.mono le).mono le2))))⟩
end
section
variable {X : Cx} {cl : Cls} {W : XK} {a b c : Expr} {ea eb ec : E} {fa fb fc : DEnv → OV} {elts : List Expr} {kk : Nat} {p pos tpos : Pos}
theorem pi_z3D (hg : Gl X "zip") (hm : X.mg "zip" = none) (hs : notStar a = true) (hs2 : notStar b = true) (hs3 : notStar c = true) (hn : isBor ea = none) (hn2 : isBor eb = none) (hn3 : isBor ec = none) (ha : PE X a (tN X.F cl W ea fa)) (hb : PE X b (tN X.F cl W eb fb)) (hc : PE X c (tN X.F cl W ec fc)) :
    PI X (.Tuple elts kk tpos) (.Call (.Name "zip" p) [a, b, c] [] pos) (wiD X.F cl W (.zip3 ea eb ec) fun ρ => (fa ρ).bind fun x => (fb x.2).bind fun y => (fc y.2).bind fun z => Out.ofOpt ((seqD x.1).bind fun l => (seqD y.1).bind fun m => (seqD z.1).map fun n => zip3D l m n) z.2) := by
  refine ⟨fun pins s σ H Rk I ⟨R0, H0, G, ρ, R, S, h⟩ => ?_⟩
  refine (pi_z3 hg hm (pa_consD hs ha (pa_consD hs2 hb (pa_consD hs3 hc pa_nilD))) (by simp [hs, hs2, hs3])).run pins s σ H Rk I ⟨R0, H0, G, ρ, R, S, resA_iff.mpr (ok2_bind.mpr ((ok2_bind.mp h).imp fun x ρ1 h => ?_))⟩
  refine ok2_bind.mpr (ok2_bind.mpr ((ok2_bind.mp h).imp fun y ρ2 h => ?_))
  refine ok2_bind.mpr (ok2_bind.mpr ((ok2_bind.mp h).imp fun z ρ3 h => ?_))
  obtain ⟨ds, hd, h⟩ := ok2_opt.mp h
  obtain ⟨d1, e1, hd⟩ := Option.bind_eq_some_iff.mp hd
  obtain ⟨d2, e2, hd⟩ := Option.bind_eq_some_iff.mp hd
  obtain ⟨d3, e3, rfl⟩ := Option.map_eq_some_iff.mp hd
  refine fun vs R1 H1 S1 l1 o1 => ?_
  cases o1 with
  | cons o1 t =>
    cases t with
    | cons o2 t =>
      cases t with
      | cons o3 t =>
        cases t
        obtain ⟨k, a, xs, rfl, sr⟩ := src_of (o1.rp hn) e1
        obtain ⟨k2, b, ys, rfl, sr2⟩ := src_of (o2.rp hn2) e2
        obtain ⟨k3, c, zs, rfl, sr3⟩ := src_of (o3.rp hn3) e3
        exact ⟨k, k2, k3, a, b, c, xs, ys, zs, rfl, sr.has R1 H1 (Le.refl _) S1.sub, sr2.has R1 H1 (Le.refl _) S1.sub, sr3.has R1 H1 (Le.refl _) S1.sub, h _ H1 R1 H0 G S1 l1 (walkD_z3 sr sr2 sr3) (unh_none rfl) (fun _ => ⟨rfl, rfl⟩)⟩
end
end DL
set_option Elab.async false
set_option linter.all false
set_option maxRecDepth 100000
set_option maxHeartbeats 1000000
/-! DL, part ka: calls by keywords alone. -/
namespace DL
open PySem PySem.Spec PyProof.Rows L2
/-- for each place among the parameters, where among the keywords its value stands -/
def pick {α : Type} (π : List Nat) (l : List α) : List α := π.filterMap fun j => l[j]?
/-- how keywords of these names bind -/
structure KwB (K : PySem.W.Frag) (fd : FuncData) (ps ks : List Str) (π : List Nat) : Prop where
  to : ∀ (s : Shared) (ws : List Value), K.In s.heap → (pick π ws).length = ps.length → BindsTo s fd ⟨[], ks.zip ws⟩ (ps.zip (pick π ws))
structure FnKw (P : Program) (w : World) (K : PySem.W.Frag) (mg : Str → Option Value) (base : Heap) (cl : Cls) (k : Nat) (x : Str) (φ : Fun) (ks : List Str) (π : List Nat) : Prop where
  ex : ∃ (a : Addr) (fd : FuncData) (ps : List Str) (j : Nat), j ≤ k ∧ mg x = some (.ref a) ∧ PySem.W.keepIn K (.ref a) = true ∧ FnG P w K mg base j a fd ps (spD ⟨K, w, clOf mg⟩ cl none φ) ∧ KwB K fd ps ks π
theorem pick_vals {vs : List V} {us : List Value} (r : Vals vs us) : ∀ π : List Nat, Vals (pick π vs) (pick π us)
  | [] => .nil
  | j :: π => by
    unfold pick
    rw [List.filterMap_cons, List.filterMap_cons]
    cases e : vs[j]? with
    | none =>
      rw [Vals.none_of r e]
      exact pick_vals r π
    | some v =>
      obtain ⟨u, e1, e2⟩ := r.get e
      rw [e1]
      exact .cons e2 (pick_vals r π)
theorem pick_rp {K : Frg} {R : Hp} {vs : List V} {ds : List PyData} (r : RpL K R vs ds) : ∀ π : List Nat, RpL K R (pick π vs) (pick π ds)
  | [] => .nil
  | j :: π => by
    unfold pick
    rw [List.filterMap_cons, List.filterMap_cons]
    cases e : vs[j]? with
    | none =>
      have e1 : ds[j]? = none := by
        have h1 := r.len
        have h2 : vs.length ≤ j := List.getElem?_eq_none_iff.mp e
        exact List.getElem?_eq_none_iff.mpr (by omega)
      rw [e1]
      exact pick_rp r π
    | some v =>
      obtain ⟨d, e1, e2⟩ := r.at e
      rw [e1]
      exact .cons e2 (pick_rp r π)
section
variable {X : Cx} {k : Nat} {f : Addr} {fd : FuncData} {ps ks : List Str} {π : List Nat} {sp : Sp} {E : XK} {x : Str} {p pos : Pos} {kws : List Keyword} {t : TA}
theorem run_kwG {pins : List (Addr × Obj)} {σ : L2.St} {H : Hp} {s : Shared} {Q : VK} {us : List Value} {vs : List V} (F : FnG X.prog X.w X.K X.mg X.base k f fd ps sp) (hr : Room k X.A) (gd : X.A.guards = some []) (hb : KwB X.K fd ps ks π) (hx : Passes (L2.CX X.prog X.w) X E)
    (I : Inv X pins σ H s) (r : Vals vs us) (h : sp (pick π vs) H Q E) : wpAny (model X.prog X.w) X.A (call (.ref f) [] (ks.zip us)) (EP X pins σ Q) X.xe s := by
  have r2 := pick_vals r π
  have hl : (pick π us).length = ps.length := by rw [← r2.length]; exact F.len _ _ _ _ h
  refine wpAny_call (codeAny_mono (F.run X.A X.stack s H ⟨[], ks.zip us⟩ (pick π us) (pick π vs) Q E hr gd I.env0 (hb.to s us I.kIn hl) r2 h) fun r s' hq => ?_)
  cases r with
  | error e => exact hx pins σ H s e s' I hq
  | ok fl =>
    cases fl with
    | ret u => exact I.after hq
    | next => exact False.elim hq
    | brk => exact False.elim hq
    | cont => exact False.elim hq
def tCallKw (sp : Sp) (π : List Nat) (E : XK) (t : TA) : TE := fun σ H Q => t σ H fun vs H1 => sp (pick π vs) H1 Q E
theorem pe_callKwG (F : FnG X.prog X.w X.K X.mg X.base k f fd ps sp) (hr : Room k X.A) (gd : X.A.guards = some []) (hg : Gl X x) (hm : X.mg x = some (.ref f)) (hk : PySem.W.keepIn X.K (.ref f) = true) (hb : KwB X.K fd ps ks π) (hx : Passes (L2.CX X.prog X.w) X E)
    (ha : PK X kws t) (hall : (backToKw pos (keywordEach kws X.env)).all (·.1.isSome) = true) (hks : (backToKw pos (keywordEach kws X.env)).filterMap (·.1) = ks) (hpl : ((backTo pos (starEach [] X.env)).any (·.1) || (backToKw pos (keywordEach kws X.env)).any (·.1.isNone)) = false)
    (hdb : (x == ("__debug__" : Str)) = false) : PE X (.Call (.Name x p) [] kws pos) (tCallKw sp π E t) := by
  refine ⟨fun pins s σ H Q I h => ?_⟩
  refine wpAny_Call_Name_kw (ld_glob I hg hm ?_ hdb)
  refine PySem.W.callWith_KW0 (h₀ := X.base) I.ok.mod.kin hk hall ?_ hpl
  refine thn (ha.run pos pins s σ H _ I h) fun us s1 ⟨vs, H1, I1, r, q⟩ => ⟨I1.kIn, ?_⟩
  rw [hks]
  exact run_kwG F hr gd hb hx I1 r q
end
/-- the names of a list of keywords -/
def kwNames : List Keyword → Option (List Str)
  | [] => some []
  | ⟨some n, _, _⟩ :: r => (kwNames r).map (n :: ·)
  | ⟨none, _, _⟩ :: _ => none
theorem kw_each {pos : Pos} {env : Env} : ∀ {kws : List Keyword} {ks : List Str}, kwNames kws = some ks → (backToKw pos (keywordEach kws env)).all (·.1.isSome) = true ∧ (backToKw pos (keywordEach kws env)).filterMap (·.1) = ks ∧ (backToKw pos (keywordEach kws env)).any (·.1.isNone) = false
  | [], ks, h => by cases h; exact ⟨rfl, rfl, rfl⟩
  | ⟨some n, v, q⟩ :: r, ks, h => by
    obtain ⟨ks', e1, rfl⟩ := Option.map_eq_some_iff.mp h
    obtain ⟨h1, h2, h3⟩ := kw_each (pos := pos) (env := env) e1
    refine ⟨?_, ?_, ?_⟩
    · show (true && (backToKw pos (keywordEach r env)).all (·.1.isSome)) = true
      rw [h1]; rfl
    · show n :: (backToKw pos (keywordEach r env)).filterMap (·.1) = n :: ks'
      rw [h2]
    · show (false || (backToKw pos (keywordEach r env)).any (·.1.isNone)) = false
      rw [h3]; rfl
  | ⟨none, _, _⟩ :: _, _, h => by cases h
section
variable {X : Cx} {cl : Cls} {W : XK} {k : Nat} {φ : Fun} {x : Str} {p pos kpos : Pos} {nm : Option Str} {kws : List Keyword} {a : Expr} {e : E} {es : List E} {f : DEnv → OV} {fs : DEnv → Out (List PyData × DEnv)} {ks : List Str} {π : List Nat}
theorem pk_nilD : PK X [] (tA X.F cl W [] fun ρ => .ok ([], ρ)) := ⟨fun pos pins s σ H Q I ⟨R0, H0, G, ρ, R, S, h⟩ => pk_nil.run pos pins s σ H Q I (h [] R H S (Le.refl R) .nil)⟩
theorem pk_consD (ha : PE X a (tN X.F cl W e f)) (hs : PK X kws (tA X.F cl W es fs)) : PK X (⟨nm, a, kpos⟩ :: kws) (tA X.F cl W (e :: es) fun ρ => (f ρ).bind fun x => (fs x.2).bind fun y => .ok (x.1 :: y.1, y.2)) :=
  ⟨fun pos pins s σ H Q I ⟨R0, H0, G, ρ, R, S, h⟩ => (pk_cons (nm := nm) (kpos := kpos) (pe_frz ha) hs).run pos pins s σ H Q I ⟨R0, H0, G, ρ, R, S, resR_iff.mpr ((ok2_bind.mp (resA_iff.mp h)).imp fun x ρ1 h v R1 H1 S1 l1 o1 => ⟨R0, H0, G, ρ1, R1, S1,
    resA_iff.mpr ((ok2_bind.mp h).imp fun y ρ2 h vs R2 H2 S2 l2 o2 => h (v :: vs) R2 H2 S2 (l1.trans l2) (.cons (o1.mono l2) o2))⟩)⟩⟩
theorem pe_callKwD (hr : Room k X.A) (gd : X.A.guards = some []) (tk : Takes X fun c d _ H => W c d H) (F : FnKw X.prog X.w X.K X.mg X.base cl k x φ ks π) (hg : Gl X x) (hdb : (x == ("__debug__" : Str)) = false)
    (hn : (es.all fun e => (isBor e).isNone) = true) (hk : kwNames kws = some ks) (ha : PK X kws (tA X.F cl W es fs)) :
    PE X (.Call (.Name x p) [] kws pos) (tV X.F cl W fun ρ => (fs ρ).bind fun x => (φ (pick π x.1)).bind fun r => .ok (r.1, x.2)) := by
  obtain ⟨g, fd, ps, j, hj, hm, hkp, FG, hb⟩ := F.ex
  obtain ⟨h1, h2, h3⟩ := kw_each (pos := pos) (env := X.env) hk
  refine pe_imp (pe_callKwG (E := W) FG (hr.mono hj) gd hg hm hkp hb (fun pins σ H s e s' I c => passes_call tk (fun _ _ _ _ h => h) pins σ H s e s' I c) ha h1 h2 (by rw [h3]; rfl) hdb) fun σ H Q ⟨R0, H0, G, ρ, R, S, h⟩ => ?_
  refine ⟨R0, H0, G, ρ, R, S, resA_iff.mpr ((ok2_bind.mp (resN_iff.mp h)).imp fun ds ρ1 h vs R1 H1 S1 l1 o1 => ?_)⟩
  show spD X.F cl none φ (pick π vs) H1 Q W
  refine ⟨R1, pick π ds, [], S1.sub, ⟨rfl, pick_rp (o1.rp hn) π⟩, ?_⟩
  cases hp : φ (pick π ds) with
  | bad => simp only [hp] at h; exact h.elim
  | exc c d =>
    simp only [hp] at h
    have h : Wsh X.F cl R0 H0 G W c d := h
    exact h.inner S1 (fun a z => nomatch z)
  | ok y =>
    simp only [hp] at h
    exact fun v R' H' A r _ => h v R' H' (S1.call0 A) (l1.trans A.le) (.new rfl (.rp r))
end
end DL
set_option Elab.async false
set_option linter.all false
set_option maxRecDepth 100000
set_option maxHeartbeats 4000000
/-! DL, part t: is this the text's own expression? -/
namespace DL
open PySem PySem.Spec PyProof.Rows L2
/-- what is fixed through a text: globals, known defs, their names -/
structure Env2 where
  GT : List (Str × PyData)
  PhU : Nat → Fun
  RF : Refs
  KP : Nat → List Nat → List Nat
  Kn : Nat → Bool
  fnm : Nat → Str
  KK : Nat → List Nat → Option (List Str) := fun _ _ => none
  /-- the known error classes; the defs that hand back a new list -/
  XC : Str → Bool := fun _ => false
  KnN : Nat → Bool := fun _ => false
/-- where one stands: the names, the scope, the names whose cells are this block's own -/
structure Pl where
  N : List Str
  sc : Scope
  fn : Str → Bool
def Pl.kind (p : Pl) (x : Str) : Option NameKind := p.sc.names.lookup x
def nmOk (p : Pl) (i : Nat) (x : Str) : Bool := decide (p.N[i]? = some x) && (decide (p.kind x = some .local) || decide (p.kind x = some .cell) || decide (p.kind x = some .free)) && !(x == ("__debug__" : Str)) && !(x == ("__classdict__" : Str))
/-- a name that is stored -/
def stOk (p : Pl) (i : Nat) (x : Str) : Bool := decide (p.N[i]? = some x) && (decide (p.kind x = some .local) || (decide (p.kind x = some .cell) && p.fn x))
def glOk (p : Pl) (x : Str) : Bool := decide (p.kind x = some .globalImplicit) && !(x == ("__debug__" : Str))
def bnOk (p : Pl) (y x : Str) : Bool := decide (x = y) && glOk p y
def kOk : PyData → Const → Bool
  | .none, .none => true
  | .bool b, .bool c => b == c
  | .int i, .int j => decide (i = j)
  | .str x, .str y => decide (x = y) && decide (x.length ≤ sizeLine)
  | _, _ => false
def nb (e : E) : Bool := (isBor e).isNone
def notSetE : Expr → Bool
  | .Set _ _ _ => false
  | _ => true
def notCallE : Expr → Bool
  | .Call _ _ _ _ => false
  | _ => true
def compE : Expr → Bool
  | .ListComp _ _ _ _ => true
  | .SetComp _ _ _ _ => true
  | .DictComp _ _ _ _ _ => true
  | _ => false
def tgNames (p : Pl) : List Nat → List Expr → Bool
  | [], [] => true
  | i :: is, .Name x _ :: es => stOk p i x && tgNames p is es
  | _, _ => false
def tgOk (p : Pl) : Tg → Expr → Bool
  | .n i, .Name x _ => stOk p i x
  | .t is, .Tuple es _ _ => tgNames p is es
  | _, _ => false
def ownP (p : Pl) (own : List Nat) : List (Str × Nat) := own.filterMap fun i => (p.N[i]?).map fun x => (x, i)
def inner (p : Pl) (scope : Scope) : Pl := ⟨p.N, relS scope p.sc, fun x => scope.names.lookup x == some .cell⟩
def b2n : B2 → Option Str
  | .max => some "max"
  | .min => some "min"
  | _ => none
def isNeg : B1 → Bool
  | .neg => true
  | _ => false
def isItemsL : B1 → Bool
  | .itemsL => true
  | _ => false
def b1n : B1 → Option Str
  | .len => some "len"
  | .int => some "int"
  | .list => some "list"
  | .tuple => some "tuple"
  | .all => some "all"
  | .any => some "any"
  | .sum => some "sum"
  | .repr => some "repr"
  | .dict => some "dict"
  | .dictP => some "dict"
  | .abs => some "abs"
  | _ => none
/-- methods without an argument -/
def m1n : B1 → Option Str
  | .bits => some "bit_length"
  | .upper => some "upper"
  | _ => none
/-- classes by name -/
def tysOk (p : Pl) : List String → List Expr → Bool
  | [], [] => true
  | t :: ts, .Name x _ :: es => tyOk t x && glOk p x && tysOk p ts es
  | _, _ => false
def chkTy (p : Pl) (ts : List String) : Expr → Bool
  | .Name x q => tysOk p ts [.Name x q]
  | .Tuple es _ _ => decide (ts.length ≤ 1000) && tysOk p ts es
  | _ => false
section
variable (GmU : Env2)
def gOk (p : Pl) (j : Nat) (x : Str) : Bool := (match GmU.GT[j]? with
  | some q => decide (q.1 = x)
  | none => false) && glOk p x
mutual
def chkE (p : Pl) : E → Expr → Bool
  | .bot, ex => !compE ex
  | .v i, .Name x _ => nmOk p i x
  | .bor i, .Name x _ => nmOk p i x
  | .k d, .Constant c _ _ => kOk d c
  | .g j, .Name x _ => gOk GmU p j x
  | .bin o a b, .BinOp x op y _ => decide (op = binOp o) && chkE p a x && chkE p b y
  | .cmp o a b, .Compare x [op] [y] _ => decide (op = cmpOp o) && !behindInMarks op y && chkE p a x && chkE p b y
  | .isN neg a, .Compare x [op] [.Constant .none _ _] _ => decide (op = if neg then .IsNot else .Is) && nb a && chkE p a x
  | .chain o1 o2 a b c, .Compare x [p1, p2] [y, z] _ => decide (p1 = cmpOp o1) && decide (p2 = cmpOp o2) && !behindInMarks p2 z && nb a && nb b && nb c && chkE p a x && chkE p b y && chkE p c z
  | .andL es, .BoolOp .And xs _ => chkBs p es xs
  | .orL es, .BoolOp .Or xs _ => chkBs p es xs
  | .not a, .UnaryOp .Not x _ => chkE p a x
  | .ite c a b, .IfExp t x y _ => nb a && nb b && chkE p c t && chkE p a x && chkE p b y
  | .tup es, .Tuple xs _ _ => es.all nb && decide (es.length ≤ 1000) && chkEs p es xs
  | .lst es, .List xs _ => es.all nb && decide (es.length ≤ 1000) && chkEs p es xs
  | .dct es, .Dict ks vs _ => (es.isEmpty && ks.isEmpty && vs.isEmpty) || (decide (ks.length ≤ 15) && !ks.isEmpty && es.all nb && chkDs p es ks vs)
  | .isX i x cs, .Call (.Name n _) [.Name y _, .Name z _] [] _ => bnOk p n "isinstance" && nmOk p i y && decide (z = x) && glOk p z && GmU.XC x && cs.all GmU.XC
  | .isNX neg i, .Compare (.Name y _) [op] [.Constant .none _ _] _ => decide (op = if neg then .IsNot else .Is) && nmOk p i y
  | .valX i cs, .Attribute (.Name y _) m _ => decide (m = "value") && nmOk p i y && cs.all GmU.XC
  | .callN g es, .Call (.Name x _) xs [] _ => !xs.isEmpty && decide (x = GmU.fnm g) && GmU.KnN g && glOk p x && es.all nb && chkEs p es xs
  | .callT f g es, .Call (.Name x _) [.Call (.Name y _) xs [] _] [] _ => decide (x = GmU.fnm f) && GmU.Kn f && decide (GmU.RF f = some 0) && glOk p x && decide (y = GmU.fnm g) && GmU.KnN g && glOk p y && !xs.isEmpty && es.all nb && chkEs p es xs
  | .sub a i, .Subscript x ix _ => notSl ix && chkE p a x && chkE p i ix
  | .sl a lo hi, .Subscript x (.Slice l h none _) _ => chkE p a x && chkO p lo l && chkO p hi h
  | .rev a, .Subscript x (.Slice none none (some (.UnaryOp .USub (.Constant (.int 1) _ _) _)) _) _ => nb a && chkE p a x
  | .call f es, .Call (.Name x _) xs [] _ => !xs.isEmpty && decide (x = GmU.fnm f) && GmU.Kn f && glOk p x && chkEs p es xs
  | .callK f ks es, .Call (.Name x _) [] kws _ => decide (x = GmU.fnm f) && glOk p x && es.all nb && (GmU.KK f ks).isSome && decide (GmU.KK f ks = kwNames kws) && chkKs p es kws
  | .b1 f a, .UnaryOp .USub x _ => isNeg f && chkE p a x
  | .b1 f a, .Call (.Name y _) [x] [] _ => (decide (b1n f = some y) && glOk p y && notStar x && chkE p a x) || (isItemsL f && bnOk p y "list" && (match x with
    | .Call (.Attribute o m apos) [] [] cpos => decide (m = "items") && notCallE o && (apos.endLine == cpos.line) && chkE p a o
    | _ => false))
  | .b1 f a, .Call (.Attribute x m apos) [] [] cpos => decide (m1n f = some m) && notCallE x && (apos.endLine == cpos.line) && chkE p a x
  | .isa ts a, .Call (.Name n _) [x, ty] [] _ => bnOk p n "isinstance" && notStar x && nb a && chkTy p ts ty && chkE p a x
  | .b2 f a b, .Call (.Name n _) [x, y] [] _ => decide (b2n f = some n) && glOk p n && notStar x && notStar y && chkE p a x && chkE p b y
  | .popA i a, .Call (.Attribute (.Name x _) m apos) [y] [] cpos => decide (m = "pop") && (apos.endLine == cpos.line) && nmOk p i x && notStar y && nb a && chkE p a y
  | .lc own tg it test elt, .ListComp el [⟨te, iter, ifs, k⟩] scope _ => decide (k = 0) && blkC p.N p.sc scope (ownP p own) && decide ((ownP p own).map (·.2) = own) && tg.ix.all (fun i => decide (i ∈ own)) && notSetE iter && nb elt && chkI p te it iter &&
      tgOk (inner p scope) tg te && chkQ (inner p scope) test ifs && chkE (inner p scope) elt el
  | _, _ => false
def chkEs (p : Pl) : List E → List Expr → Bool
  | [], [] => true
  | e :: es, x :: xs => notStar x && chkE p e x && chkEs p es xs
  | _, _ => false
def chkDs (p : Pl) : List E → List (Option Expr) → List Expr → Bool
  | [], [], [] => true
  | k :: v :: es, some x :: ks, y :: vs => chkE p k x && chkE p v y && chkDs p es ks vs
  | _, _, _ => false
def chkKs (p : Pl) : List E → List Keyword → Bool
  | [], [] => true
  | e :: es, ⟨_, v, _⟩ :: r => chkE p e v && chkKs p es r
  | _, _ => false
def chkBs (p : Pl) : List E → List Expr → Bool
  | [e], [x] => nb e && chkE p e x
  | e :: es, x :: y :: xs => nb e && chkE p e x && chkBs p es (y :: xs)
  | _, _ => false
def chkO (p : Pl) : Option E → Option Expr → Bool
  | none, none => true
  | some e, some x => nb e && chkE p e x
  | _, _ => false
def chkQ (p : Pl) : Option E → List Expr → Bool
  | none, [] => true
  | some e, [x] => chkE p e x
  | _, _ => false
def chkI (p : Pl) (te : Expr) : It → Expr → Bool
  | .e a, x => nb a && chkE p a x
  | .range1 a, .Call (.Name n _) [x] [] _ => bnOk p n "range" && notStar x && nb a && chkE p a x
  | .range2 a b, .Call (.Name n _) [x, y] [] _ => bnOk p n "range" && notStar x && notStar y && nb a && nb b && chkE p a x && chkE p b y
  | .enum a, .Call (.Name n _) [x] [] _ => bnOk p n "enumerate" && notStar x && nb a && chkE p a x && (match te with | .Tuple _ _ _ => true | _ => false)
  | .zip2 a b, .Call (.Name n _) [x, y] [] _ => bnOk p n "zip" && notStar x && notStar y && nb a && nb b && chkE p a x && chkE p b y && (match te with | .Tuple _ _ _ => true | _ => false)
  | .zip3 a b c, .Call (.Name n _) [x, y, z] [] _ => bnOk p n "zip" && notStar x && notStar y && notStar z && nb a && nb b && nb c && chkE p a x && chkE p b y && chkE p c z && (match te with | .Tuple _ _ _ => true | _ => false)
  | .rev a, .Call (.Name n _) [x] [] _ => bnOk p n "reversed" && notStar x && nb a && chkE p a x
  | .items a, .Call (.Attribute x m apos) [] [] cpos => decide (m = "items") && notCallE x && (apos.endLine == cpos.line) && nb a && chkE p a x && (match te with | .Tuple _ _ _ => true | _ => false)
  | _, _ => false
end
end
end DL
set_option Elab.async false
set_option linter.all false
set_option maxRecDepth 100000
set_option maxHeartbeats 4000000
/-! DL, part ra: an own error is made and raised: its __init__ says super().__init__(value), then self.value = value. -/
namespace DL
open PySem PySem.W PySem.Calls PyProof.Rows PySem.HandSPX
def oA (p1 p2 : Pos) : Arguments := { posonlyargs := [], args := [{ arg := "self", annotation := none, pos := p1 }, { arg := "value", annotation := none, pos := p2 }], vararg := none, kwonlyargs := [], kw_defaults := [], kwarg := none, defaults := [] }
def oB (q1 q2 q3 q4 q5 q6 q7 q8 q9 q0 : Pos) : List Stmt :=
  [.Expr (.Call (.Attribute (.Call (.Name "super" q1) [] [] q2) "__init__" q3) [.Name "value" q4] [] q5) q6, .Assign [.Attribute (.Name "self" q7) "value" q8] (.Name "value" q9) q0]
def oS : Scope := { kind := .function, names := [(PySem.Str.ofString "self", .local), (PySem.Str.ofString "value", .local), (PySem.Str.ofString "__class__", .free), (PySem.Str.ofString "super", .globalImplicit)], isGenerator := false, isCoroutine := false, more := [] }
/-- the base class at D, its __init__ at fI -/
structure OffD (P : Program) (K : Frag) (mg : Str → Option Value) (D fI : Addr) : Prop where
  fn : ∃ (oc : Value) (od : Option Addr) (doc pm : Value) (an : Option Addr) (cda cc : Addr) (ct : Value) (osl : Array (Option Value)) (p1 p2 q1 q2 q3 q4 q5 q6 q7 q8 q9 q0 : Pos), (q3.endLine == q5.line) = true ∧
    K.lookup fI = some ⟨oc, od, .func (ksFn "__init__" "OfficeError.__init__" (oA p1 p2) (oB q1 q2 q3 q4 q5 q6 q7 q8 q9 q0) oS .none .none doc pm an (.ref cda) ct cc), osl⟩ ∧ codeIn K (.ref cda) "OfficeError.__init__" = true ∧
    (∃ (ccl : Value) (cdd : Option Addr) (vs : Array Value) (ccs : Array (Option Value)) (file : Str) (tf : Tok), K.lookup cda = some ⟨ccl, cdd, .fields vs, ccs⟩ ∧ vs[2]? = some (.str file tf) ∧ ((P.main.file : Str) == file) = true) ∧
    ∃ (cl : Value) (cld : Option Addr) (csl : Array (Option Value)), K.lookup cc = some ⟨cl, cld, .cell (some (.ref D)), csl⟩
  hD : ∃ cd, clsIn K D = some cd
  sup : mg "super" = none
  top : (P.main.scope.names.lookup ("super" : Str)).isSome = false
  any : nsIn K cStatics "thirdparty.any" = some none
/-- a class under it, at C -/
structure OffC (K : Frag) (mg : Str → Option Value) (D fI : Addr) (x : Str) (C : Addr) : Prop where
  gC : mg x = some (.ref C)
  cls : ∃ nm q N bs bm sn sub ab col dd k0 k1 k2 k3 k5, K.lookup C = some (excClassObj nm q C N bs bm true sn sub ab col dd k0 k1 k2 k3 k5 "ValueError.__new__") ∧ refsVE bm = true ∧ alongIn K "__init__" (((Value.ref C :: bm).dropWhile (· != .ref D)).drop 1) = some (some (.builtin "ValueError.__init__"))
  sa : findIn K (.ref C) "__setattr__" = some (some (.builtin "object.__setattr__"))
  ga : findIn K (.ref C) "__getattribute__" = some (some (.builtin "BaseException.__getattribute__"))
  gg : findIn K (.ref C) "__getattr__" = some none
  noN : findIn K (.ref C) "value" = some none
  iC : findIn K (.ref C) "__init__" = some (some (.ref fI))
  tC : typeIn K (.ref fI) = some (.type "function")
  kC : keepIn K (.ref C) = true
  exC : subIn K (.ref C) (.type "BaseException") = some true
  vE : subIn K (.ref C) (.type "ValueError") = some true
  tyC : typeIn K (.ref C) = some (.type "type")
  hdC : hasDictIn K C = true
  sub : mroIn K C (.ref D) = some true
  dbg : (x == ("__debug__" : Str)) = false
theorem one_szD (v : Value) : [v].length ≤ sizeLine := by
  rw [sizeLine_eq]
  exact (by decide : 1 ≤ 16777216)
theorem boot_super : bootBuiltins "super" = some (.type "super") := by first | decide +kernel | kernel_rfl | rfl
structure InitEndD (h h' : Heap) (x C dx t1 : Addr) (v : Value) : Prop where
  keep : ∀ b o, b ≠ x → h.get? b = some o → h'.get? b = some o
  obj : h'.get? x = some { cls := .ref C, dict := some dx, data := .fields #[.ref t1, .none, .none, .none, .bool false, .none] }
  dbig : h.objs.size ≤ dx
  dne : dx ≠ x
  ns : h'.Ns1 dx (fun y => if y = "value" then some v else none)
structure OwnMadeD (h h' : Heap) (e C d : Addr) (v : Value) : Prop where
  keep : ∀ b o, h.get? b = some o → h'.get? b = some o
  new : h.objs.size ≤ e
  obj : ∃ oe vs, h'.get? e = some oe ∧ oe.cls = .ref C ∧ oe.dict = some d ∧ oe.data = .fields vs ∧ vs[1]? = some .none
  dbig : h.objs.size ≤ d
  dne : d ≠ e
  ns : h'.Ns1 d (fun y => if y = "value" then some v else none)
section
variable {prog : Program} {w : World} {A : Around} {E : Value → Shared → Prop} {R : Result → Shared → Prop} {s : Shared} {K : Frag} {mg : Str → Option Value} {base : Heap} {D C fI : Addr} {x0 : Str}
theorem ldK {M : Model} {s : Shared} {env : Env} {m : Str → Option Value} {x : Str} {pos : Pos} {v : Value} {Q : Value → Shared → Prop} {A : Around} {E : Value → Shared → Prop} (hn : s.heap.Ns env.locals m) (hv : m x = some v) (h : Q v s)
    (hk : env.scope.kind = .function := by rfl) (hl : env.kindOf x = some .local := by rfl) (hd : (x == ("__debug__" : Str)) = false := by decide) :
    wpAny M A (eval (.Name x pos) env) Q E s := wpAny_Name (wpAny_loadName_local hk hl hn hv h) hd
theorem at_MethodCall {c : Code} {env : Env} {o : Expr} {name : Str} {apos pos : Pos} {args : List Expr} {Q : Value → Shared → Prop} {M : Model} {s : Shared} (hline : (apos.endLine == pos.line) = true)
    (hfew : ((backTo pos (starEach args env)).all (fun x => !x.1) && (backToKw pos (keywordEach [] env)).all (fun x => x.1.isSome) && decide (args.length + ([] : List Keyword).length + (if ([] : List Keyword).isEmpty then 0 else 1) < 30)) = true)
    (h : _root_.PySem.wpAt M A c (attributeBase o name env (eval o env)) (fun ov s₁ => ∀ pl, wpAny M A (getMethod ov name pl) (fun fx s₂ => wpAny M A (callWith pos fx.1 fx.2 (backTo pos (starEach args env)) []) Q E s₂) E s₁) E s) :
    _root_.PySem.wpAt M A c (eval (.Call (.Attribute o name apos) args [] pos) env) Q E s := by
  rw [arm_eval_Call]
  refine _root_.PySem.wpAt_bind (ks_wpAt_mono h (fun ov s₁ h₁ => _root_.PySem.wpAt_of_wpAny (wpAny_bind (wpAny_standAt ?_))) fun _ _ x => x)
  have hform : methodCallForm (args.length + ([] : List Keyword).length) (backTo pos (starEach args env)) (backToKw pos (keywordEach [] env)) = true := hfew
  unfold methodCall calleeOf methodCallPos
  simp only [hform, hline, if_true, Bool.not_true, Bool.or_true]
  refine wpAny_bind (wpAny_holding (wpAny_mono (h₁ _) (fun fx s₂ h₂ => ?_) fun _ _ x => x))
  exact wpAny_bind (wpAny_pure h₂)
/-- the bound built-in is called: the args are laid anew -/
theorem mw_call {nm q : Str} {N u x t0 : Addr} {bs bm : List Value} {hdct : Bool} {sn : List Str} {sub : List Value} {ab : Bool} {col : Option Bool} {dd : Option Addr} {k0 k1 k2 k3 k5 : Option Value} {h : Heap} {g : Array GenState} {d : Drawn} {t : Nat} {os : OsState} {rest : List Value} {Q : Value → Shared → Prop}
    (hC : h.get? C = some (excClassObj nm q C N bs bm hdct sn sub ab col dd k0 k1 k2 k3 k5 "ValueError.__new__")) (hx : h.get? x = some (excO C t0)) (hu : h.get? u = some (kxs_mw "ValueError.__init__" x)) (hz : rest.length ≤ sizeLine)
    (hq : ∀ h' t1, (∀ b o, b ≠ x → h.get? b = some o → h'.get? b = some o) → h'.get? x = some (excO C t1) → Q .none ⟨h', g, d, t, os⟩) :
    wpAny (model prog w) A (call (.ref u) rest) Q E ⟨h, g, d, t, os⟩ := by
  have FB := F.excBase_ValueError
  refine wpAny_call (codeAny_of_tree ?_)
  show wpAny _ A.in1 (callAny (.ref u) ⟨rest, []⟩) _ _ _
  simp only [callAny]
  refine wpAny_bind (wpAny_load hu ?_)
  simp only [kxs_mw, show (Value.type "method-wrapper" == Value.type "method" || Value.type "method-wrapper" == Value.type "builtin_function_or_method" || Value.type "method-wrapper" == Value.type "method-wrapper") = true by decide, if_true]
  refine KFB.if_so (by decide) ?_
  refine wpAny_bind (check_bound_init FB.toExcCallFacts hC hx rfl ?_)
  refine wpAny_bind (wpAny_pure (wpAny_pure ?_))
  refine ⟨plainId_quiet FB.init.plain _, codeAny_builtin FB.initEntry ?_⟩
  rw [Around.under_plainId FB.init.plain _]
  exact exc_init_tree (cls := .ref C) (t0 := t0) (dv := none) (c2 := .none) (c3 := .none) (b4 := .bool false) hx hz fun h' k e _ => hq h' _ k e
theorem off_init (O : OffD prog K mg D fI) (T : OffC K mg D fI x0 C) (M : L2.Mod K mg base) {x t0 : Addr} {v : Value} (bk : ∀ b o, base.get? b = some o → s.heap.get? b = some o) (hlim : s.heap.NoLimit) (hx : s.heap.get? x = some (excO C t0)) (hnx : base.get? x = none) (hroom : A.depth < recursionLimit)
    (hq : ∀ h' tk dx t1, InitEndD s.heap h' x C dx t1 v → R (.ok (.ret .none)) { s with heap := h', toks := tk }) :
    codeAny (model prog w) A (.call (.ref fI) ⟨[.ref x, v], []⟩) R s := by
  obtain ⟨oc, od, doc, pm, an, cda, cc, ct, osl, p1, p2, q1, q2, q3, q4, q5, q6, q7, q8, q9, q0, hline, ho, hcd, ⟨ccl, cdd, vs, ccs, file, tf, hcode, hvs, hfile⟩, ⟨cl, cld, csl, hcell⟩⟩ := O.fn
  obtain ⟨cdD, hcD⟩ := O.hD
  obtain ⟨nm, q, N, bs, bm, sn, sub, ab, col, dd, k0, k1, k2, k3, k5, hC, hbm, hal⟩ := T.cls
  have X : K.In s.heap := M.kin.keeps bk
  have hcl : clsIn K C = some { name := nm, bases := bs, mro := .ref C :: bm, ns := N, qualname := q, hasDict := true, slotNames := sn, subclasses := sub, abstract := ab, collection := col, hasDel := false } := by unfold clsIn; rw [hC] <;> rfl
  refine ks_codeAny_call_defAt (binds := [("self", .ref x), ("value", v)]) hroom (X _ _ ho) rfl hlim (codeRec_of X hcd) rfl (BindsTo.of_eq (by first | rfl | with_unfolding_all rfl)) (show ∀ x ∈ oS.names, x.2 ≠ .cell by decide) (fun y hy => by simp only [List.mem_cons, List.not_mem_nil, or_false] at hy; rcases hy with rfl | rfl <;> rfl) (fun h₁ hn k => ?_)
  have bk1 : ∀ b o, base.get? b = some o → h₁.get? b = some o := fun b o e => k b o (bk b o e)
  have X1 : K.In h₁ := M.kin.keeps bk1
  have hx1 := k _ _ hx
  have hlt : s.heap.objs.size < h₁.objs.size := hn.lt
  have hxL : s.heap.objs.size ≠ x := Nat.ne_of_gt (Heap.lt_size hx)
  obtain ⟨oD, hD1, hD2⟩ : ∃ oD, h₁.get? D = some oD ∧ oD.data = .cls cdD := by
    unfold clsIn at hcD
    split at hcD
    · rename_i c d cd' sl hoD
      cases hcD
      exact ⟨_, X1 _ _ hoD, rfl⟩
    · cases hcD
  obtain ⟨gl, sg, dr, tk, os⟩ := s
  -- super().__init__(value)
  refine ks_wpAt_execs_cons (ks_wpAt_Expr_any (at_MethodCall hline (by rfl) ?_) (by first | rfl | with_unfolding_all rfl) (by first | rfl | with_unfolding_all rfl))
  refine ks_wpAt_super_base (by rfl) (by rfl) (by decide) rfl (X1 _ _ ho) rfl rfl rfl (X1 _ _ hcode) rfl hvs hfile O.top ?_
  obtain ⟨mb, hb1, hb2⟩ := M.blt
  refine ks_loadName_global rfl (by rfl) (loadGlobal_builtin (M.glob.keeps bk1) O.sup (hb1.keeps bk1) ((hb2 "super" (by decide)).trans boot_super) ⟨rfl, ?_⟩)
  refine wpAny_loadName_free rfl (by rfl) rfl ⟨_, X1 _ _ hcell, rfl⟩ ?_
  refine wpAny_loadName_local rfl (by rfl) hn (by rfl) ?_
  refine ks_wpAny_isType_cls hD1 hD2 ⟨rfl, ?_⟩
  refine ks_wpAny_call_super hD1 hD2 hx1 rfl (fun c e => by cases e) (looks_mroIn X1 T.sub) (fun h2 hso k2 => ?_)
  have bk2 : ∀ b o, base.get? b = some o → h2.get? b = some o := fun b o e => k2 b o (bk1 b o e)
  have X2 : K.In h2 := M.kin.keeps bk2
  have hx2 := k2 _ _ hx1
  have I2 : InstAt h2 x (excO C t0) C none := ⟨hx2, rfl, rfl, trivial⟩
  intro pl
  refine kxs_getMethod kxs_ValueError hso (looks_opaque X2 O.any) (l₀ := .ref C :: bm) (fun A Q E s k q => wpAny_bind ((looks_clsIn X2 hcl) A _ E s k (wpAny_pure q))) rfl X2 hal (I2.type.andThen (looks_subIn X2 T.vE)) (ks_ne X2 I2 hcl) (by decide) ?_
  have k3 : ∀ b o, h2.get? b = some o → (h2.push (kxs_mw "ValueError.__init__" x)).get? b = some o := fun b o e => Heap.get?_push_of_some _ e
  have hu : (h2.push (kxs_mw "ValueError.__init__" x)).get? h2.objs.size = some (kxs_mw "ValueError.__init__" x) := Heap.get?_push_at rfl rfl
  show wpAny _ _ (callWith _ (.ref h2.objs.size) [] (backTo _ (starEach [.Name "value" q4] _)) []) _ _ _
  refine kxs_callWith (i := "ValueError.__init__") (x := x) (by first | rfl | with_unfolding_all rfl) (evalArgs_plain (Calls.spliced_cons ?_))
  refine ldK (v := v) (hn.keeps fun b o e => k3 b o (k2 b o e)) (by rfl) (Calls.spliced_nil ⟨hu, ?_⟩)
  refine mw_call (X1.keeps (fun b o e => k3 b o (k2 b o e)) _ _ hC) (k3 _ _ hx2) hu (one_szD v) fun h4 t1 k4 hx4 => ?_
  have kk : ∀ b o, b ≠ x → h₁.get? b = some o → h4.get? b = some o := fun b o hb e => k4 b o hb (k3 b o (k2 b o e))
  have bk4 : ∀ b o, base.get? b = some o → h4.get? b = some o := fun b o e => kk b o (fun z => by rw [z, hnx] at e; cases e) (bk1 b o e)
  have X4 : K.In h4 := M.kin.keeps bk4
  have hn4 : h4.Ns gl.objs.size (fun y => ([("self", .ref x), ("value", v)] : List (Str × Value)).reverse.lookup y) := by
    obtain ⟨oL, es, ep, hL, r⟩ := hn
    exact ⟨oL, es, ep, kk _ _ hxL hL, r⟩
  -- self.value = value
  refine _root_.PySem.wpAt_of_wpAny (wpAny_execs_cons (plainObj_wpAny_Assign_Attribute ?_ (by first | rfl | with_unfolding_all rfl)))
  refine ldK (v := v) hn4 (by rfl) (ldK (v := .ref x) hn4 (by rfl) ?_)
  refine set_plain X4 (ox := excO C t1) (od := none) ⟨hx4, rfl, rfl, trivial⟩ T.sa ?_
  refine PySem.HandSPX.exc_osa X4 hx4 hcl (show refsVE (.ref C :: bm) = true from hbm) rfl T.noN (fun h₃ tk₃ dx k₃ dn dne hx₃ hn₃ => ?_)
  show wpAny _ _ (PySem.execs _ _) _ _ _
  exact wpAny_execs_nil (hq h₃ tk₃ dx t1 ⟨fun b o hb e => k₃ b o hb (kk b o hb (k b o e)), hx₃, Nat.le_trans (Nat.le_of_lt hn4.lt) dn, dne, hn₃⟩)
theorem off_made (O : OffD prog K mg D fI) (T : OffC K mg D fI x0 C) (M : L2.Mod K mg base) {v : Value} (bk : ∀ b o, base.get? b = some o → s.heap.get? b = some o) (hlim : s.heap.NoLimit) (hroom : A.depth + 1 < recursionLimit)
    (hq : ∀ h' tk e d, OwnMadeD s.heap h' e C d v → R (.ok (.ret (.ref e))) { s with heap := h', toks := tk }) :
    codeAny (model prog w) A (.call (.ref C) ⟨[v], []⟩) R s := by
  obtain ⟨nm, q, N, bs, bm, sn, sub, ab, col, dd, k0, k1, k2, k3, k5, hC, hbm, _⟩ := T.cls
  have X : K.In s.heap := M.kin.keeps bk
  obtain ⟨hp, g, dr, tk, os⟩ := s
  have k : ∀ b o, hp.get? b = some o → ((hp.push (kdv_tup [v])).push (excO C hp.objs.size)).get? b = some o := fun b o e => Heap.get?_push_of_some _ (Heap.get?_push_of_some _ e)
  have hget : ((hp.push (kdv_tup [v])).push (excO C hp.objs.size)).get? (hp.objs.size + 1) = some (excO C hp.objs.size) := by heap_get
  have hnx : base.get? (hp.objs.size + 1) = none := by
    cases e : base.get? (hp.objs.size + 1) with
    | none => rfl
    | some o =>
      have z : hp.get? (hp.objs.size + 1) = some o := bk _ _ e
      exact absurd (Nat.lt_of_succ_lt (Heap.lt_size z)) (Nat.lt_irrefl _)
  refine call_own F.excBase_ValueError (fun X => refsVE_contains X bm hbm) (X _ _ hC) (looks_findIn X T.iC) (fun self => bind_fn X self T.tC) (one_szD v) ?_
  refine off_init (s := ⟨(hp.push (kdv_tup [v])).push (excO C hp.objs.size), g, dr, tk, os⟩) O T M (fun b o e => k b o (bk b o e)) (hlim.keeps k) hget hnx ?_ fun h' tk' dx t1 ⟨k', hx, dn, dne, hns⟩ => ?_
  · show A.depth + 1 < recursionLimit
    exact hroom
  · have old : ∀ b o, hp.get? b = some o → h'.get? b = some o := fun b o e => k' b o (Nat.ne_of_lt (Nat.lt_succ_of_lt (Heap.lt_size e))) (k b o e)
    have z : hp.objs.size + 1 + 1 ≤ dx := by
      first
        | (simpa only [Heap.size_push] using dn)
        | exact dn
        | (have q := dn; rw [Heap.size_push, Heap.size_push] at q; exact q)
    exact ⟨rfl, hq h' tk' (hp.objs.size + 1) dx ⟨old, Nat.le_succ _, ⟨_, _, hx, rfl, rfl, rfl, rfl⟩, Nat.le_trans (Nat.le_trans (Nat.le_succ _) (Nat.le_succ _)) z, dne, hns⟩⟩
end
end DL
namespace DL
open PySem PySem.Spec PyProof.Rows L2
theorem relO_val {v : V} {v' : Value} (r : RelV v v') (f : Str) : RelO (List.lookup f [(("value" : Str), v)]) (if f = "value" then some v' else none) := by
  by_cases hw : f = "value"
  · subst hw
    rw [if_pos rfl]
    have q : List.lookup ("value" : Str) [(("value" : Str), v)] = some v := by simp [List.lookup]
    rw [q]
    exact r
  · rw [if_neg hw]
    have qw : (f == ("value" : Str)) = false := by simpa using hw
    have q2 : List.lookup f [(("value" : Str), v)] = none := by simp [List.lookup, qw]
    rw [q2]
    trivial
section
variable {X : Cx} {C D fI : Addr} {x : Str}
def tMkOff (C : Addr) (ta : TA) : L2.St → Hp → XK → Prop := fun σ H Q => ta σ H fun vs H1 => ∃ v, vs = [v] ∧ ∀ d, H1 d = none → Q (.ref C) (some d) (upd H1 d (.xd [(("value" : Str), v)]))
theorem pmk_off {a : Expr} {ta : TA} {p pos : Pos} {k : Nat} (O : OffD X.prog X.K X.mg D fI) (T : OffC X.K X.mg D fI x C) (hr : Room k X.A) (ha : PA X [a] ta) (hg : Gl X x) (ns : notStar a = true) :
    PMk X (.Call (.Name x p) [a] [] pos) (tMkOff C ta) := by
  intro pins s σ H Q I h
  refine wpAny_Call_Name_kw (ld_glob I hg T.gC ?_ T.dbg)
  refine PySem.W.callWith_K (h₀ := X.base) I.ok.mod.kin T.kC (thn (ha.run pos pins s σ H _ I h) fun us s1 hh => ?_) (starEach_cons ns [] X.env) rfl
  obtain ⟨vs, H1, I1, r1, v, ev, q1⟩ := hh
  subst ev
  refine ⟨I1.kIn, ?_⟩
  cases r1 with
  | cons rv rn =>
    rename_i v' us'
    cases rn
    show wpAny _ _ (call (.ref C) [v']) _ _ _
    have hlim := I1.nolimit
    obtain ⟨hp, g, dr, tk, os⟩ := s1
    refine wpAny_call (off_made O T I1.mod I1.bk hlim (by have := hr.dp; omega) fun h' tk' e d M => ?_)
    show MkP X pins σ Q (.ref e) ⟨h', g, dr, tk', os⟩
    obtain ⟨oe, fv, hoe, hc, hd, hdat, h1⟩ := M.obj
    have hns := M.ns
    obtain ⟨G', g1, g2⟩ := restrict h' fun b => decide (b ≠ e)
    have gk : ∀ b, b ≠ e → G'.get? b = h'.get? b := fun b hb => g1 b (decide_eq_true hb)
    have ge : G'.get? e = none := g2 e (by simp)
    have old : ∀ b o, hp.get? b = some o → G'.get? b = some o := fun b o q => (gk b (Nat.ne_of_lt (Nat.lt_of_lt_of_le (Heap.lt_size q) M.new))).trans (M.keep b o q)
    have ob : ObjOk X.prog X.w (upd H1 d (.xd [(("value" : Str), v)])) G' d (.xd [(("value" : Str), v)]) :=
      ⟨_, hns.at (fun o q => (gk d M.dne).trans q), fun f => relO_val rv f⟩
    have J : Inv X pins σ (upd H1 d (.xd [(("value" : Str), v)])) ⟨G', g, dr, tk', os⟩ := I1.laid (t' := tk') old M.dbig ob
    refine ⟨e, oe, fv, ⟨G', g, dr, tk', os⟩, _, .ref C, some d, rfl, J, fun b o q => ?_, ge, hoe, ⟨hc, hd⟩, hdat, h1, ?_, rfl, I1.bare, raises_own T.exC T.tyC, q1 d (I1.hok.fresh M.dbig)⟩
    · by_cases hb : b = e
      · have q' : G'.get? b = some o := q
        rw [hb, ge] at q'; cases q'
      · exact (gk b hb).symm.trans q
    · rw [upd_ne (Ne.symm M.dne)]
      exact I1.hok.fresh M.new
end
end DL
set_option Elab.async false
set_option linter.all false
set_option maxRecDepth 100000
set_option maxHeartbeats 4000000
/-! DL, part rb: a caught own error held by a name. -/
namespace PySem.W
open PySem PySem.Spec PySem.Calls PyProof.Rows
section
variable {prog : Program} {w : World} {A : Around} {E : Value → Shared → Prop} {s : Shared} {K : Frag} {x D : Addr} {ox od : Obj}
theorem dl_kin_class {Q : Option Value → Shared → Prop} (C : L2.ExcC K D) (X : K.In s.heap) (I : InstAt s.heap x ox D (some od)) (h : Q (some (.ref D)) { s with toks := s.toks + 1 }) : wpAny (model prog w) A (getAttr? (.ref x) "__class__") Q E s := by
  have hf : findObj K D (some od) "__class__" = some (.bind (.builtin "getset_descriptor.__get__") (.builtin "object.__class__")) := findObj_data (by obtain ⟨cd, hc, _⟩ := any_some C.hd; rw [hc]; rfl) C.ha C.hn C.ht
  obtain ⟨hp, g, d, t, os⟩ := s
  have L0 := I.type (M := model prog w)
  have L1 := looks_findIn (M := model prog w) X C.hg
  have L2 := looks_findIn (M := model prog w) X C.hk
  have L3 := looks_find (M := model prog w) X I hf
  have sub : Looks (model prog w) hp (isInstance (.ref x) (.type "BaseException")) true := L0.andThen (looks_subIn X C.hs)
  have hx0 : (false && onTheHeap (Value.builtin "BaseException.__getattribute__")) = false := rfl
  have hx2 : (Value.builtin "BaseException.__getattribute__" == Value.builtin "object.__getattribute__") = false := by decide +kernel
  have hx1 : (onTheHeap (Value.ref D) && Value.builtin "BaseException.__getattribute__" == Value.builtin "object.__getattribute__") = false := by rw [hx2]; rfl
  unfold getAttr? getAttrBy? getAttrBy
  refine wpAny_bind (wpAny_mkText (wpAny_bind (wpAny_attempt (wpAny_holding (wpAny_bind (L0.at (wpAny_bind (L1.at ?_))))))))
  show wpAny _ _ (if (onTheHeap (Value.ref D) && Value.builtin "BaseException.__getattribute__" == Value.builtin "object.__getattribute__") = true then _ else _) _ _ _
  rw [hx1, if_neg Bool.false_ne_true]
  unfold getAttrByItsOwn hookBefore
  refine wpAny_bind ?_
  rw [if_pos (show onTheHeap (Value.ref D) = true from rfl)]
  refine L2.at ?_
  refine wpAny_bind (wpAny_attempt (wpAny_holding ?_))
  unfold callGetattribute
  rw [hx0, if_neg Bool.false_ne_true]
  unfold boundAndCalled
  rw [PySem.F.excAttr_ValueError.ga.bind (.ref x)]
  refine wpAny_bind (wpAny_pure ?_)
  show wpAny _ _ (call (.builtin "BaseException.__getattribute__") [.ref x, .str "__class__" t]) _ _ _
  refine wpAny_call (codeAny_call_builtin PySem.F.excAttr_ValueError.ga.plain PySem.F.entry_bexc_ga ?_)
  refine @check_slot (model prog w) _ _ ⟨hp, g, d, t + 1, os⟩ "BaseException.__getattribute__" "BaseException" "__getattribute__" (.ref x) [.str "__class__" t] [] _ (by decide +kernel) (by decide +kernel) sub (PySem.F.args_bexc_ga (.ref x) (.str "__class__" t)) ?_
  unfold Builtin.«object.__getattribute__»
  refine wpAny_bind (wpAny_of_eq (a := ((Value.ref x : Value), [Value.str "__class__" t])) (by first | rfl | (simp only [slotArgs]; rfl)) ?_)
  refine wpAny_bind (wpAny_pure (wpAny_bind (L0.at (wpAny_bind (L3.at ?_)))))
  show wpAny _ _ (holding [Value.builtin "object.__class__"] (call (.builtin "getset_descriptor.__get__") [.builtin "object.__class__", .ref x, .ref D]) >>= ret) _ _ _
  refine wpAny_bind (wpAny_holding (wpAny_call (class_get (s := ⟨hp, g, d, t + 1, os⟩) (ox := ox) (od := some od) X I C.hm ?_)))
  refine wpAny_pure ?_
  show wpAny _ _ (handedOut (.ref D)) _ _ _
  rw [handedOut_of (v := .ref D) rfl]
  first
    | exact wpAny_pure (wpAny_pure h)
    | exact wpAny_pure h
    | exact wpAny_pure (wpAny_bind (wpAny_pure (wpAny_pure h)))
theorem dl_kitx (C : L2.ExcC K D) : KitX K (.ref x) (.ref D) (fun h => InstAt h x ox D (some od)) where
  ty := fun _ _ _ I => I.type
  it := fun _ _ X _ => by
    obtain ⟨cdD, hcD, _⟩ := any_some C.hd
    unfold clsIn at hcD
    split at hcD
    · rename_i c' d' cd' sl' ho
      intro A' Q' E' s' k q
      unfold isType loadHead
      exact wpAny_bind (wpAny_loadPart (k _ _ (X _ _ ho)) (wpAny_pure q))
    · cases hcD
  ne := fun h tp dd its n sl X htp => by
    obtain ⟨cdD, hcD, _⟩ := any_some C.hd
    refine Bool.eq_false_iff.mpr fun q => ?_
    have e : D = tp := Value.ref.inj (beq_iff_eq.mp q)
    subst e
    unfold clsIn at hcD
    split at hcD
    · rename_i c' d' cd' sl' ho
      have z := (X _ _ ho).symm.trans htp
      cases z
    · cases hcD
  ca := fun X I k => dl_kin_class C X I k
end
end PySem.W
namespace DL
open PySem PySem.Spec PyProof.Rows L2
section
variable {X : Cx} {pins : List (Addr × Obj)} {σ : L2.St} {H : Hp} {s : Shared}
/-- an error object with its dict, as the library's rules take it -/
theorem exD_inst (I : Inv X pins σ H s) {a C dx : Addr} {v : V} (ha : H a = some (ExD C dx a)) (hd : H dx = some (.xd [(("value" : Str), v)])) :
    ∃ oe od, PySem.W.InstAt s.heap a oe C (some od) ∧ ∃ u, RelV v u ∧ PySem.W.lookIn "value" od = some (some u) := by
  obtain ⟨⟨oe, vs, h1, h2, h3⟩, _⟩ := I.hok a _ ha
  obtain ⟨mA, hns, hr⟩ := (show ObjOk X.prog X.w H s.heap dx (.xd [(("value" : Str), v)]) from I.hok dx _ hd)
  obtain ⟨od, ho, hl⟩ := lookIn_ns hns
  have l : List.lookup ("value" : Str) [(("value" : Str), v)] = some v := by simp [List.lookup]
  obtain ⟨u, hu, ru⟩ := RelO.some_of (v := v) (o := mA "value") (by rw [← l]; exact hr "value")
  exact ⟨oe, od, ⟨h1, h2.1, by unfold PySem.W.notCls; rw [h3] <;> rfl, by rw [h2.2]; exact ho⟩, u, ru, by rw [hl, hu]⟩
end
section
variable {X : Cx} {C D fI : Addr} {x : Str}
/-- e.value, e a held error -/
def tVal (C : Addr) (te : TE) : TE := fun σ H Q => te σ H fun y H1 => ∃ (a dx : Addr) (v : V), y = .ref a ∧ H1 a = some (ExD C dx a) ∧ H1 dx = some (.xd [(("value" : Str), v)]) ∧ Q v H1
theorem pe_value {e : Expr} {te : TE} {pos : Pos} (T : OffC X.K X.mg D fI x C) (he : PE X e te) (hb : attributeBase e "value" X.env (eval e X.env) = eval e X.env) : PE X (.Attribute e "value" pos) (tVal C te) := by
  refine ⟨fun pins s σ H Q I h => ?_⟩
  refine attr_of hb (thn (he.run pins s σ H _ I h) fun u s1 hh => ?_)
  obtain ⟨y, H1, I1, rx, a, dx, v, ey, ea, ed, q⟩ := hh
  subst ey
  obtain rfl : u = Value.ref a := rx
  obtain ⟨oe, od, J, u', ru, hl⟩ := exD_inst I1 ea ed
  exact HandSPX.exc_get I1.kIn J T.ga T.gg T.exC (PySem.W.findObj_own T.hdC T.noN rfl hl) (handed_of ru) ⟨v, H1, I1.tok _, ru, q⟩
/-- isinstance(e, c), e a held error, c a class of the text's own -/
def rIsD (K : PySem.W.Frag) : List V → Hp → VK → Prop := fun xs H Q => ∃ (a C dx C2 : Addr) (v : V) (b : Bool), xs = [.ref a, .ref C2] ∧ ExcC K C ∧ H a = some (ExD C dx a) ∧ H dx = some (.xd [(("value" : Str), v)]) ∧ PySem.W.kitOne K (.ref C) (.ref C2) = some b ∧ Q (.bl b) H
theorem call_isD : CallR X (.builtin "isinstance") (rIsD X.K) := by
  intro pins s σ H xs us Q I r h
  obtain ⟨a, C, dx, C2, v, b, rfl, EC, ea, ed, e, q⟩ := h
  obtain ⟨u1, u2, rfl, r1, r2⟩ := vals2 r
  cases (show u1 = Value.ref a from r1)
  cases (show u2 = Value.ref C2 from r2)
  obtain ⟨oe, od, J, _⟩ := exD_inst I ea ed
  exact PySem.W.kia_one (PySem.W.dl_kitx EC) I.kIn J e (fun z => nomatch z) fun tk => ⟨.bl b, H, I.kept (t' := tk) fun _ _ z => z, rfl, q⟩
/-- isinstance(None, c) -/
def rIsN0 (K : PySem.W.Frag) : List V → Hp → VK → Prop := fun xs H Q => ∃ (C2 : Addr) (b : Bool), xs = [.non, .ref C2] ∧ PySem.W.kitOne K (.type "NoneType") (.ref C2) = some b ∧ Q (.bl b) H
theorem call_isN0 : CallR X (.builtin "isinstance") (rIsN0 X.K) := by
  intro pins s σ H xs us Q I r h
  obtain ⟨C2, b, rfl, e, q⟩ := h
  exact call_isi pins s σ H _ us Q I r ⟨.non, .ref C2, .type "NoneType", .ref C2, b, rfl, .own C2, .base .non, e, q⟩
end
/-! ### try: body, except x as n: y = n -/
/-- the wish about an exception of the body: it is held by the slot j -/
def wKeep (K : PySem.W.Frag) (c : Value) (i j : Nat) (Wout : WX) (D : Ends) : WX := fun cls d σ H =>
  ∃ b, PySem.W.exmOne K cls c = some b ∧ (b = true → ∃ (C dx : Addr), cls = .ref C ∧ d = some dx ∧ ∀ a, H a = none → D.nx (((σ.set i (some (.ref a))).set j (some (.ref a))).set i none) (upd H a (ExD C dx a))) ∧
    (b = false → Wout cls d σ H)
section
variable {X : Cx} {pins : List (Addr × Obj)} {σ : L2.St} {H : Hp} {s : Shared}
/-- an object of ours that was not there at the entry is tracked -/
theorem Inv.track {a : Addr} {o : HO} (I : Inv X pins σ H s) (h0 : X.s_0.heap.get? a = none) (hn : H a = none) (new : ObjOk X.prog X.w H s.heap a o) (nL : a ≠ X.env.locals) (nF : a ∉ X.fs) (nC : ∀ x c, X.env.cells.lookup x = some c → c ≠ a) (nP : ∀ p ∈ X.pn ++ pins, p.1 ≠ a) : Inv X pins σ (upd H a o) s := by
  have ne0 : ∀ b ob, X.s_0.heap.get? b = some ob → b ≠ a := fun b ob e z => by
    rw [z, h0] at e
    cases e
  refine ⟨I.ok, I.os, I.bare, ⟨I.base.keep, I.base.slot, fun b ob e n hx => ?_, I.base.there, fun b xs e => ?_, fun b u xs e => ?_, fun b ps e => ?_⟩, I.loc, I.cell, ?_, fun x c e => ?_, fun p hp => ?_, fun b u e => ?_, I.len⟩
  · rw [upd_ne (ne0 b ob e)]
    exact I.base.free b ob e n hx
  · have q := I.base.tups b xs e
    rw [upd_ne (ne_of_none q hn)]
    exact q
  · have q := I.base.frzs b u xs e
    rw [upd_ne (ne_of_none q hn)]
    exact q
  · obtain ⟨m, q⟩ := I.base.tbls b ps e
    exact ⟨m, by rw [upd_ne (ne_of_none q hn)]; exact q⟩
  · rw [upd_ne (Ne.symm nL)]
    exact I.free
  · rw [upd_ne (nC x c e)]
    exact I.freeC x c e
  · obtain ⟨h1, h2, h3, h4, h5⟩ := I.pin p hp
    exact ⟨h1, by rw [upd_ne (nP p hp)]; exact h2, h3, h4, h5⟩
  · by_cases hb : b = a
    · subst hb
      rw [upd_same] at e
      cases e
      exact new.stay (fun c v _ q => q) (fun c q => by rw [upd_ne (ne_of_none q hn)]; exact q) fun c xs q => by rw [upd_ne (ne_of_none q hn)]; exact q
    · rw [upd_ne hb] at e
      exact (I.hok b u e).stay (fun c v _ q => q) (fun c q => by rw [upd_ne (ne_of_none q hn)]; exact q) fun c xs q => by rw [upd_ne (ne_of_none q hn)]; exact q
theorem Inv.unsuiteP {a : Addr} {q : Addr × Obj} {pn' : List (Addr × Obj)} (I : Inv (X.suite a (q :: (X.pn ++ pins))) pn' σ H s) (ok : X.Ok) : Inv X (q :: pins) σ H s :=
  ⟨ok, I.os, I.bare, I.base, I.loc, I.cell, I.free, I.freeC, fun p hp => I.pin p (List.mem_append_left _ (by
    rcases List.mem_append.mp hp with h | h
    · exact List.mem_cons_of_mem _ (List.mem_append_left _ h)
    · rcases List.mem_cons.mp h with h | h
      · rw [h]; exact List.mem_cons_self
      · exact List.mem_cons_of_mem _ (List.mem_append_right _ h))), I.hok, I.len⟩
end
section
variable {X : Cx} {x n y : Str} {c : Value} {i j : Nat} {body : List Stmt} {np yp np2 ap pos pos' : Pos} {tb : WX → TS} {Wout : WX}
theorem ps_try_keep (hs : X.stack = X.env :: X.outer) (hf : X.env.frame = some X.env.locals) (hex : X.ex = []) (hN : X.N.Nodup) (hi : X.N[i]? = some n) (hln : X.env.kindOf n = some .local) (hj : X.N[j]? = some y) (hly : X.env.kindOf y = some .local) (hc : Names X x c) (tk : Takes X Wout)
    (hdn : (n == ("__debug__" : Str)) = false) (hdc : (n == ("__classdict__" : Str)) = false)
    (hb : ∀ (W : WX) (pn : List (Addr × Obj)) (xe : Value → Shared → Prop), Takes (X.tr pn xe) W → PSs (X.tr pn xe) body (tb W)) :
    PS X (.Try body [.ExceptHandler (some (.Name x np)) (some n) [.Assign [.Name y yp] (.Name n np2) ap] pos'] [] [] pos) (fun D σ H => tb (wKeep X.K c i j Wout D) D σ H) := by
  refine ⟨fun pins s σ H D I h => ?_⟩
  have ok := I.ok
  have hfr : X.A.frames = some (X.env :: X.outer) := by rw [ok.frames, hs]
  have hloc : Loc X.env.scope n := .inl hln
  refine wpAny_Try_except ?_
  refine wpAny_mono ((hb (wKeep X.K c i j Wout D) (X.pn ++ pins) (fun e s₁ => wpAny (model X.prog X.w) X.A (noteFrame e X.env) (fun _ s₂ => wpAny (model X.prog X.w) X.A (setFlight e none) (fun _ s₃ =>
    wpAny (model X.prog X.w) X.A (handleBy e X.env [.ExceptHandler (some (.Name x np)) (some n) [.Assign [.Name y yp] (.Name n np2) ap] pos']) (SP X pins D) X.xe s₃) X.xe s₂) X.xe s₁) (fun u s' xx => ?_)).run [] s σ H D (I.toTry _) h) (fun f s1 hsp => ?_) (fun e s1 he => he)
  · obtain ⟨a, B, sI, pins', σ', H', cls, d, rfl, J', nb, up, sky, na, os, ag, b, hb1, hyes, hno⟩ := xx
    have J : Inv X pins σ' H' sI := J'.ofTry ok
    have sky' : Sky B (X.env :: X.outer) a (Zc cls d) X.env.locals s'.heap := by rw [← hs]; exact sky
    show wpAny (model X.prog X.w) X.A (noteFrame (.ref a) X.env) _ _ _
    refine Sky.land Zc.steady hfr hf sky' fun h3 fl3 up3 => ?_
    have J3 : Inv X pins σ' H' { s' with heap := h3 } := J.landed nb fl3.1 (up.trans up3) os ag
    obtain ⟨oe3, vs3, he3, hz3, hd3⟩ := fl3.there
    have notFr : ∀ {h : Heap} {o : Obj} {vs : Array Value}, h.FunFrames B (X.env :: X.outer) → h.get? a = some o → o.data = .fields vs → a ∉ frs (X.env :: X.outer) := fun {h o vs} ff e dd hm => by
      obtain ⟨_, o', e', hnf⟩ := ff.mem hm
      rw [e] at e'; cases e'
      exact hnf _ dd
    have nfr := notFr fl3.2.2.1 he3 hd3
    have nL : a ≠ X.env.locals := fun z => nfr (List.mem_filterMap.mpr ⟨X.env, List.mem_cons_self, by rw [hf, z]⟩)
    have nF : a ∉ X.fs := fun hm => by
      obtain ⟨e, he, q⟩ := List.mem_filterMap.mp hm
      exact nfr (List.mem_filterMap.mpr ⟨e, List.mem_cons_of_mem _ he, q⟩)
    have Bn : B.get? a = none := fl3.2.1
    have nsI : sI.heap.get? a = none := by
      cases e : sI.heap.get? a with
      | none => rfl
      | some o =>
        have z := nb a o e (by rw [hs]; exact nfr)
        rw [Bn] at z
        cases z
    have n0 : X.s_0.heap.get? a = none := by
      cases e : X.s_0.heap.get? a with
      | none => rfl
      | some o =>
        obtain ⟨o', z⟩ := J.base.there a o e (by rw [hex]; exact fun z => nomatch z)
        rw [nsI] at z
        cases z
    have nP : ∀ p ∈ X.pn ++ pins, p.1 ≠ a := fun p hp z => by
      have q := (J.pin p hp).1
      rw [z, nsI] at q
      cases q
    have S3 := J3.suite he3 hd3 na nL nF
    refine wpAny_handleBy_cons (codeAny_handlers_test ?_) (by intro q; cases q)
    have LT : PySem.W.Looks (model X.prog X.w) h3 (typeOf (.ref a)) cls := fun A Q E s k q => wpAny_typeOf_ref (k _ _ he3) (by rw [hz3.1]; exact q)
    have LM := PySem.W.exm_one (M := model X.prog X.w) (J3.kIn) LT hb1
    have test : ∀ {Q : Value → Shared → Prop} {E : Value → Shared → Prop}, Q c { s' with heap := h3 } → wpAny (model X.prog X.w) (X.A.mark (some (.ref a))) (PySem.eval (.Name x np) X.env) Q E { s' with heap := h3 } := fun {Q E} q => by
      obtain ⟨hg, hdbg, hm | ⟨hm, hv, hnn⟩⟩ := hc
      · exact ld_glob (X := X.suite a ((a, oe3) :: (X.pn ++ pins))) S3 hg hm q hdbg
      · exact ld_blt (X := X.suite a ((a, oe3) :: (X.pn ++ pins))) S3 hg hm hv q hnn hdbg
    refine test (LM.here ?_)
    cases b with
    | true =>
      obtain ⟨C, dx, rfl, rfl, hyes2⟩ := hyes rfl
      refine codeAny_handlers_suite_as ?_
      refine HandSPX.lands_againZ fl3 fun h4 fl4 up4 => ?_
      have J4 : Inv X pins σ' H' { s' with heap := h4 } := J.landed nb fl4.1 ((up.trans up3).trans up4) os ag
      obtain ⟨oe4, vs4, he4, hz4, hd4⟩ := fl4.there
      have S4 := J4.suite he4 hd4 na nL nF
      have hiσ : i < σ'.length := by rw [J.len]; exact (List.getElem?_eq_some_iff.mp hi).1
      refine store_ok (X := X.suite a ((a, oe4) :: (X.pn ++ pins))) (v := .ref a) S4 hN hi hloc rfl (fun s5 S5 => ?_) (.inr hln)
      have PA1 : PSs (X.suite a ((a, oe4) :: (X.pn ++ pins))) [.Assign [.Name y yp] (.Name n np2) ap] (tAsg (tVar i) (gName j)) :=
        pss_one (ps_set (X := X.suite a ((a, oe4) :: (X.pn ++ pins))) hN hj (.inl hly) (pe_var hi (.inl hln) hdn hdc) rfl (.inr hly))
      refine wpAny_mono (PA1.run [] s5 _ H' { nx := fun σ6 H6 => σ6 = (σ'.set i (some (.ref a))).set j (some (.ref a)) ∧ H6 = H', rt := fun _ _ => False } S5 ⟨.ref a, by simp [hiσ], rfl, rfl⟩) (fun f s6 hsp => ?_) (fun _ _ z => False.elim z)
      cases f with
      | next =>
        obtain ⟨σ6, H6, S6, rfl, rfl⟩ := hsp
        show wpAny (model X.prog X.w) X.A (do bindName X.env n .none; unbindBehindTheSuite X.env n pos') (fun _ s7 => _) X.xe s6
        refine gone_ok (Inv.unsuiteP S6 ok) hN hi hln fun s7 J7 => ?_
        obtain ⟨p1, p2, p3, p4, p5⟩ := J7.pin (a, oe4) (List.mem_append_right _ List.mem_cons_self)
        have J8 : Inv X pins _ _ s7 := ⟨J7.ok, J7.os, J7.bare, J7.base, J7.loc, J7.cell, J7.free, J7.freeC, fun p hp => J7.pin p (by
          rcases List.mem_append.mp hp with h | h
          · exact List.mem_append_left _ h
          · exact List.mem_append_right _ (List.mem_cons_of_mem _ h)), J7.hok, J7.len⟩
        exact ⟨_, _, Inv.track J8 n0 p2 (exD_ok p1 hz4 hd4) p3 p4 (fun x c e z => by
          obtain ⟨v, o, ho, hd⟩ := J8.cell x c e
          rw [z, p1] at ho
          cases ho
          exact p5 _ hd) nP, hyes2 a na⟩
      | brk => obtain ⟨_, _, _, z⟩ := hsp; exact z.elim
      | cont => obtain ⟨_, _, _, z⟩ := hsp; exact z.elim
      | ret u => obtain ⟨_, _, _, _, _, z⟩ := hsp; exact z.elim
    | false =>
      show wpAny _ X.A (handleBy (.ref a) X.env []) _ _ _
      refine wpAny_handleBy_nil ?_
      obtain ⟨k1, k2, k3, oe, vs, T, oT, ts', he, hz, hd, h1, hr⟩ := id fl3
      unfold PySem.passOn
      refine wpAny_bind (wpAny_field he hd h1 ?_)
      rw [if_neg (show ¬ ((Value.ref T == Value.none) = true) from by simp)]
      have fin : wpAny (model X.prog X.w) X.A (setFlight (.ref a) X.env.frame) (fun _ s4 => wpAny (model X.prog X.w) X.A (throw (.ref a) : Sem Flow) (SP X pins D) X.xe s4) X.xe { s' with heap := h3 } := by
        rw [hf]
        refine HandSPX.setFlight_upZ fl3 fun h4 hh4 up4 => wpAny_throw (tk _ _ ?_)
        exact ⟨a, B, sI, pins, σ', H', cls, d, rfl, J, nb, (up.trans up3).trans up4, .inr (.inr (by rw [hs]; exact hh4)), na, os, ag, hno rfl⟩
      first
        | exact wpAny_bind (wpAny_pure (wpAny_bind fin))
        | exact wpAny_bind fin
  · cases f with
    | next =>
      obtain ⟨σ', H', J', q⟩ := hsp
      exact wpAny_execs_nil ⟨σ', H', J'.ofTry ok, q⟩
    | brk =>
      obtain ⟨σ', H', J', q⟩ := hsp
      exact ⟨σ', H', J'.ofTry ok, q⟩
    | cont =>
      obtain ⟨σ', H', J', q⟩ := hsp
      exact ⟨σ', H', J'.ofTry ok, q⟩
    | ret u =>
      obtain ⟨v, σ', H', J', r, q⟩ := hsp
      exact ⟨v, σ', H', J'.ofTry ok, r, q⟩
end
end DL
set_option Elab.async false
set_option linter.all false
set_option maxRecDepth 100000
set_option maxHeartbeats 1000000
/-! DL, part kb: calls of defs that hand back a list just made; such a list lent to a def. -/
namespace DL
open PySem PySem.Spec PyProof.Rows L2
def spN (K : Frg) (cl : Cls) (φ : Fun) : Sp := fun vs H Q E => ∃ R ds, Sb R H ∧ RpL K R vs ds ∧ (match φ ds with
  | .ok x => ∃ l, x.1 = .list l ∧ ∀ a xs R' H', Aft R H [] R' H' → H a = none → R' a = none → H' a = some (.lst xs) → RpL K R' xs l → Q (.ref a) H'
  | .exc c d => Wsh K cl R H [] E c d
  | .bad => False)
structure FnNew (P : Program) (w : World) (K : PySem.W.Frag) (mg : Str → Option Value) (base : Heap) (cl : Cls) (k : Nat) (x : Str) (φ : Fun) : Prop where
  ex : ∃ (a : Addr) (fd : FuncData) (ps : List Str) (j : Nat), j ≤ k ∧ mg x = some (.ref a) ∧ PySem.W.keepIn K (.ref a) = true ∧ FnG P w K mg base j a fd ps (spN ⟨K, w, clOf mg⟩ cl φ) ∧ Binds K fd ps []
section
variable {K : Frg} {R0 H0 R H R' H' : Hp} {G : List Addr} {ρ : DEnv} {σ : L2.St}
/-- what stood outside was lent -/
theorem Stt.callF (S : Stt K R0 H0 G ρ σ R H) {p : Addr} (fr : Fresh ρ σ R H0 p) (A : Aft R H [p] R' H') : Stt K R0 H0 G ρ σ R' H' := by
  have T := Aft.trans S A (fun a h => .inr (by rw [List.mem_singleton.mp h]; exact fr.h))
  refine ⟨T.sub, T.le, T.new, T.keep, S.g0, fun a g => ?_, S.len, fun i s e => ?_, S.ap⟩
  · obtain ⟨h1, h2⟩ := S.gH a g
    have n : a ∉ [p] := fun z => S.g0 a g (by rw [List.mem_singleton.mp z]; exact fr.h)
    refine ⟨?_, T.g a g⟩
    cases e : H a with
    | none => exact absurd e h1
    | some o => rw [A.keep a o e n]; simp
  · refine (S.sl i s e).mono A.le fun a o x => ?_
    obtain ⟨h1, h2⟩ := S.ownAt e o x
    have n : a ∉ [p] := fun z => fr.n i s e o (by rw [← List.mem_singleton.mp z]; exact x)
    refine ⟨?_, A.none h2 h1⟩
    cases e2 : H a with
    | none => exact absurd e2 h1
    | some u => exact A.keep a u e2 n
end
section
variable {X : Cx} {cl : Cls} {W : XK} {k : Nat} {PhU : Nat → Fun} {x y : Str} {p pos : Pos} {a b : Expr} {as : List Expr} {e : E} {es : List E} {fs : DEnv → Out (List PyData × DEnv)} {f : DEnv → OV} {φ : Fun}
theorem pe_callNew (hr : Room k X.A) (gd : X.A.guards = some []) (tk : Takes X fun c d _ H => W c d H) (F : FnNew X.prog X.w X.K X.mg X.base cl k x φ) (hg : Gl X x) (hdb : (x == ("__debug__" : Str)) = false)
    (hs : (a :: as).all notStar = true) (hn : (es.all fun e => (isBor e).isNone) = true) (hb : isBor e = none) (ha : PA X (a :: as) (tA X.F cl W es fs)) :
    PE X (.Call (.Name x p) (a :: as) [] pos) (tN X.F cl W e fun ρ => (fs ρ).bind fun x => (φ x.1).bind fun r => (match r.1 with
      | .list l => .ok (.list l, x.2)
      | _ => .bad)) := by
  obtain ⟨g, fd, ps, j, hj, hm, hk, FG, hbd⟩ := F.ex
  refine pe_imp (pe_callG (E := W) FG (hr.mono hj) gd hg hm hk hbd (fun pins σ H s e s' I c => passes_call tk (fun _ _ _ _ h => h) pins σ H s e s' I c) ha hs hdb) fun σ H Q ⟨R0, H0, G, ρ, R, S, h⟩ => ?_
  refine ⟨R0, H0, G, ρ, R, S, resA_iff.mpr ((ok2_bind.mp (resN_iff.mp h)).imp fun ds ρ1 h vs R1 H1 S1 l1 o1 => ?_)⟩
  show spN X.F cl φ vs H1 Q W
  refine ⟨R1, ds, S1.sub, o1.rp hn, ?_⟩
  cases hp : φ ds with
  | bad => simp only [hp] at h; exact h.elim
  | exc c d =>
    simp only [hp] at h
    have h : Wsh X.F cl R0 H0 G W c d := h
    exact h.inner S1 (fun a z => nomatch z)
  | ok r =>
    simp only [hp] at h
    obtain ⟨r1, r2⟩ := r
    cases r1 <;> first | exact h.elim | skip
    rename_i l
    refine ⟨l, rfl, fun a xs R' H' A n1 n2 n3 q => ?_⟩
    exact h (.ref a) R' H' (S1.call0 A) (l1.trans A.le) (.new hb (.lst ⟨n2, S1.h0 n1, fun i s e o z => (S1.ownAt e o z).1 n1⟩ n3 q))
/-- f(g(..)), g's new list lent to f -/
theorem pe_callT (hr : Room k X.A) (gd : X.A.guards = some []) (tk : Takes X fun c d _ H => W c d H) (F : FnAt X.prog X.w X.K X.mg X.base cl k x (some 0) φ) (hg : Gl X x) (hdb : (x == ("__debug__" : Str)) = false)
    (hs : notStar b = true) (hb : isBor e = none) (ho : old e = false) (ha : PE X b (tN X.F cl W e f)) :
    PE X (.Call (.Name x p) [b] [] pos) (tV X.F cl W fun ρ => (f ρ).bind fun r => (match r.1 with
      | .list l => (φ [.list l]).bind fun q => .ok (q.1, r.2)
      | _ => .bad)) := by
  obtain ⟨g, fd, ps, j, hj, hm, hk, FG, hbd⟩ := F.ex
  have pa1 : PA X [b] (tCons (tN X.F cl W e f) tNil) := pa_cons ha pa_nil (starEach_cons hs [] X.env)
  refine pe_imp (pe_callG (E := W) FG (hr.mono hj) gd hg hm hk hbd (fun pins σ H s e s' I c => passes_call tk (fun _ _ _ _ h => h) pins σ H s e s' I c) pa1 (by simp [hs]) hdb) fun σ H Q ⟨R0, H0, G, ρ, R, S, h⟩ => ?_
  show tN X.F cl W e f σ H fun y H1 => spD X.F cl (some 0) φ [y] H1 Q W
  refine ⟨R0, H0, G, ρ, R, S, resN_iff.mpr ((ok2_bind.mp (resN_iff.mp h)).imp fun d ρ1 h v R1 H1 S1 l1 o1 => ?_)⟩
  cases d <;> first | exact h.elim | skip
  rename_i l
  have o2 : NewP (old e) X.F ρ1 σ R1 H0 H1 v (.list l) := by
    unfold OpN at o1
    rw [hb] at o1
    exact o1
  rw [ho] at o2
  cases o2 with
  | rp _ o => rcases o with o | o <;> cases o
  | @lst q xs _ fr hp r =>
    refine ⟨R1, [.list l], [q], S1.sub, ⟨q, rfl, fr.r, .here ⟨xs, hp, r⟩ .nil⟩, ?_⟩
    have h : Ok2 X.F cl W R0 H0 G ((φ [.list l]).bind fun q => .ok (q.1, ρ1)) _ := h
    cases hq : φ [.list l] with
    | bad => rw [hq] at h; exact h.elim
    | exc c d =>
      rw [hq] at h
      have h : Wsh X.F cl R0 H0 G W c d := h
      exact h.inner S1 fun a z => .inr (by rw [List.mem_singleton.mp z]; exact fr.h)
    | ok z =>
      rw [hq] at h
      exact fun v R' H' A rv _ => h v R' H' (S1.callF fr A) (l1.trans A.le) (.new rfl (.rp rv))
end
end DL
set_option Elab.async false
set_option linter.all false
set_option maxRecDepth 100000
set_option maxHeartbeats 1000000
/-! DL, part rc: what is asked of a held error. -/
namespace DL
open PySem PySem.Spec PyProof.Rows L2
/-- isinstance of a held error or None with a class of the text's own -/
def rIsDN (K : PySem.W.Frag) : List V → Hp → VK → Prop := fun xs H Q => rIsD K xs H Q ∨ rIsN0 K xs H Q
theorem call_isDN {X : Cx} : CallR X (.builtin "isinstance") (rIsDN X.K) := by
  intro pins s σ H xs us Q I r h
  rcases h with h | h
  · exact call_isD pins s σ H xs us Q I r h
  · exact call_isN0 pins s σ H xs us Q I r h
/-- the known error classes -/
structure XcOk (X : Cx) (c : Str) : Prop where
  off : ∃ D fI, OffC X.K X.mg D fI c (X.F.cl c)
  exc : ExcC X.K (X.F.cl c)
section
variable {X : Cx} {cl : Cls} {W : XK} {i : Nat} {n x : Str} {p np xp pos : Pos} {cs : List Str} {C2 : Addr}
theorem Sb.obj {R H : Hp} (s : Sb R H) {a : Addr} {u : HO} (h : R a = some u) (n : ∀ xs, u ≠ .lst xs) : H a = some u := by
  rcases s a u h with z | ⟨_, xs, e, _⟩
  · exact z
  · exact absurd e (n xs)
theorem pe_isX (hn : PE X (.Name n np) (tVar i)) (hgi : Gl X "isinstance") (hmi : X.mg "isinstance" = none) (hg : Gl X x) (hm : X.mg x = some (.ref C2)) (hdb : (x == ("__debug__" : Str)) = false)
    (hx : ∀ c ∈ cs, ExcC X.K (X.F.cl c) ∧ PySem.W.kitOne X.K (.ref (X.F.cl c)) (.ref C2) = some (subC c x)) (h0 : PySem.W.kitOne X.K (.type "NoneType") (.ref C2) = some false) :
    PE X (.Call (.Name "isinstance" p) [.Name n np, .Name x xp] [] pos) (tF X.F cl W fun ρ => (match ρ[i]? with
      | some (.exc c _) => if c ∈ cs then .ok (.bool (subC c x), ρ) else .bad
      | some (.val .none) => .ok (.bool false, ρ)
      | _ => .bad)) := by
  have hp : PA X [.Name n np, .Name x xp] (tCons (tVar i) (tCons (tC (.ref C2)) tNil)) := pa_cons hn (pa_cons (pe_glob hg hm rfl hdb) pa_nil rfl) (starEach_cons rfl _ X.env)
  refine pe_imp (pe_callB call_isDN hgi hmi PyProof.Rows.boot_isinstance hp (by decide) (by decide) (starEach_cons rfl _ X.env) rfl) fun σ H Q ⟨R0, H0, G, ρ, R, S, h⟩ => ?_
  have h := resN_iff.mp h
  dsimp only at h
  cases e : ρ[i]? with
  | none => rw [e] at h; exact h.elim
  | some s =>
    rw [e] at h
    have ok := S.sl i s e
    cases s with
    | no => exact h.elim
    | own _ _ => exact h.elim
    | ownD _ _ => exact h.elim
    | exc c d =>
      dsimp only at h
      by_cases hc : c ∈ cs
      · rw [if_pos hc] at h
        obtain ⟨a, dx, v, e1, h1, h2, h3⟩ := ok
        obtain ⟨k1, k2⟩ := hx c hc
        exact ⟨_, e1, .inl ⟨a, _, dx, C2, v, _, rfl, k1, S.sub.obj h1 (fun _ z => nomatch z), S.sub.obj h2 (fun _ z => nomatch z), k2, h _ R H S (Le.refl _) (.new rfl (.rp (.bl _)))⟩⟩
      · rw [if_neg hc] at h
        exact h.elim
    | val d =>
      cases d <;> first | exact h.elim | skip
      obtain ⟨v, e1, h1⟩ := ok
      cases h1
      exact ⟨_, e1, .inr ⟨C2, false, rfl, h0, h _ R H S (Le.refl _) (.new rfl (.rp (.bl _)))⟩⟩
theorem t_isNX {K : Frg} {e : E} (he : isBor e = none) {neg : Bool} {σ : L2.St} {H : Hp} {Q : VK} (h : tN K cl W e (fun ρ => (match ρ[i]? with
      | some (.exc _ _) => .ok (.bool neg, ρ)
      | some (.val .none) => .ok (.bool !neg, ρ)
      | _ => .bad)) σ H Q) : ∃ v, σ[i]? = some (some v) ∧ Q (.bl (if neg then !decide (v = .non) else decide (v = .non))) H := by
  obtain ⟨R0, H0, G, ρ, R, S, h⟩ := h
  have h := resN_iff.mp h
  dsimp only at h
  cases er : ρ[i]? with
  | none => rw [er] at h; exact h.elim
  | some s =>
    rw [er] at h
    have ok := S.sl i s er
    cases s with
    | no => exact h.elim
    | own _ _ => exact h.elim
    | ownD _ _ => exact h.elim
    | exc c d =>
      obtain ⟨a, dx, v, e1, h1, h2, h3⟩ := ok
      refine ⟨_, e1, ?_⟩
      have q := h _ R H S (Le.refl _) (.new he (.rp (.bl _) (.inr rfl)))
      cases neg <;> exact q
    | val d =>
      cases d <;> first | exact h.elim | skip
      obtain ⟨v, e1, h1⟩ := ok
      cases h1
      refine ⟨_, e1, ?_⟩
      have q := h _ R H S (Le.refl _) (.new he (.rp (.bl _) (.inr rfl)))
      cases neg <;> exact q
theorem pe_isNX {j : Nat} {pos' : Pos} {neg : Bool} {op : CmpOp} (ho : op = if neg then .IsNot else .Is) (hn : PE X (.Name n np) (tVar i)) : PE X (.Compare (.Name n np) [op] [.Constant .none j pos'] pos) (tF X.F cl W fun ρ => (match ρ[i]? with
      | some (.exc _ _) => .ok (.bool neg, ρ)
      | some (.val .none) => .ok (.bool !neg, ρ)
      | _ => .bad)) := by
  subst ho
  cases neg with
  | false => exact pe_imp (pe_cmp (pc_isN hn)) fun σ H Q h => t_isNX rfl h
  | true => exact pe_imp (pe_cmp (pc_notN hn)) fun σ H Q h => t_isNX rfl h
theorem pt_isNX {j : Nat} {pos' : Pos} {neg : Bool} {op : CmpOp} (ho : op = if neg then .IsNot else .Is) (hn : PE X (.Name n np) (tVar i)) : PT X (.Compare (.Name n np) [op] [.Constant .none j pos'] pos) (tB fun σ H Q => ∃ v, σ[i]? = some (some v) ∧ Q (.bl (if neg then !decide (v = .non) else decide (v = .non))) H) := by
  subst ho
  cases neg with
  | false => exact pt_cmp (pc_isN hn)
  | true => exact pt_cmp (pc_notN hn)
theorem pe_valX {m : Str} (hm : m = "value") (hn : PE X (.Name n np) (tVar i)) (hx : ∀ c ∈ cs, ∃ D fI, OffC X.K X.mg D fI c (X.F.cl c)) :
    PE X (.Attribute (.Name n np) m pos) (tV X.F cl W fun ρ => (match ρ[i]? with
      | some (.exc c d) => if c ∈ cs then .ok (d, ρ) else .bad
      | _ => .bad)) := by
  subst hm
  refine ⟨fun pins s σ H Q I ⟨R0, H0, G, ρ, R, S, h⟩ => ?_⟩
  have h := resN_iff.mp h
  dsimp only at h
  cases e : ρ[i]? with
  | none => rw [e] at h; exact h.elim
  | some s =>
    rw [e] at h
    have ok := S.sl i s e
    cases s with
    | no => exact h.elim
    | own _ _ => exact h.elim
    | ownD _ _ => exact h.elim
    | val d => exact h.elim
    | exc c d =>
      dsimp only at h
      by_cases hc : c ∈ cs
      · rw [if_pos hc] at h
        obtain ⟨a, dx, v, e1, h1, h2, h3⟩ := ok
        obtain ⟨D, fI, T⟩ := hx c hc
        exact (pe_value T hn rfl).run pins _ σ H Q I ⟨_, e1, a, dx, v, rfl, S.sub.obj h1 (fun _ z => nomatch z), S.sub.obj h2 (fun _ z => nomatch z), h _ R H S (Le.refl _) (.new rfl (.rp h3))⟩
      · rw [if_neg hc] at h
        exact h.elim
end
end DL
set_option Elab.async false
set_option linter.all false
set_option maxRecDepth 100000
set_option maxHeartbeats 1000000
/-! DL, part sd: a dict written out, with entries. -/
namespace DL
open PySem PySem.Spec PyProof.Rows L2
def flatP : List (V × V) → List V
  | [] => []
  | p :: r => p.1 :: p.2 :: flatP r
def tDs (K : Frg) (cl : Cls) (W : XK) (n : Nat) (fs : DEnv → Out (List PyData × DEnv)) (σ : L2.St) (H : Hp) (Qp : List (V × V) → Hp → Prop) : Prop :=
  ∃ R0 H0 G ρ R, Stt K R0 H0 G ρ σ R H ∧ Ok2 K cl W R0 H0 G (fs ρ) fun ds ρ' => ∀ ps R' H', Stt K R0 H0 G ρ' σ R' H' → Le R R' → RpL K R' (flatP ps) ds → ps.length = n → Qp ps H'
section
variable {K : Frg} {cl : Cls} {W : XK} {n : Nat} {f g : DEnv → OV} {fs : DEnv → Out (List PyData × DEnv)} {σ : L2.St} {H : Hp} {Qp : List (V × V) → Hp → Prop} {e1 e2 : E} {trs : List (TE × TE)}
theorem tds_nil (h : tDs K cl W 0 (fun ρ => .ok ([], ρ)) σ H Qp) : tPairs [] σ H Qp := by
  obtain ⟨R0, H0, G, ρ, R, S, h⟩ := h
  exact h [] R H S (Le.refl _) .nil rfl
theorem tds_cons (h1 : isBor e1 = none) (h2 : isBor e2 = none) (ih : ∀ σ H Qp, tDs K cl W n fs σ H Qp → tPairs trs σ H Qp)
    (h : tDs K cl W (n + 1) (fun ρ => (f ρ).bind fun x => ((g x.2).bind fun y => (fs y.2).bind fun z => .ok (y.1 :: z.1, z.2)).bind fun z => .ok (x.1 :: z.1, z.2)) σ H Qp) : tPairs ((tR K cl W e1 f, tR K cl W e2 g) :: trs) σ H Qp := by
  obtain ⟨R0, H0, G, ρ, R, S, h⟩ := h
  refine ⟨R0, H0, G, ρ, R, S, resR_iff.mpr ((ok2_bind.mp h).imp fun d ρ1 h v R1 H1 S1 l1 o1 => ⟨R0, H0, G, ρ1, R1, S1, resR_iff.mpr ((ok2_bind.mp (ok2_bind.mp h)).imp fun d2 ρ2 h v2 R2 H2 S2 l2 o2 => ih _ _ _ ⟨R0, H0, G, ρ2, R2, S2, (ok2_bind.mp h).imp fun ds ρ3 h ps R3 H3 S3 l3 rp ln => ?_⟩)⟩)⟩
  exact h ((v, v2) :: ps) R3 H3 S3 (l1.trans (l2.trans l3)) (.cons ((o1.rp h1).mono (l2.trans l3)) (.cons ((o2.rp h2).mono l3) rp)) (by rw [List.length_cons, ln])
theorem dictOf_rp {R : Hp} : ∀ {ps : List (V × V)} {ds : List PyData} {acc : List (PyData × PyData)} {accV : List (Key × V)} {out : List (PyData × PyData)}, RpL K R (flatP ps) ds → RpD K R accV acc → dictOf ds acc = some out →
    ∃ kvs : List (Key × V), ps = kvs.map (fun kv => (kV kv.1, kv.2)) ∧ RpD K R (mergeK accV kvs) out := by
  intro ps
  induction ps with
  | nil =>
    intro ds acc accV out hl ha q
    cases hl
    cases q
    exact ⟨[], rfl, ha⟩
  | cons p ps ih =>
    intro ds acc accV out hl ha q
    cases hl with
    | @cons _ _ kd ds1 h1 hl =>
      cases hl with
      | @cons _ _ vd ds h2 hl =>
        have q : (if isKey kd then dictOf ds (put kd vd acc) else none) = some out := q
        split at q
        · rename_i hk
          obtain ⟨k, e1, rfl, f⟩ := h1.keyOf hk
          obtain ⟨kvs, e2, r⟩ := ih hl (put_rp f h2 ha) q
          obtain ⟨p1, p2⟩ := p
          cases e1
          exact ⟨(k, p2) :: kvs, by rw [e2]; rfl, r⟩
        · cases q
end
section
variable {X : Cx} {cl : Cls} {W : XK} {n : Nat} {fs : DEnv → Out (List PyData × DEnv)} {es : List E} {trs : List (TE × TE)} {pos : Pos} {ks : List (Option Expr)} {vs : List Expr}
theorem pe_dispD (hp : PPs X pos ks vs trs) (ht : ∀ σ H Qp, tDs X.F cl W ks.length fs σ H Qp → tPairs trs σ H Qp) (hall : ks.all (·.isSome) = true) (hl : ks.length = vs.length) (h0 : ks ≠ []) (h15 : ks.length ≤ 15) :
    PE X (.Dict ks vs pos) (tN X.F cl W (.dct es) fun ρ => (fs ρ).bind fun x => Out.ofOpt ((dictOf x.1 []).map .dict) x.2) := by
  refine pe_imp (pe_disp hp hall hl h0 h15) fun σ H Q ⟨R0, H0, G, ρ, R, S, h⟩ p hp => ?_
  have fr := S.fresh hp
  have S2 := (S.alloc (u := .dK []) hp).hold fr upd_same
  have h := resN_iff.mp h
  refine ht _ _ _ ⟨R0, _, G, ρ, R, S2, ?_⟩
  dsimp only at h
  cases hf : fs ρ with
  | bad => rw [hf] at h; exact h.elim
  | exc c d => rw [hf] at h; exact Wsh.hold h fr.h
  | ok x =>
    rw [hf] at h
    obtain ⟨ds, ρ1⟩ := x
    intro ps R2 H2 S3 l2 rp ln
    cases hd : dictOf ds [] with
    | none =>
      have h : Ok2 X.F cl W R0 H0 G (Out.ofOpt ((dictOf ds []).map PyData.dict) ρ1) _ := h
      rw [hd] at h
      exact h.elim
    | some out =>
      have h : Ok2 X.F cl W R0 H0 G (Out.ofOpt ((dictOf ds []).map PyData.dict) ρ1) _ := h
      rw [hd] at h
      obtain ⟨kvs, e, r⟩ := dictOf_rp rp .nil hd
      obtain ⟨S4, F4, hp4⟩ := S3.unhold fr.h (fun g => S.g0 p g fr.h) (by
        cases z : R0 p with
        | none => rfl
        | some o =>
          have := S.old p o z
          rw [fr.r] at this
          cases this)
      refine ⟨hp4, kvs, e, ?_, h (.ref p) R2 _ (S4.outer F4) l2 (.new rfl (.dic F4 upd_same r))⟩
      rw [e, List.length_map] at ln
      omega
end
end DL
set_option Elab.async false
set_option linter.all false
set_option maxRecDepth 100000
set_option maxHeartbeats 4000000
/-! DL, part u: the evaluator tells the truth of expressions. -/
namespace DL
open PySem PySem.Spec PyProof.Rows L2
structure Ck (GmU : Env2) (cl : Cls) (k : Nat) (X : Cx) (W : XK) (p : Pl) : Prop where
  hN : X.N = p.N
  hsc : X.env.scope = p.sc
  hfn : ∀ x, p.fn x = true → X.fn x = true
  nd : X.N.Nodup
  calm : X.calm = true
  gd : X.A.guards = some []
  one : ∃ o, X.base.get? 1 = some o
  room : Room k X.A
  tk : Takes X fun c d _ H => W c d H
  fr : ∀ x ∈ bnames, X.mg x = none
  gl : ∀ (j : Nat) (q : Str × PyData), GmU.GT[j]? = some q → ∃ v u, X.mg q.1 = some u ∧ RelV v u ∧ ∀ R, Rp X.F R v q.2
  fns : ∀ f, GmU.Kn f = true → FnAt X.prog X.w X.K X.mg X.base cl k (GmU.fnm f) (GmU.RF f) (GmU.PhU f)
  kws : ∀ f ks ns, GmU.KK f ks = some ns → FnKw X.prog X.w X.K X.mg X.base cl k (GmU.fnm f) (GmU.PhU f) ns (GmU.KP f ks)
  fnN : ∀ f, GmU.KnN f = true → FnNew X.prog X.w X.K X.mg X.base cl k (GmU.fnm f) (GmU.PhU f)
  xc : ∀ c, GmU.XC c = true → XcOk X c ∧ cl c = X.F.cl c ∧ PySem.W.kitOne X.K (.type "NoneType") (.ref (X.F.cl c)) = some false
  xk : ∀ c x, GmU.XC c = true → GmU.XC x = true → PySem.W.kitOne X.K (.ref (X.F.cl c)) (.ref (X.F.cl x)) = some (subC c x) ∧ PySem.W.exmOne X.K (.ref (X.F.cl c)) (.ref (X.F.cl x)) = some (subC c x)
section
variable {GmU : Env2} {cl : Cls} {k : Nat} {X : Cx} {W : XK} {p : Pl}
theorem Ck.blk (C : Ck GmU cl k X W p) (s : Shared) (H : Hp) (scope : Scope) (a : Addr) (cs : List (Str × Addr)) (fp : List Addr) : Ck GmU cl k (X.blk s H scope (compEnvC scope cs a X.env) fp) WF (inner p scope) where
  hN := C.hN
  hsc := by
    show relS scope X.env.scope = relS scope p.sc
    rw [C.hsc]
  hfn := fun x h => h
  nd := C.nd
  calm := C.calm
  gd := C.gd
  one := C.one
  room := C.room
  tk := takes0
  fr := C.fr
  gl := C.gl
  fns := C.fns
  kws := C.kws
  fnN := C.fnN
  xc := fun c h => ⟨⟨(C.xc c h).1.off, (C.xc c h).1.exc⟩, (C.xc c h).2⟩
  xk := C.xk
theorem and2 {a b : Bool} (h : (a && b) = true) : a = true ∧ b = true := by rwa [Bool.and_eq_true] at h
theorem nbE {e : E} (h : nb e = true) : isBor e = none := Option.isNone_iff_eq_none.mp h
theorem Ck.var (C : Ck GmU cl k X W p) {i : Nat} {x : Str} {pos : Pos} (h : nmOk p i x = true) : PE X (.Name x pos) (tVar i) := by
  unfold nmOk at h
  obtain ⟨h, h4⟩ := and2 h
  obtain ⟨h, h3⟩ := and2 h
  obtain ⟨h1, h2⟩ := and2 h
  simp only [Bool.or_eq_true, decide_eq_true_eq] at h1 h2
  refine pe_var (by rw [C.hN]; exact h1) ?_ (by simpa using h3) (by simpa using h4)
  unfold Vis
  rw [C.hsc]
  rcases h2 with (h2 | h2) | h2
  · exact .inl h2
  · exact .inr (.inl h2)
  · exact .inr (.inr h2)
theorem Ck.st (C : Ck GmU cl k X W p) {i : Nat} {x : Str} (h : stOk p i x = true) : X.N[i]? = some x ∧ L2.Loc X.env.scope x ∧ (X.fn x = true ∨ X.env.scope.names.lookup x = some .local) := by
  unfold stOk at h
  obtain ⟨h1, h2⟩ := and2 h
  simp only [Bool.or_eq_true, Bool.and_eq_true, decide_eq_true_eq] at h1 h2
  refine ⟨by rw [C.hN]; exact h1, ?_⟩
  unfold L2.Loc
  rw [C.hsc]
  rcases h2 with h2 | ⟨h2, h3⟩
  · exact ⟨.inl h2, .inr h2⟩
  · exact ⟨.inr h2, .inl (C.hfn x h3)⟩
theorem Ck.glo (C : Ck GmU cl k X W p) {x : Str} (h : glOk p x = true) : Gl X x ∧ (x == ("__debug__" : Str)) = false := by
  unfold glOk at h
  obtain ⟨h1, h2⟩ := and2 h
  refine ⟨?_, by simpa using h2⟩
  show X.env.scope.names.lookup x = _
  rw [C.hsc]
  exact of_decide_eq_true h1
theorem Ck.bn (C : Ck GmU cl k X W p) {x y : Str} (h : bnOk p y x = true) (m : x ∈ bnames) : y = x ∧ Gl X x ∧ X.mg x = none := by
  unfold bnOk at h
  obtain ⟨h1, h2⟩ := and2 h
  have e : x = y := of_decide_eq_true h1
  subst e
  exact ⟨rfl, (C.glo h2).1, C.fr x m⟩
theorem kOk_pe {d : PyData} {c : Const} {j : Nat} {pos : Pos} (h : kOk d c = true) : PE X (.Constant c j pos) (tV X.F cl W fun ρ => .ok (d, ρ)) := by
  cases d <;> cases c <;> first | (cases h; done) | skip
  · exact pe_vD pe_non fun R => .non
  · have e := eq_of_beq (show (_ == _) = true from h)
    subst e
    exact pe_vD pe_bl fun R => .bl _
  · have e := of_decide_eq_true (show decide (_ = _) = true from h)
    subst e
    exact pe_vD pe_int fun R => .int _
  · obtain ⟨h1, h2⟩ := and2 h
    have e := of_decide_eq_true h1
    subst e
    exact pe_vD pe_str fun R => .str _ (of_decide_eq_true h2)
theorem gOk_pe (C : Ck GmU cl k X W p) {j : Nat} {x : Str} {pos : Pos} (h : gOk GmU p j x = true) : PE X (.Name x pos) (tV X.F cl W fun ρ => (match GmU.GT[j]? with
    | some q => .ok (q.2, ρ)
    | none => .bad)) := by
  unfold gOk at h
  obtain ⟨h1, h2⟩ := and2 h
  cases e : GmU.GT[j]? with
  | none => rw [e] at h1; cases h1
  | some q =>
    rw [e] at h1
    have e1 : q.1 = x := of_decide_eq_true h1
    subst e1
    obtain ⟨v, u, m1, m2, m3⟩ := C.gl j q e
    exact pe_vD (pe_glob (C.glo h2).1 m1 m2 (C.glo h2).2) m3
theorem tgNames_pgs (C : Ck GmU cl k X W p) : ∀ {is : List Nat} {es : List Expr}, tgNames p is es = true → PGs X es (gNames is) ∧ (assignEach es X.env).length = is.length ∧ (assignEach es X.env).findIdx? (·.1) = none
  | [], [], _ => ⟨pgs_nil, rfl, rfl⟩
  | i :: is, .Name x q :: es, h => by
    obtain ⟨h1, h2⟩ := and2 h
    obtain ⟨g1, g2, g3⟩ := tgNames_pgs C h2
    obtain ⟨s1, s2, s3⟩ := C.st h1
    refine ⟨pgs_cons (pg_name C.nd s1 s2 s3) g1 rfl, ?_, ?_⟩
    · show (_ :: assignEach es X.env).length = _
      rw [List.length_cons, g2]
      rfl
    · show ((false, assign (.Name x q) X.env) :: assignEach es X.env).findIdx? (·.1) = none
      rw [List.findIdx?_cons, g3]
      rfl
  | [], _ :: _, h => by cases h
  | _ :: _, [], h => by cases h
theorem tgOk_pg (C : Ck GmU cl k X W p) {tg : Tg} {te : Expr} (h : tgOk p tg te = true) : PG X te (gD X.F tg) := by
  cases tg with
  | n i =>
    cases te <;> first | (cases h; done) | skip
    obtain ⟨s1, s2, s3⟩ := C.st h
    exact pg_name C.nd s1 s2 s3
  | t is =>
    cases te <;> first | (cases h; done) | skip
    obtain ⟨g1, g2, g3⟩ := tgNames_pgs C h
    exact pg_tup C.calm g1 g2 g3
theorem fold_ok {iter : Expr} (h : notSetE iter = true) (env : Env) (x : Value) : foldedSetIterable iter env x = pure x := by
  cases iter <;> first | rfl | cases h
theorem base_ok {o : Expr} (h : notCallE o = true) (m : Str) (env : Env) : attributeBase o m env (eval o env) = eval o env := by
  cases o <;> first | rfl | cases h
theorem sw_no {e : Expr} (h : compE e = false) (t : Option Expr) (l : Nat) (env : Env) : swapsWith e t l env = pure false := by
  cases e <;> first | rfl | cases h
theorem ownP_map (p : Pl) (own : List Nat) : (ownP p own).map (·.2) = own → ∀ i, i ∈ own ↔ i ∈ (ownP p own).map (·.2) := fun h i => by rw [h]
/-! ### built-ins of one argument -/
theorem b1_pe (C : Ck GmU cl k X W p) {f : B1} {y : Str} {x : Expr} {a : E} {fa : DEnv → OV} {q pos : Pos} (h1 : b1n f = some y) (h2 : glOk p y = true) (ns : notStar x = true) (ha : PE X x (tN X.F cl W a fa)) :
    PE X (.Call (.Name y q) [x] [] pos) (tF X.F cl W fun ρ => (fa ρ).bind fun z => Out.ofOpt ((opd a z.1 z.2).bind (b1X f)) z.2) := by
  obtain ⟨hg, hd⟩ := C.glo h2
  have st := starEach_cons ns [] X.env
  have bB : ∀ {id : String} {g : PyData → Option PyData}, CallR X (.builtin id) (rc1 X.F g) → y ∈ bnames → bootBuiltins y = some (.builtin id) → y ≠ "__name__" → PE X (.Call (.Name y q) [x] [] pos) (tF X.F cl W fun ρ => (fa ρ).bind fun z => Out.ofOpt ((opd a z.1 z.2).bind g) z.2) :=
    fun hc m hv hn => pe_c1 (fun t ht => pe_callB hc hg (C.fr y m) hv ht hn hd st rfl) ns ha
  have bT : ∀ {T : String} {g : PyData → Option PyData}, CallR X (.type T) (rc1 X.F g) → y ∈ bnames → bootBuiltins y = some (.type T) → y ≠ "__name__" → PE X (.Call (.Name y q) [x] [] pos) (tF X.F cl W fun ρ => (fa ρ).bind fun z => Out.ofOpt ((opd a z.1 z.2).bind g) z.2) :=
    fun hc m hv hn => pe_c1 (fun t ht => pe_callTy hc hg (C.fr y m) hv ht hn hd st rfl) ns ha
  cases f <;> first | (cases h1; done) | skip
  · cases h1; exact bB cr_len (by decide) (by decide +kernel) (by decide)
  · cases h1; exact bT cr_int (by decide) PyProof.Rows.boot_int (by decide)
  · cases h1; exact bT (cr_list C.calm) (by decide) PyProof.Rows.boot_list (by decide)
  · cases h1; exact bT cr_tuple (by decide) PyProof.Rows.boot_tuple (by decide)
  · cases h1; exact bB (cr_all C.calm) (by decide) PyProof.Rows.boot_all (by decide)
  · cases h1; exact bB (cr_any C.calm) (by decide) PyProof.Rows.boot_any (by decide)
  · cases h1; exact bB (cr_sumD C.calm) (by decide) PyProof.Rows.boot_sum (by decide)
  · cases h1; exact bB (cr_repr C.room C.gd C.one) (by decide) PyProof.Rows.boot_repr (by decide)
  · cases h1; exact bT cr_dictD (by decide) PyProof.Rows.boot_dict (by decide)
  · cases h1; exact bB cr_abs (by decide) (by decide +kernel) (by decide)
  · cases h1; exact bT (cr_dictP C.room C.calm) (by decide) PyProof.Rows.boot_dict (by decide)
theorem tysAt_of (C : Ck GmU cl k X W p) {ts : List String} : ∀ {es : List Expr}, tysOk p ts es = true → TysAt X ts es := by
  induction ts with
  | nil =>
    intro es h
    cases es with
    | nil => exact .nil
    | cons _ _ => cases h
  | cons t ts ih =>
    intro es h
    cases es with
    | nil => cases h
    | cons e es =>
      cases e <;> first | (cases h; done) | skip
      obtain ⟨h, h3⟩ := and2 h
      obtain ⟨h1, h2⟩ := and2 h
      have tf := tyOk_fact h1
      exact .cons tf (C.glo h2).1 (C.fr _ tf.bn) (ih h3)
def tUp (t : TE) : TE := fun σ H Q => ∃ Q1, t σ H Q1 ∧ ∀ v H', Q1 v H' → Q v H'
theorem pe_up {t : TE} {e : Expr} (h : PE X e t) : PE X e (tUp t) := ⟨fun pins s σ H Q I ⟨Q1, a, b⟩ => thn (h.run pins s σ H Q1 I a) fun u s1 ⟨v, H', I', r, q⟩ => ⟨v, H', I', r, b v H' q⟩⟩
theorem pe_bitsD {ta : TE} {o : Expr} {apos pos : Pos} (hbase : attributeBase o "bit_length" X.env (eval o X.env) = eval o X.env) (hline : (apos.endLine == pos.line) = true) (h : PE X o ta) : PE X (.Call (.Attribute o "bit_length" apos) [] [] pos) (tUn (r1 false X.F (b1X .bits)) ta) :=
  pe_imp (pe_bits (pe_up h) hbase hline) fun σ H Q q => ⟨_, q, fun x H1 ⟨R, d1, d, sb, h1, q, kk⟩ => by
    cases d1 <;> simp only [b1X, b1D] at q <;> try (cases q; done)
    cases q
    exact ⟨_, h1.int, kk _ _ (.rp .refl (.int _))⟩⟩
theorem pe_upperD {ta : TE} {o : Expr} {apos pos : Pos} (hbase : attributeBase o "upper" X.env (eval o X.env) = eval o X.env) (hline : (apos.endLine == pos.line) = true) (h : PE X o ta) : PE X (.Call (.Attribute o "upper" apos) [] [] pos) (tUn (r1 false X.F (b1X .upper)) ta) :=
  pe_imp (pe_upper (pe_up h) hbase hline) fun σ H Q q => ⟨_, q, fun x H1 ⟨R, d1, d, sb, h1, q, kk⟩ => by
    cases d1 <;> simp only [b1X, b1D] at q <;> try (cases q; done)
    rename_i y
    split at q
    · rename_i hy
      cases q
      have hu := PyProof.Rows.len_upper y
      exact ⟨⟨y, h1.str.1⟩, y, h1.str.1, rfl, by omega, kk _ _ (.rp .refl (.str _ (by rw [sizeLine_eq]; omega)))⟩
    · cases q⟩
end
end DL
set_option Elab.async false
set_option linter.all false
set_option maxRecDepth 100000
set_option maxHeartbeats 4000000
/-! DL, part v: the evaluator tells the truth of expressions, by their build. -/
namespace DL
open PySem PySem.Spec PyProof.Rows L2
abbrev evGmU (GmU : Env2) (e : E) : DEnv → OV := ev GmU.GT GmU.PhU GmU.RF GmU.KP e
abbrev evsGmU (GmU : Env2) (es : List E) : DEnv → Out (List PyData × DEnv) := evs GmU.GT GmU.PhU GmU.RF GmU.KP es
section
variable {GmU : Env2} {cl : Cls} {k : Nat}
def SndE (GmU : Env2) (cl : Cls) (k : Nat) (e : E) : Prop := ∀ {X : Cx} {W : XK} {p : Pl}, Ck GmU cl k X W p → ∀ ex, chkE GmU p e ex = true → PE X ex (tN X.F cl W e (evGmU GmU e))
theorem snd_v (i : Nat) : SndE GmU cl k (.v i) := fun {X W p} C ex h => by
  cases ex <;> first | (cases h; done) | skip
  exact of_tV rfl rfl (pe_getV (C.var h))
theorem snd_bor (i : Nat) : SndE GmU cl k (.bor i) := fun {X W p} C ex h => by
  cases ex <;> first | (cases h; done) | skip
  exact pe_getB (C.var h)
theorem snd_k (d : PyData) : SndE GmU cl k (.k d) := fun {X W p} C ex h => by
  cases ex <;> first | (cases h; done) | skip
  exact of_tV rfl rfl (kOk_pe h)
theorem snd_g (j : Nat) : SndE GmU cl k (.g j) := fun {X W p} C ex h => by
  cases ex <;> first | (cases h; done) | skip
  exact of_tV rfl rfl (gOk_pe C h)
theorem snd_bin (o : BinO) {a b : E} (ia : SndE GmU cl k a) (ib : SndE GmU cl k b) : SndE GmU cl k (.bin o a b) := fun {X W p} C ex h => by
  cases ex <;> first | (cases h; done) | skip
  obtain ⟨h, h3⟩ := and2 h
  obtain ⟨h1, h2⟩ := and2 h
  have e := of_decide_eq_true h1
  subst e
  exact pe_two (bb := false) rfl (fun z => nomatch z) (fun ta tb pa pb => pe_op (op_binD o) pa pb) (ia C _ h2) (ib C _ h3)
theorem snd_cmp (o : CmpO) {a b : E} (ia : SndE GmU cl k a) (ib : SndE GmU cl k b) : SndE GmU cl k (.cmp o a b) := fun {X W p} C ex h => by
  cases ex <;> first | (cases h; done) | skip
  rename_i x ops ys pos
  match ops, ys, h with
  | [op], [y], h =>
    obtain ⟨h, h4⟩ := and2 h
    obtain ⟨h, h3⟩ := and2 h
    obtain ⟨h1, h2⟩ := and2 h
    have e := of_decide_eq_true h1
    subst e
    exact pe_two (bb := false) rfl (fun z => nomatch z) (fun ta tb pa pb => pe_cmpR (op_cmpD C.room o) pa pb (by simpa using h2)) (ia C _ h3) (ib C _ h4)
theorem snd_isN (neg : Bool) {a : E} (ia : SndE GmU cl k a) : SndE GmU cl k (.isN neg a) := fun {X W p} C ex h => by
  cases ex <;> first | (cases h; done) | skip
  rename_i x ops ys pos
  match ops, ys, h with
  | [op], [.Constant .none _ _], h =>
    obtain ⟨h, h3⟩ := and2 h
    obtain ⟨h1, h2⟩ := and2 h
    have pa := to_tV (nbE h2) (ia C _ h3)
    have e := of_decide_eq_true h1
    cases neg with
    | false =>
      have e : op = .Is := e
      subst e
      refine of_tV rfl rfl (pe_imp (pe_isND pa) fun σ H Q q => ?_)
      have eq : (evGmU GmU (.isN false a)) = fun ρ => (evGmU GmU a ρ).bind fun x => .ok (.bool (isNoneD x.1), x.2) := funext fun ρ => congrArg ((evGmU GmU a ρ).bind) (funext fun x => by
        obtain ⟨d, ρ1⟩ := x
        cases d <;> rfl)
      rw [eq] at q
      exact q
    | true =>
      have e : op = .IsNot := e
      subst e
      refine of_tV rfl rfl (pe_imp (pe_notND pa) fun σ H Q q => ?_)
      have eq : (evGmU GmU (.isN true a)) = fun ρ => (evGmU GmU a ρ).bind fun x => .ok (.bool (!isNoneD x.1), x.2) := funext fun ρ => congrArg ((evGmU GmU a ρ).bind) (funext fun x => by
        obtain ⟨d, ρ1⟩ := x
        cases d <;> rfl)
      rw [eq] at q
      exact q
theorem snd_chain (o1 o2 : CmpO) {a b c : E} (ia : SndE GmU cl k a) (ib : SndE GmU cl k b) (ic : SndE GmU cl k c) : SndE GmU cl k (.chain o1 o2 a b c) := fun {X W p} C ex h => by
  cases ex <;> first | (cases h; done) | skip
  rename_i x ops ys pos
  match ops, ys, h with
  | [p1, p2], [y, z], h =>
    obtain ⟨h, h9⟩ := and2 h
    obtain ⟨h, h8⟩ := and2 h
    obtain ⟨h, h7⟩ := and2 h
    obtain ⟨h, h6⟩ := and2 h
    obtain ⟨h, h5⟩ := and2 h
    obtain ⟨h, h4⟩ := and2 h
    obtain ⟨h, h3⟩ := and2 h
    obtain ⟨h1, h2⟩ := and2 h
    have e1 := of_decide_eq_true h1
    have e2 := of_decide_eq_true h2
    subst e1 e2
    exact of_tV rfl rfl (pe_chainD C.room (by simpa using h3) (to_tV (nbE h4) (ia C _ h7)) (to_tV (nbE h5) (ib C _ h8)) (to_tV (nbE h6) (ic C _ h9)))
theorem snd_not {a : E} (ia : SndE GmU cl k a) : SndE GmU cl k (.not a) := fun {X W p} C ex h => by
  cases ex <;> first | (cases h; done) | skip
  rename_i op x pos
  cases op <;> first | (cases h; done) | skip
  exact of_tV rfl rfl (pe_notD (ia C _ h))
theorem snd_sub {a i : E} (ia : SndE GmU cl k a) (ii : SndE GmU cl k i) : SndE GmU cl k (.sub a i) := fun {X W p} C ex h => by
  cases ex <;> first | (cases h; done) | skip
  obtain ⟨h, h3⟩ := and2 h
  obtain ⟨h1, h2⟩ := and2 h
  exact pe_two (bb := true) rfl (fun _ => rfl) (fun ta tb pa pb => pe_ix (ix_D C.room) pa pb (plainIx h1)) (ia C _ h2) (ii C _ h3)
theorem snd_rev {a : E} (ia : SndE GmU cl k a) : SndE GmU cl k (.rev a) := fun {X W p} C ex h => by
  cases ex <;> first | (cases h; done) | skip
  rename_i x sl pos
  cases sl <;> first | (cases h; done) | skip
  rename_i lo hi st sp
  match lo, hi, st, h with
  | none, none, some (.UnaryOp .USub (.Constant (.int 1) _ _) _), h =>
    obtain ⟨h1, h2⟩ := and2 h
    exact pe_revD rfl (ia C _ h2) (nbE h1)
theorem snd_b2 (f : B2) {a b : E} (ia : SndE GmU cl k a) (ib : SndE GmU cl k b) : SndE GmU cl k (.b2 f a b) := fun {X W p} C ex h => by
  cases ex <;> first | (cases h; done) | skip
  rename_i fn args kws pos
  match fn, args, kws, h with
  | .Name n _, [x, y], [], h =>
    obtain ⟨h, h6⟩ := and2 h
    obtain ⟨h, h5⟩ := and2 h
    obtain ⟨h, h4⟩ := and2 h
    obtain ⟨h, h3⟩ := and2 h
    obtain ⟨h1, h2⟩ := and2 h
    have e := of_decide_eq_true h1
    obtain ⟨hg, hd⟩ := C.glo h2
    cases f with
    | index => cases e
    | max =>
      cases e
      exact of_tF rfl (pe_c2 (fun t ht => pe_callB (cr_max2 C.calm) hg (C.fr _ (by decide)) PyProof.Rows.boot_max ht (by decide) (by decide) (starEach_cons h3 _ X.env) (by rw [starEach_cons h4]; rfl)) h3 h4 (ia C _ h5) (ib C _ h6))
    | min =>
      cases e
      exact of_tF rfl (pe_c2 (fun t ht => pe_callB (cr_min2 C.calm) hg (C.fr _ (by decide)) PyProof.Rows.boot_min ht (by decide) (by decide) (starEach_cons h3 _ X.env) (by rw [starEach_cons h4]; rfl)) h3 h4 (ia C _ h5) (ib C _ h6))
theorem snd_b1 (f : B1) {a : E} (ia : SndE GmU cl k a) : SndE GmU cl k (.b1 f a) := fun {X W p} C ex h => by
  cases ex <;> first | (cases h; done) | skip
  · rename_i op x pos
    cases op <;> first | (cases h; done) | skip
    obtain ⟨h1, h2⟩ := and2 h
    cases f <;> first | (cases h1; done) | skip
    exact pe_one1 (bb := false) rfl (fun z => nomatch z) (fun ta pa => pe_un un_negD pa) (ia C _ h2)
  · rename_i fn args kws pos
    match fn, args, kws, h with
    | .Name n _, [x], [], h =>
      rcases (Bool.or_eq_true _ _).mp h with h | h
      · obtain ⟨h, h4⟩ := and2 h
        obtain ⟨h, h3⟩ := and2 h
        obtain ⟨h1, h2⟩ := and2 h
        exact of_tF rfl (b1_pe C (of_decide_eq_true h1) h2 h3 (ia C _ h4))
      · obtain ⟨h, h3⟩ := and2 h
        obtain ⟨h1, h2⟩ := and2 h
        cases f <;> first | (cases h1; done) | skip
        obtain ⟨e, hg⟩ := and2 h2
        have e := of_decide_eq_true e
        subst e
        have hi := C.glo hg
        cases x <;> first | (cases h3; done) | skip
        rename_i fn2 args2 kws2 pos2 _
        match fn2, args2, kws2, h3 with
        | .Attribute o m apos, [], [], h3 =>
          obtain ⟨h3, g4⟩ := and2 h3
          obtain ⟨h3, g3⟩ := and2 h3
          obtain ⟨g1, g2⟩ := and2 h3
          have e := of_decide_eq_true g1
          subst e
          exact of_tF rfl (pe_itemsLD C.calm hi.1 (C.fr _ (by decide)) (base_ok g2 _ X.env) g3 (ia C _ g4))
    | .Attribute x m apos, [], [], h =>
      obtain ⟨h, h4⟩ := and2 h
      obtain ⟨h, h3⟩ := and2 h
      obtain ⟨h1, h2⟩ := and2 h
      have e := of_decide_eq_true h1
      cases f <;> first | (cases e; done) | skip
      · cases e
        exact pe_one1 (bb := false) rfl (fun z => nomatch z) (fun ta pa => pe_bitsD (base_ok h2 _ X.env) h3 pa) (ia C _ h4)
      · cases e
        exact pe_one1 (bb := false) rfl (fun z => nomatch z) (fun ta pa => pe_upperD (base_ok h2 _ X.env) h3 pa) (ia C _ h4)
theorem snd_isa (ts : List String) {a : E} (ia : SndE GmU cl k a) : SndE GmU cl k (.isa ts a) := fun {X W p} C ex h => by
  cases ex <;> first | (cases h; done) | skip
  rename_i fn args kws pos
  match fn, args, kws, h with
  | .Name n _, [x, ty], [], h =>
    obtain ⟨h, h5⟩ := and2 h
    obtain ⟨h, h4⟩ := and2 h
    obtain ⟨h, h3⟩ := and2 h
    obtain ⟨h1, h2⟩ := and2 h
    obtain ⟨e, hg⟩ := and2 h1
    have e := of_decide_eq_true e
    subst e
    have hi := C.glo hg
    cases ty <;> first | (cases h4; done) | skip
    · rename_i y py _
      have h4 : tysOk p ts [.Name y py] = true := h4
      have q := tysAt_of C h4
      cases q with
      | cons tf g m r =>
        cases r
        exact of_tF rfl (pe_isa1 tf hi.1 (C.fr _ (by decide)) g m h2 (nbE h3) (ia C _ h5))
    · rename_i es kx tp _
      obtain ⟨hl, ht⟩ := and2 h4
      exact of_tF rfl (pe_isaT (tysAt_of C ht) (of_decide_eq_true hl) hi.1 (C.fr _ (by decide)) h2 (nbE h3) (ia C _ h5))
theorem snd_popA (i : Nat) {a : E} (ia : SndE GmU cl k a) : SndE GmU cl k (.popA i a) := fun {X W p} C ex h => by
  cases ex <;> first | (cases h; done) | skip
  rename_i fn args kws pos
  match fn, args, kws, h with
  | .Attribute (.Name x _) m apos, [y], [], h =>
    obtain ⟨h, h6⟩ := and2 h
    obtain ⟨h, h5⟩ := and2 h
    obtain ⟨h, h4⟩ := and2 h
    obtain ⟨h, h3⟩ := and2 h
    obtain ⟨h1, h2⟩ := and2 h
    have e := of_decide_eq_true h1
    subst e
    exact of_tV rfl rfl (pe_popD (C.var h3) rfl h2 h4 (nbE h5) (ia C _ h6))
end
end DL
set_option Elab.async false
set_option linter.all false
set_option maxRecDepth 100000
set_option maxHeartbeats 4000000
/-! DL, part w: tests, lists, comprehensions; all together. -/
namespace DL
open PySem PySem.Spec PyProof.Rows L2
section
variable {GmU : Env2} {cl : Cls} {k : Nat}
def SndT (GmU : Env2) (cl : Cls) (k : Nat) (e : E) : Prop := ∀ {X : Cx} {W : XK} {p : Pl}, Ck GmU cl k X W p → ∀ ex, chkE GmU p e ex = true → PT X ex (tT X.F cl W fun ρ => tru e (evGmU GmU e ρ))
def SndA (GmU : Env2) (cl : Cls) (k : Nat) (es : List E) : Prop := ∀ {X : Cx} {W : XK} {p : Pl}, Ck GmU cl k X W p → ∀ xs, chkEs GmU p es xs = true → PA X xs (tA X.F cl W es (evsGmU GmU es)) ∧ xs.all notStar = true
/-- and, or: as values, as tests -/
def SndB (GmU : Env2) (cl : Cls) (k : Nat) (es : List E) : Prop := ∀ {X : Cx} {W : XK} {p : Pl}, Ck GmU cl k X W p → ∀ xs, chkBs GmU p es xs = true → ∀ pos,
  PE X (.BoolOp .And xs pos) (tV X.F cl W (evAnd GmU.GT GmU.PhU GmU.RF GmU.KP es)) ∧ PE X (.BoolOp .Or xs pos) (tV X.F cl W (evOr GmU.GT GmU.PhU GmU.RF GmU.KP es)) ∧
  PW X (.BoolOp .And xs pos) (tT X.F cl W fun ρ => tru (.k .none) (evAnd GmU.GT GmU.PhU GmU.RF GmU.KP es ρ)) ∧ PW X (.BoolOp .Or xs pos) (tT X.F cl W fun ρ => tru (.k .none) (evOr GmU.GT GmU.PhU GmU.RF GmU.KP es ρ))
def SndO (GmU : Env2) (cl : Cls) (k : Nat) (o : Option E) : Prop := ∀ {X : Cx} {W : XK} {p : Pl}, Ck GmU cl k X W p → ∀ x, chkO GmU p o x = true → PO X x (tO X.F cl W (evo GmU.GT GmU.PhU GmU.RF GmU.KP o))
def SndQ (GmU : Env2) (cl : Cls) (k : Nat) (o : Option E) : Prop := ∀ {X : Cx} {W : XK} {p : Pl}, Ck GmU cl k X W p → ∀ xs, chkQ GmU p o xs = true → PTs X xs (tT X.F cl W (evq GmU.GT GmU.PhU GmU.RF GmU.KP o))
def SndI (GmU : Env2) (cl : Cls) (k : Nat) (it : It) : Prop := ∀ {X : Cx} {W : XK} {p : Pl}, Ck GmU cl k X W p → ∀ te x, chkI GmU p te it x = true → PI X te x (wiD X.F cl W it (evi GmU.GT GmU.PhU GmU.RF GmU.KP it))
theorem tru_e {e : E} (h : isBor e = none) (o : OV) : tru e o = tru (.k .none) o := by
  cases o with
  | ok x =>
    show Out.ofOpt ((opd e x.1 x.2).map _) x.2 = _
    rw [opd_plain h]
    rfl
  | exc c d => rfl
  | bad => rfl
theorem snd_A0 : SndA GmU cl k [] := fun {X W p} C xs h => by
  cases xs with
  | nil => exact ⟨pa_nilD, rfl⟩
  | cons _ _ => cases h
theorem snd_A1 {e : E} {es : List E} (ie : SndE GmU cl k e) (is : SndA GmU cl k es) : SndA GmU cl k (e :: es) := fun {X W p} C xs h => by
  cases xs with
  | nil => cases h
  | cons x xs =>
    obtain ⟨h, h3⟩ := and2 h
    obtain ⟨h1, h2⟩ := and2 h
    obtain ⟨p1, p2⟩ := is C xs h3
    exact ⟨pa_consD h1 (ie C x h2) p1, by rw [List.all_cons, h1, p2]; rfl⟩
theorem snd_B0 : SndB GmU cl k [] := fun {X W p} C xs h => by cases xs <;> cases h
theorem snd_B1 {e : E} (ie : SndE GmU cl k e) (it : SndT GmU cl k e) : SndB GmU cl k [e] := fun {X W p} C xs h pos => by
  match xs, h with
  | [x], h =>
    obtain ⟨h1, h2⟩ := and2 h
    have pe := to_tV (nbE h1) (ie C x h2)
    have pt := it C x h2
    simp only [tru_e (nbE h1)] at pt
    exact ⟨pe_one pe, pe_one pe, pw_and1 pt, pw_or1 pt⟩
  | x :: y :: xs, h =>
    obtain ⟨h, h3⟩ := and2 h
    cases xs <;> cases h3
theorem snd_B2 {e e2 : E} {es : List E} (ie : SndE GmU cl k e) (it : SndT GmU cl k e) (is : SndB GmU cl k (e2 :: es)) : SndB GmU cl k (e :: e2 :: es) := fun {X W p} C xs h pos => by
  match xs, h with
  | x :: y :: xs, h =>
    obtain ⟨h, h3⟩ := and2 h
    obtain ⟨h1, h2⟩ := and2 h
    have pe := to_tV (nbE h1) (ie C x h2)
    have pt := it C x h2
    simp only [tru_e (nbE h1)] at pt
    obtain ⟨q1, q2, q3, q4⟩ := is C (y :: xs) h3 pos
    exact ⟨pe_andD pe q1, pe_orD pe q2, pw_andD pt q3, pw_orD pt q4⟩
theorem snd_and {es : List E} (is : SndB GmU cl k es) : SndE GmU cl k (.andL es) ∧ SndT GmU cl k (.andL es) := by
  refine ⟨fun {X W p} C ex h => ?_, fun {X W p} C ex h => ?_⟩
  · cases ex <;> first | (cases h; done) | skip
    rename_i op xs pos
    cases op <;> first | (cases h; done) | skip
    exact of_tV rfl rfl (is C xs h pos).1
  · cases ex <;> first | (cases h; done) | skip
    rename_i op xs pos
    cases op <;> first | (cases h; done) | skip
    exact ((is C xs h pos).2.2.1).pt
theorem snd_or {es : List E} (is : SndB GmU cl k es) : SndE GmU cl k (.orL es) ∧ SndT GmU cl k (.orL es) := by
  refine ⟨fun {X W p} C ex h => ?_, fun {X W p} C ex h => ?_⟩
  · cases ex <;> first | (cases h; done) | skip
    rename_i op xs pos
    cases op <;> first | (cases h; done) | skip
    exact of_tV rfl rfl (is C xs h pos).2.1
  · cases ex <;> first | (cases h; done) | skip
    rename_i op xs pos
    cases op <;> first | (cases h; done) | skip
    exact ((is C xs h pos).2.2.2).pt
/-- a test by its value -/
theorem snd_T {e : E} (ie : SndE GmU cl k e) (hp : ∀ p ex, chkE GmU p e ex = true → plainT ex = true) : SndT GmU cl k e := fun {X W p} C ex h => pt_truD (hp p ex h) (ie C ex h)
theorem snd_Tnot {a : E} (ia : SndT GmU cl k a) : SndT GmU cl k (.not a) := fun {X W p} C ex h => by
  cases ex <;> first | (cases h; done) | skip
  rename_i op x pos
  cases op <;> first | (cases h; done) | skip
  refine pt_imp (pt_notD (ia C x h)) fun σ H Q ⟨R0, H0, G, ρ, R, S, q⟩ => ⟨R0, H0, G, ρ, R, S, ?_⟩
  have e : tru (.not a) (evGmU GmU (.not a) ρ) = (tru a (evGmU GmU a ρ)).bind fun x => .ok (!x.1, x.2) := by
    show tru (.not a) ((evGmU GmU a ρ).bind _) = _
    unfold tru
    cases evGmU GmU a ρ with
    | bad => rfl
    | exc c d => rfl
    | ok x =>
      show Out.bind (Out.ofOpt ((opd a x.1 x.2).map fun d => PyData.bool (!d.truthy)) x.2) _ = (Out.ofOpt ((opd a x.1 x.2).map (·.truthy)) x.2).bind _
      cases opd a x.1 x.2 with
      | none => rfl
      | some d => rfl
  have q : ResT X.F cl W R0 H0 G σ R Q (tru (.not a) (evGmU GmU (.not a) ρ)) := q
  rw [e] at q
  exact q
theorem snd_Tcmp (o : CmpO) {a b : E} (ia : SndE GmU cl k a) (ib : SndE GmU cl k b) : SndT GmU cl k (.cmp o a b) := fun {X W p} C ex h => by
  cases ex <;> first | (cases h; done) | skip
  rename_i x ops ys pos
  match ops, ys, h with
  | [op], [y], h =>
    obtain ⟨h, h4⟩ := and2 h
    obtain ⟨h, h3⟩ := and2 h
    obtain ⟨h1, h2⟩ := and2 h
    have e := of_decide_eq_true h1
    subst e
    refine pt_boolV (f := evGmU GmU (.cmp o a b)) (pt_cmpR (op_cmpD C.room o) (pe_frz (ia C _ h3)) (pe_frz (ib C _ h4)) (by simpa using h2)) (fun ρ d ρ' e => by
      have e : ((evGmU GmU a ρ).bind fun x => (evGmU GmU b x.2).bind fun y => Out.ofOpt (two (cmpB o) a b x.1 y.1 y.2) y.2) = .ok (d, ρ') := e
      cases e1 : evGmU GmU a ρ with
      | bad => rw [e1] at e; cases e
      | exc c d => rw [e1] at e; cases e
      | ok x =>
        rw [e1] at e
        simp only [Out.bind] at e
        cases e2 : evGmU GmU b x.2 with
        | bad => rw [e2] at e; cases e
        | exc c d => rw [e2] at e; cases e
        | ok y =>
          rw [e2] at e
          simp only at e
          cases e3 : two (cmpB o) a b x.1 y.1 y.2 with
          | none => rw [e3] at e; cases e
          | some d' =>
            rw [e3] at e
            cases e
            unfold two at e3
            obtain ⟨d1, _, e3⟩ := Option.bind_eq_some_iff.mp e3
            obtain ⟨d2, _, e3⟩ := Option.bind_eq_some_iff.mp e3
            obtain ⟨c, _, rfl⟩ := cmpB_some e3
            exact ⟨c, rfl⟩) fun σ H Q h => t_two (bb := false) (e := .k .none) rfl (fun z => nomatch z) h
theorem snd_TisN (neg : Bool) {a : E} (ia : SndE GmU cl k a) : SndT GmU cl k (.isN neg a) := fun {X W p} C ex h => by
  cases ex <;> first | (cases h; done) | skip
  rename_i x ops ys pos
  match ops, ys, h with
  | [op], [.Constant .none _ _], h =>
    obtain ⟨h, h3⟩ := and2 h
    obtain ⟨h1, h2⟩ := and2 h
    have pa := to_tV (nbE h2) (ia C _ h3)
    have e := of_decide_eq_true h1
    have hb : ∀ ρ d ρ', evGmU GmU (.isN neg a) ρ = .ok (d, ρ') → ∃ b, d = .bool b := fun ρ d ρ' e => by
      have e : ((evGmU GmU a ρ).bind fun x => .ok (.bool (match x.1 with | .none => !neg | _ => neg), x.2)) = Out.ok (d, ρ') := e
      cases e1 : evGmU GmU a ρ with
      | bad => rw [e1] at e; cases e
      | exc c d => rw [e1] at e; cases e
      | ok x => rw [e1] at e; cases e; exact ⟨_, rfl⟩
    cases neg with
    | false =>
      have e : op = .Is := e
      subst e
      have eq : (evGmU GmU (.isN false a)) = fun ρ => (evGmU GmU a ρ).bind fun x => .ok (.bool (isNoneD x.1), x.2) := funext fun ρ => congrArg ((evGmU GmU a ρ).bind) (funext fun x => by
        obtain ⟨d, ρ1⟩ := x
        cases d <;> rfl)
      exact pt_boolV (f := evGmU GmU (.isN false a)) (pt_cmp (pc_isN (pe_frz pa))) hb fun σ H Q h => t_isN (by rw [eq] at h; exact h)
    | true =>
      have e : op = .IsNot := e
      subst e
      have eq : (evGmU GmU (.isN true a)) = fun ρ => (evGmU GmU a ρ).bind fun x => .ok (.bool (!isNoneD x.1), x.2) := funext fun ρ => congrArg ((evGmU GmU a ρ).bind) (funext fun x => by
        obtain ⟨d, ρ1⟩ := x
        cases d <;> rfl)
      exact pt_boolV (f := evGmU GmU (.isN true a)) (pt_cmp (pc_notN (pe_frz pa))) hb fun σ H Q h => t_notN (by rw [eq] at h; exact h)
theorem snd_Tchain (o1 o2 : CmpO) {a b c : E} (ia : SndE GmU cl k a) (ib : SndE GmU cl k b) (ic : SndE GmU cl k c) : SndT GmU cl k (.chain o1 o2 a b c) := fun {X W p} C ex h => by
  cases ex <;> first | (cases h; done) | skip
  rename_i x ops ys pos
  match ops, ys, h with
  | [p1, p2], [y, z], h =>
    obtain ⟨h, h9⟩ := and2 h
    obtain ⟨h, h8⟩ := and2 h
    obtain ⟨h, h7⟩ := and2 h
    obtain ⟨h, h6⟩ := and2 h
    obtain ⟨h, h5⟩ := and2 h
    obtain ⟨h, h4⟩ := and2 h
    obtain ⟨h, h3⟩ := and2 h
    obtain ⟨h1, h2⟩ := and2 h
    have e1 := of_decide_eq_true h1
    have e2 := of_decide_eq_true h2
    subst e1 e2
    exact pt_chainD C.room (by simpa using h3) (to_tV (nbE h4) (ia C _ h7)) (to_tV (nbE h5) (ib C _ h8)) (to_tV (nbE h6) (ic C _ h9))
theorem snd_ite {c a b : E} (tc : SndT GmU cl k c) (ia : SndE GmU cl k a) (ib : SndE GmU cl k b) (ta : SndT GmU cl k a) (tb : SndT GmU cl k b) : SndE GmU cl k (.ite c a b) ∧ SndT GmU cl k (.ite c a b) := by
  refine ⟨fun {X W p} C ex h => ?_, fun {X W p} C ex h => ?_⟩
  · cases ex <;> first | (cases h; done) | skip
    obtain ⟨h, h5⟩ := and2 h
    obtain ⟨h, h4⟩ := and2 h
    obtain ⟨h, h3⟩ := and2 h
    obtain ⟨h1, h2⟩ := and2 h
    exact of_tV rfl rfl (pe_iteD (tc C _ h3) (to_tV (nbE h1) (ia C _ h4)) (to_tV (nbE h2) (ib C _ h5)))
  · cases ex <;> first | (cases h; done) | skip
    obtain ⟨h, h5⟩ := and2 h
    obtain ⟨h, h4⟩ := and2 h
    obtain ⟨h, h3⟩ := and2 h
    obtain ⟨h1, h2⟩ := and2 h
    refine pt_imp (pt_iteD (tc C _ h3) (ta C _ h4) (tb C _ h5)) fun σ H Q ⟨R0, H0, G, ρ, R, S, q⟩ => ⟨R0, H0, G, ρ, R, S, ?_⟩
    have e : tru (.ite c a b) (evGmU GmU (.ite c a b) ρ) = (tru c (evGmU GmU c ρ)).bind fun x => if x.1 then tru a (evGmU GmU a x.2) else tru b (evGmU GmU b x.2) := by
      show tru (.ite c a b) ((tru c (evGmU GmU c ρ)).bind fun x => if x.1 then evGmU GmU a x.2 else evGmU GmU b x.2) = _
      rw [tru_e rfl]
      cases tru c (evGmU GmU c ρ) with
      | bad => rfl
      | exc c d => rfl
      | ok x =>
        show tru (.k .none) (if x.1 then evGmU GmU a x.2 else evGmU GmU b x.2) = if x.1 then _ else _
        rw [tru_e (nbE h1), tru_e (nbE h2)]
        cases x.1 <;> rfl
    have q : ResT X.F cl W R0 H0 G σ R Q (tru (.ite c a b) (evGmU GmU (.ite c a b) ρ)) := q
    rw [e] at q
    exact q
theorem snd_tup {es : List E} (is : SndA GmU cl k es) : SndE GmU cl k (.tup es) := fun {X W p} C ex h => by
  cases ex <;> first | (cases h; done) | skip
  obtain ⟨h, h3⟩ := and2 h
  obtain ⟨h1, h2⟩ := and2 h
  exact of_tF rfl (pe_tupD (is C _ h3).1 h1 (of_decide_eq_true h2))
theorem snd_lst {es : List E} (is : SndA GmU cl k es) : SndE GmU cl k (.lst es) := fun {X W p} C ex h => by
  cases ex <;> first | (cases h; done) | skip
  obtain ⟨h, h3⟩ := and2 h
  obtain ⟨h1, h2⟩ := and2 h
  exact of_tF rfl (pe_lstD (is C _ h3).1 h1 (of_decide_eq_true h2))
def SndD (GmU : Env2) (cl : Cls) (k : Nat) (es : List E) : Prop := ∀ {X : Cx} {W : XK} {p : Pl}, Ck GmU cl k X W p → ∀ ks vs, es.all nb = true → chkDs GmU p es ks vs = true →
  ks.all (·.isSome) = true ∧ ks.length = vs.length ∧ ∀ pos, ∃ trs, PPs X pos ks vs trs ∧ ∀ σ H Qp, tDs X.F cl W ks.length (evsGmU GmU es) σ H Qp → tPairs trs σ H Qp
theorem snd_D0 : SndD GmU cl k [] := fun {X W p} C ks vs hn h => by
  cases ks <;> cases vs <;> first | (cases h; done) | skip
  exact ⟨rfl, rfl, fun pos => ⟨[], pps_nil, fun σ H Qp q => tds_nil q⟩⟩
theorem snd_D1 {e : E} : SndD GmU cl k [e] := fun {X W p} C ks vs hn h => by
  cases ks <;> cases vs <;> cases h
theorem snd_D2 {a b : E} {es : List E} (ia : SndE GmU cl k a) (ib : SndE GmU cl k b) (is : SndD GmU cl k es) : SndD GmU cl k (a :: b :: es) := fun {X W p} C ks vs hn h => by
  match ks, vs, h with
  | some x :: ks, y :: vs, h =>
    obtain ⟨h, h3⟩ := and2 h
    obtain ⟨h1, h2⟩ := and2 h
    rw [List.all_cons, List.all_cons] at hn
    obtain ⟨n1, hn⟩ := and2 hn
    obtain ⟨n2, n3⟩ := and2 hn
    obtain ⟨g1, g2, g3⟩ := is C ks vs n3 h3
    refine ⟨by rw [List.all_cons, g1]; rfl, by rw [List.length_cons, List.length_cons, g2], fun pos => ?_⟩
    obtain ⟨trs, g4, g5⟩ := g3 pos
    exact ⟨_, pps_cons (pe_frz (ia C x h1)) (pe_frz (ib C y h2)) g4, fun σ H Qp q => tds_cons (nbE n1) (nbE n2) g5 q⟩
theorem snd_dct {es : List E} (is : SndD GmU cl k es) : SndE GmU cl k (.dct es) := fun {X W p} C ex h => by
  cases ex <;> first | (cases h; done) | skip
  rename_i ks vs pos
  rcases (Bool.or_eq_true _ _).mp h with h | h
  · obtain ⟨h, h3⟩ := and2 h
    obtain ⟨h1, h2⟩ := and2 h
    cases es <;> first | (cases h1; done) | skip
    cases ks <;> first | (cases h2; done) | skip
    cases vs <;> first | (cases h3; done) | skip
    exact of_tF rfl pe_dct0
  · obtain ⟨h, h4⟩ := and2 h
    obtain ⟨h, h3⟩ := and2 h
    obtain ⟨h1, h2⟩ := and2 h
    obtain ⟨g1, g2, g3⟩ := is C ks vs h3 h4
    obtain ⟨trs, g4, g5⟩ := g3 pos
    exact pe_dispD g4 g5 g1 g2 (fun z => by rw [z] at h2; cases h2) (of_decide_eq_true h1)
theorem snd_O0 : SndO GmU cl k none := fun {X W p} C x h => by
  cases x with
  | none => exact po_no
  | some _ => cases h
theorem snd_O1 {e : E} (ie : SndE GmU cl k e) : SndO GmU cl k (some e) := fun {X W p} C x h => by
  cases x with
  | none => cases h
  | some x =>
    obtain ⟨h1, h2⟩ := and2 h
    exact po_so (nbE h1) (pe_frz (ie C x h2))
theorem snd_sl {a : E} {lo hi : Option E} (ia : SndE GmU cl k a) (il : SndO GmU cl k lo) (ih : SndO GmU cl k hi) : SndE GmU cl k (.sl a lo hi) := fun {X W p} C ex h => by
  cases ex <;> first | (cases h; done) | skip
  rename_i x sl pos
  cases sl <;> first | (cases h; done) | skip
  rename_i l u st sp
  cases st with
  | some _ => cases h
  | none =>
    obtain ⟨h, h3⟩ := and2 h
    obtain ⟨h1, h2⟩ := and2 h
    exact pe_slD rfl (ia C _ h1) (il C _ h2) (ih C _ h3)
def SndK (GmU : Env2) (cl : Cls) (k : Nat) (es : List E) : Prop := ∀ {X : Cx} {W : XK} {p : Pl}, Ck GmU cl k X W p → ∀ kws, chkKs GmU p es kws = true → PK X kws (tA X.F cl W es (evsGmU GmU es))
theorem snd_K0 : SndK GmU cl k [] := fun {X W p} C kws h => by
  cases kws with
  | nil => exact pk_nilD
  | cons _ _ => cases h
theorem snd_K1 {e : E} {es : List E} (ie : SndE GmU cl k e) (is : SndK GmU cl k es) : SndK GmU cl k (e :: es) := fun {X W p} C kws h => by
  cases kws with
  | nil => cases h
  | cons q kws =>
    obtain ⟨n, v, q⟩ := q
    obtain ⟨h1, h2⟩ := and2 h
    exact pk_consD (ie C v h1) (is C kws h2)
theorem snd_callK (f : Nat) (ks : List Nat) {es : List E} (is : SndK GmU cl k es) : SndE GmU cl k (.callK f ks es) := fun {X W p} C ex h => by
  cases ex <;> first | (cases h; done) | skip
  rename_i fn args kws pos
  match fn, args, h with
  | .Name n _, [], h =>
    obtain ⟨h, h6⟩ := and2 h
    obtain ⟨h, h5⟩ := and2 h
    obtain ⟨h, h4⟩ := and2 h
    obtain ⟨h, h3⟩ := and2 h
    obtain ⟨h1, h2⟩ := and2 h
    have e := of_decide_eq_true h1
    subst e
    obtain ⟨ns, e1⟩ := Option.isSome_iff_exists.mp h4
    have e2 := of_decide_eq_true h5
    rw [e1] at e2
    obtain ⟨hg, hd⟩ := C.glo h2
    exact of_tV rfl rfl (pe_callKwD C.room C.gd C.tk (C.kws f ks ns e1) hg hd h3 e2.symm (is C kws h6))
theorem snd_call (f : Nat) {es : List E} (is : SndA GmU cl k es) : SndE GmU cl k (.call f es) := fun {X W p} C ex h => by
  cases ex <;> first | (cases h; done) | skip
  rename_i fn args kws pos
  match fn, args, kws, h with
  | .Name n _, [], [], h =>
    obtain ⟨h, h5⟩ := and2 h
    obtain ⟨h, h4⟩ := and2 h
    obtain ⟨h, h3⟩ := and2 h
    obtain ⟨h1, h2⟩ := and2 h
    cases h1
  | .Name n _, x :: xs, [], h =>
    obtain ⟨h, h5⟩ := and2 h
    obtain ⟨h, h4⟩ := and2 h
    obtain ⟨h, h3⟩ := and2 h
    obtain ⟨h1, h2⟩ := and2 h
    have e := of_decide_eq_true h2
    subst e
    obtain ⟨p1, p2⟩ := is C _ h5
    exact of_tV rfl rfl (pe_callD C.room C.gd C.tk (C.fns f h3) (C.glo h4).1 (C.glo h4).2 p2 p1)
theorem snd_Q0 : SndQ GmU cl k none := fun {X W p} C xs h => by
  cases xs with
  | nil => exact ⟨fun pins s σ H Q I ⟨R0, H0, G, ρ, R, S, q⟩ => pts_nil.run pins s σ H Q I (q R H S (Le.refl R))⟩
  | cons _ _ => cases h
theorem snd_Q1 {e : E} (ie : SndT GmU cl k e) : SndQ GmU cl k (some e) := fun {X W p} C xs h => by
  match xs, h with
  | [x], h => exact pts_one (ie C x h)
theorem snd_lc (own : List Nat) (tg : Tg) {it : It} {test : Option E} {elt : E} (ii : SndI GmU cl k it) (iq : SndQ GmU cl k test) (ie : SndE GmU cl k elt) : SndE GmU cl k (.lc own tg it test elt) := fun {X W p} C ex h => by
  cases ex <;> first | (cases h; done) | skip
  rename_i el gs scope pos
  match gs, h with
  | [⟨te, iter, ifs, kk⟩], h =>
    obtain ⟨h, h10⟩ := and2 h
    obtain ⟨h, h9⟩ := and2 h
    obtain ⟨h, h8⟩ := and2 h
    obtain ⟨h, h7⟩ := and2 h
    obtain ⟨h, h6⟩ := and2 h
    obtain ⟨h, h5⟩ := and2 h
    obtain ⟨h, h4⟩ := and2 h
    obtain ⟨h, h3⟩ := and2 h
    obtain ⟨h1, h2⟩ := and2 h
    have e0 := of_decide_eq_true h1
    subst e0
    have eo := of_decide_eq_true h3
    have ok : BlkOk X.N X.env.scope scope (ownP p own) := by
      rw [C.hN, C.hsc]
      exact blkOk_by h2
    have q := pe_lcD (X := X) (cm := cl) (W := W) (elt := el) (ifs := ifs) (pos := pos) (ee := elt) (ft := evq GmU.GT GmU.PhU GmU.RF GmU.KP test) (fe := evGmU GmU elt) C.calm C.nd (ii C te iter h7) ok (fun s H a cs fp => tgOk_pg (C.blk s H scope a cs fp) h8)
      (fun s H a cs fp => iq (C.blk s H scope a cs fp) ifs h9) (fun s H a cs fp => ie (C.blk s H scope a cs fp) el h10) (fold_ok h5 X.env)
      (fun i m => by rw [eo]; exact of_decide_eq_true (List.all_eq_true.mp h4 i m)) (nbE h6)
    rw [eo] at q
    exact of_tF rfl q
theorem tgTup {te : Expr} (h : (match te with | .Tuple _ _ _ => true | _ => false) = true) : ∃ es kk tp, te = .Tuple es kk tp := by
  cases te <;> first | exact ⟨_, _, _, rfl⟩ | cases h
theorem snd_Ie {a : E} (ia : SndE GmU cl k a) : SndI GmU cl k (.e a) := fun {X W p} C te x h => by
  obtain ⟨h1, h2⟩ := and2 h
  exact pi_eD (nbE h1) (ia C x h2)
theorem snd_Ir1 {a : E} (ia : SndE GmU cl k a) : SndI GmU cl k (.range1 a) := fun {X W p} C te x h => by
  cases x <;> first | (cases h; done) | skip
  rename_i fn args kws pos
  match fn, args, kws, h with
  | .Name n _, [y], [], h =>
    obtain ⟨h, h4⟩ := and2 h
    obtain ⟨h, h3⟩ := and2 h
    obtain ⟨h1, h2⟩ := and2 h
    obtain ⟨rfl, hg, hm⟩ := C.bn h1 (by decide)
    exact pi_rng1 hg hm h2 (nbE h3) (ia C _ h4)
theorem snd_Ir2 {a b : E} (ia : SndE GmU cl k a) (ib : SndE GmU cl k b) : SndI GmU cl k (.range2 a b) := fun {X W p} C te x h => by
  cases x <;> first | (cases h; done) | skip
  rename_i fn args kws pos
  match fn, args, kws, h with
  | .Name n _, [y, z], [], h =>
    obtain ⟨h, h7⟩ := and2 h
    obtain ⟨h, h6⟩ := and2 h
    obtain ⟨h, h5⟩ := and2 h
    obtain ⟨h, h4⟩ := and2 h
    obtain ⟨h, h3⟩ := and2 h
    obtain ⟨h1, h2⟩ := and2 h
    obtain ⟨rfl, hg, hm⟩ := C.bn h1 (by decide)
    exact pi_rng2 hg hm h2 h3 (nbE h4) (nbE h5) (ia C _ h6) (ib C _ h7)
theorem snd_Ien {a : E} (ia : SndE GmU cl k a) : SndI GmU cl k (.enum a) := fun {X W p} C te x h => by
  cases x <;> first | (cases h; done) | skip
  rename_i fn args kws pos
  match fn, args, kws, h with
  | .Name n _, [y], [], h =>
    obtain ⟨h, h5⟩ := and2 h
    obtain ⟨h, h4⟩ := and2 h
    obtain ⟨h, h3⟩ := and2 h
    obtain ⟨h1, h2⟩ := and2 h
    obtain ⟨rfl, hg, hm⟩ := C.bn h1 (by decide)
    obtain ⟨es, kk, tp, rfl⟩ := tgTup h5
    exact pi_enD hg hm h2 (nbE h3) (ia C _ h4)
theorem snd_Iz2 {a b : E} (ia : SndE GmU cl k a) (ib : SndE GmU cl k b) : SndI GmU cl k (.zip2 a b) := fun {X W p} C te x h => by
  cases x <;> first | (cases h; done) | skip
  rename_i fn args kws pos
  match fn, args, kws, h with
  | .Name n _, [y, z], [], h =>
    obtain ⟨h, h8⟩ := and2 h
    obtain ⟨h, h7⟩ := and2 h
    obtain ⟨h, h6⟩ := and2 h
    obtain ⟨h, h5⟩ := and2 h
    obtain ⟨h, h4⟩ := and2 h
    obtain ⟨h, h3⟩ := and2 h
    obtain ⟨h1, h2⟩ := and2 h
    obtain ⟨rfl, hg, hm⟩ := C.bn h1 (by decide)
    obtain ⟨es, kk, tp, rfl⟩ := tgTup h8
    exact pi_z2D hg hm h2 h3 (nbE h4) (nbE h5) (ia C _ h6) (ib C _ h7)
theorem snd_Iz3 {a b c : E} (ia : SndE GmU cl k a) (ib : SndE GmU cl k b) (ic : SndE GmU cl k c) : SndI GmU cl k (.zip3 a b c) := fun {X W p} C te x h => by
  cases x <;> first | (cases h; done) | skip
  rename_i fn args kws pos
  match fn, args, kws, h with
  | .Name n _, [y, z, w], [], h =>
    obtain ⟨h, h11⟩ := and2 h
    obtain ⟨h, h10⟩ := and2 h
    obtain ⟨h, h9⟩ := and2 h
    obtain ⟨h, h8⟩ := and2 h
    obtain ⟨h, h7⟩ := and2 h
    obtain ⟨h, h6⟩ := and2 h
    obtain ⟨h, h5⟩ := and2 h
    obtain ⟨h, h4⟩ := and2 h
    obtain ⟨h, h3⟩ := and2 h
    obtain ⟨h1, h2⟩ := and2 h
    obtain ⟨rfl, hg, hm⟩ := C.bn h1 (by decide)
    obtain ⟨es, kk, tp, rfl⟩ := tgTup h11
    exact pi_z3D hg hm h2 h3 h4 (nbE h5) (nbE h6) (nbE h7) (ia C _ h8) (ib C _ h9) (ic C _ h10)
theorem snd_Irev {a : E} (ia : SndE GmU cl k a) : SndI GmU cl k (.rev a) := fun {X W p} C te x h => by
  cases x <;> first | (cases h; done) | skip
  rename_i fn args kws pos
  match fn, args, kws, h with
  | .Name n _, [y], [], h =>
    obtain ⟨h, h4⟩ := and2 h
    obtain ⟨h, h3⟩ := and2 h
    obtain ⟨h1, h2⟩ := and2 h
    obtain ⟨rfl, hg, hm⟩ := C.bn h1 (by decide)
    exact pi_revD hg hm h2 (nbE h3) (ia C _ h4)
theorem snd_Iit {a : E} (ia : SndE GmU cl k a) : SndI GmU cl k (.items a) := fun {X W p} C te x h => by
  cases x <;> first | (cases h; done) | skip
  rename_i fn args kws pos
  match fn, args, kws, h with
  | .Attribute y m apos, [], [], h =>
    obtain ⟨h, h6⟩ := and2 h
    obtain ⟨h, h5⟩ := and2 h
    obtain ⟨h, h4⟩ := and2 h
    obtain ⟨h, h3⟩ := and2 h
    obtain ⟨h1, h2⟩ := and2 h
    have e := of_decide_eq_true h1
    subst e
    obtain ⟨es, kk, tp, rfl⟩ := tgTup h6
    exact pi_itemsD (base_ok h2 _ X.env) h3 (nbE h4) (ia C _ h5)
theorem snd_isX (i : Nat) (x : Str) (cs : List Str) : SndE GmU cl k (.isX i x cs) := fun {X W p} C ex h => by
  cases ex <;> first | (cases h; done) | skip
  rename_i fn args kws pos
  match fn, args, kws, h with
  | .Name n _, [.Name y _, .Name z _], [], h =>
    obtain ⟨h, h6⟩ := and2 h
    obtain ⟨h, h5⟩ := and2 h
    obtain ⟨h, h4⟩ := and2 h
    obtain ⟨h, h3⟩ := and2 h
    obtain ⟨h1, h2⟩ := and2 h
    have e := of_decide_eq_true h3
    subst e
    obtain ⟨rfl, hg, hm⟩ := C.bn h1 (by decide)
    obtain ⟨⟨⟨D, fI, T⟩, _⟩, _, k0⟩ := C.xc _ h5
    exact of_tF rfl (pe_isX (C.var h2) hg hm (C.glo h4).1 T.gC (C.glo h4).2 (fun c m => ⟨(C.xc c (List.all_eq_true.mp h6 c m)).1.exc, (C.xk c _ (List.all_eq_true.mp h6 c m) h5).1⟩) k0)
theorem snd_isNX (neg : Bool) (i : Nat) : SndE GmU cl k (.isNX neg i) := fun {X W p} C ex h => by
  cases ex <;> first | (cases h; done) | skip
  rename_i x ops ys pos
  match x, ops, ys, h with
  | .Name y _, [op], [.Constant .none _ _], h =>
    obtain ⟨h1, h2⟩ := and2 h
    exact of_tF rfl (pe_isNX (of_decide_eq_true h1) (C.var h2))
theorem snd_TisNX (neg : Bool) (i : Nat) : SndT GmU cl k (.isNX neg i) := fun {X W p} C ex h => by
  cases ex <;> first | (cases h; done) | skip
  rename_i x ops ys pos
  match x, ops, ys, h with
  | .Name y _, [op], [.Constant .none _ _], h =>
    obtain ⟨h1, h2⟩ := and2 h
    refine pt_boolV (f := evGmU GmU (.isNX neg i)) (t := fun σ H Q => ∃ v, σ[i]? = some (some v) ∧ Q (.bl (if neg then !decide (v = .non) else decide (v = .non))) H) (pt_isNX (of_decide_eq_true h1) (C.var h2)) (fun ρ d ρ' e => ?_) fun σ H Q h => t_isNX rfl h
    have e : (match ρ[i]? with
      | some (.exc _ _) => Out.ok (PyData.bool neg, ρ)
      | some (.val .none) => .ok (.bool !neg, ρ)
      | _ => .bad) = Out.ok (d, ρ') := e
    split at e <;> first | (cases e; exact ⟨_, rfl⟩) | cases e
theorem snd_valX (i : Nat) (cs : List Str) : SndE GmU cl k (.valX i cs) := fun {X W p} C ex h => by
  cases ex <;> first | (cases h; done) | skip
  rename_i x m pos
  cases x <;> first | (cases h; done) | skip
  obtain ⟨h, h3⟩ := and2 h
  obtain ⟨h1, h2⟩ := and2 h
  exact of_tV rfl rfl (pe_valX (of_decide_eq_true h1) (C.var h2) fun c m => (C.xc c (List.all_eq_true.mp h3 c m)).1.off)
theorem snd_callN (g : Nat) {es : List E} (is : SndA GmU cl k es) : SndE GmU cl k (.callN g es) := fun {X W p} C ex h => by
  cases ex <;> first | (cases h; done) | skip
  rename_i fn args kws pos
  match fn, args, kws, h with
  | .Name n _, [], [], h =>
    obtain ⟨h, h5⟩ := and2 h
    obtain ⟨h, h4⟩ := and2 h
    obtain ⟨h, h3⟩ := and2 h
    obtain ⟨h, h2⟩ := and2 h
    obtain ⟨h1, _⟩ := and2 h
    cases h1
  | .Name n _, x :: xs, [], h =>
    obtain ⟨h, h6⟩ := and2 h
    obtain ⟨h, h5⟩ := and2 h
    obtain ⟨h, h4⟩ := and2 h
    obtain ⟨h, h3⟩ := and2 h
    obtain ⟨h1, h2⟩ := and2 h
    have e := of_decide_eq_true h2
    subst e
    obtain ⟨p1, p2⟩ := is C _ h6
    exact pe_callNew C.room C.gd C.tk (C.fnN g h3) (C.glo h4).1 (C.glo h4).2 p2 h5 rfl p1
theorem snd_callT (f g : Nat) {es : List E} (is : SndA GmU cl k es) : SndE GmU cl k (.callT f g es) := fun {X W p} C ex h => by
  cases ex <;> first | (cases h; done) | skip
  rename_i fn args kws pos
  match fn, args, kws, h with
  | .Name n _, [.Call (.Name y py) xs [] pc], [], h =>
    obtain ⟨h, h10⟩ := and2 h
    obtain ⟨h, h9⟩ := and2 h
    obtain ⟨h, h8⟩ := and2 h
    obtain ⟨h, h7⟩ := and2 h
    obtain ⟨h, h6⟩ := and2 h
    obtain ⟨h, h5⟩ := and2 h
    obtain ⟨h, h4⟩ := and2 h
    obtain ⟨h, h3⟩ := and2 h
    obtain ⟨h1, h2⟩ := and2 h
    have e := of_decide_eq_true h1
    subst e
    have hr := of_decide_eq_true h3
    have F := C.fns f h2
    rw [hr] at F
    have inner : PE X (.Call (.Name y py) xs [] pc) (tN X.F cl W (.callN g es) (evGmU GmU (.callN g es))) := snd_callN g is C _ (by
      show (!xs.isEmpty && decide (y = GmU.fnm g) && GmU.KnN g && glOk p y && es.all nb && chkEs GmU p es xs) = true
      rw [h8, h5, h6, h7, h9, h10]
      rfl)
    refine of_tV rfl rfl (pe_imp (pe_callT C.room C.gd C.tk F (C.glo h4).1 (C.glo h4).2 rfl rfl rfl inner) fun σ H Q q => ?_)
    have eq : (fun ρ => (evGmU GmU (.callN g es) ρ).bind fun r => (match r.1 with
      | .list l => (GmU.PhU f [.list l]).bind fun q => .ok (q.1, r.2)
      | _ => .bad)) = evGmU GmU (.callT f g es) := funext fun ρ => by
      show (((evsGmU GmU es ρ).bind fun x => (GmU.PhU g x.1).bind fun r => (match r.1 with
        | .list l => Out.ok (PyData.list l, x.2)
        | _ => .bad)).bind _) = (evsGmU GmU es ρ).bind fun x => (GmU.PhU g x.1).bind fun r => _
      cases evsGmU GmU es ρ with
      | bad => rfl
      | exc c d => rfl
      | ok x =>
        show (((GmU.PhU g x.1).bind fun r => (match r.1 with
          | .list l => Out.ok (PyData.list l, x.2)
          | _ => .bad)).bind _) = (GmU.PhU g x.1).bind fun r => _
        cases GmU.PhU g x.1 with
        | bad => rfl
        | exc c d => rfl
        | ok r =>
          obtain ⟨r1, r2⟩ := r
          cases r1 <;> rfl
    have q : tV X.F cl W (evGmU GmU (.callT f g es)) σ H Q := q
    rw [← eq] at q
    exact q
def spec : E → Bool
  | .andL _ => true
  | .orL _ => true
  | .not _ => true
  | .cmp _ _ _ => true
  | .isN _ _ => true
  | .isNX _ _ => true
  | .bot => true
  | .chain _ _ _ _ _ => true
  | .ite _ _ _ => true
  | _ => false
theorem plain_call {GmU : Env2} {p : Pl} {e : E} {ex : Expr} (h : chkE GmU p e ex = true) (hn : spec e = false) : plainT ex = true := by
  cases ex <;> first | rfl | skip
  · rename_i op xs pos
    cases e <;> first | (cases hn; done) | (cases op <;> cases h)
  · rename_i op xs pos
    cases op <;> first | rfl | skip
    cases e <;> first | (cases hn; done) | (cases h; done)
  · cases e <;> first | (cases hn; done) | (cases h; done)
  · cases e <;> first | (cases hn; done) | (cases h; done)
mutual
theorem snd_all : ∀ e : E, SndE GmU cl k e ∧ SndT GmU cl k e
  | .v i => ⟨snd_v i, snd_T (snd_v i) fun p ex h => plain_call h rfl⟩
  | .bor i => ⟨snd_bor i, snd_T (snd_bor i) fun p ex h => plain_call h rfl⟩
  | .k d => ⟨snd_k d, snd_T (snd_k d) fun p ex h => plain_call h rfl⟩
  | .g j => ⟨snd_g j, snd_T (snd_g j) fun p ex h => plain_call h rfl⟩
  | .bin o a b => ⟨snd_bin o (snd_all a).1 (snd_all b).1, snd_T (snd_bin o (snd_all a).1 (snd_all b).1) fun p ex h => plain_call h rfl⟩
  | .cmp o a b => ⟨snd_cmp o (snd_all a).1 (snd_all b).1, snd_Tcmp o (snd_all a).1 (snd_all b).1⟩
  | .isN n a => ⟨snd_isN n (snd_all a).1, snd_TisN n (snd_all a).1⟩
  | .chain o1 o2 a b c => ⟨snd_chain o1 o2 (snd_all a).1 (snd_all b).1 (snd_all c).1, snd_Tchain o1 o2 (snd_all a).1 (snd_all b).1 (snd_all c).1⟩
  | .andL es => snd_and (snd_bs es)
  | .orL es => snd_or (snd_bs es)
  | .not a => ⟨snd_not (snd_all a).1, snd_Tnot (snd_all a).2⟩
  | .ite c a b => snd_ite (snd_all c).2 (snd_all a).1 (snd_all b).1 (snd_all a).2 (snd_all b).2
  | .tup es => ⟨snd_tup (snd_es es), snd_T (snd_tup (snd_es es)) fun p ex h => plain_call h rfl⟩
  | .lst es => ⟨snd_lst (snd_es es), snd_T (snd_lst (snd_es es)) fun p ex h => plain_call h rfl⟩
  | .dct es => ⟨snd_dct (snd_ds es), snd_T (snd_dct (snd_ds es)) fun p ex h => plain_call h rfl⟩
  | .bot => ⟨fun C ex h => ⟨fun pins s σ H Q I q => (by obtain ⟨_, _, _, _, _, _, q⟩ := q; exact q.elim)⟩, fun C ex h => ⟨fun pins s σ H Q I q => (by obtain ⟨_, _, _, _, _, _, q⟩ := q; exact q.elim)⟩⟩
  | .isX i x cs => ⟨snd_isX i x cs, snd_T (snd_isX i x cs) fun p ex h => plain_call h rfl⟩
  | .isNX n i => ⟨snd_isNX n i, snd_TisNX n i⟩
  | .valX i cs => ⟨snd_valX i cs, snd_T (snd_valX i cs) fun p ex h => plain_call h rfl⟩
  | .callN g es => ⟨snd_callN g (snd_es es), snd_T (snd_callN g (snd_es es)) fun p ex h => plain_call h rfl⟩
  | .callT f g es => ⟨snd_callT f g (snd_es es), snd_T (snd_callT f g (snd_es es)) fun p ex h => plain_call h rfl⟩
  | .sub a i => ⟨snd_sub (snd_all a).1 (snd_all i).1, snd_T (snd_sub (snd_all a).1 (snd_all i).1) fun p ex h => plain_call h rfl⟩
  | .sl a lo hi => ⟨snd_sl (snd_all a).1 (snd_o lo) (snd_o hi), snd_T (snd_sl (snd_all a).1 (snd_o lo) (snd_o hi)) fun p ex h => plain_call h rfl⟩
  | .rev a => ⟨snd_rev (snd_all a).1, snd_T (snd_rev (snd_all a).1) fun p ex h => plain_call h rfl⟩
  | .call f es => ⟨snd_call f (snd_es es), snd_T (snd_call f (snd_es es)) fun p ex h => plain_call h rfl⟩
  | .callK f ks es => ⟨snd_callK f ks (snd_ks es), snd_T (snd_callK f ks (snd_ks es)) fun p ex h => plain_call h rfl⟩
  | .b1 f a => ⟨snd_b1 f (snd_all a).1, snd_T (snd_b1 f (snd_all a).1) fun p ex h => plain_call h rfl⟩
  | .b2 f a b => ⟨snd_b2 f (snd_all a).1 (snd_all b).1, snd_T (snd_b2 f (snd_all a).1 (snd_all b).1) fun p ex h => plain_call h rfl⟩
  | .isa ts a => ⟨snd_isa ts (snd_all a).1, snd_T (snd_isa ts (snd_all a).1) fun p ex h => plain_call h rfl⟩
  | .popA i a => ⟨snd_popA i (snd_all a).1, snd_T (snd_popA i (snd_all a).1) fun p ex h => plain_call h rfl⟩
  | .lc own tg it test elt => ⟨snd_lc own tg (snd_it it) (snd_q test) (snd_all elt).1, snd_T (snd_lc own tg (snd_it it) (snd_q test) (snd_all elt).1) fun p ex h => plain_call h rfl⟩
theorem snd_es : ∀ es : List E, SndA GmU cl k es
  | [] => snd_A0
  | e :: es => snd_A1 (snd_all e).1 (snd_es es)
theorem snd_ds : ∀ es : List E, SndD GmU cl k es
  | [] => snd_D0
  | [_] => snd_D1
  | a :: b :: es => snd_D2 (snd_all a).1 (snd_all b).1 (snd_ds es)
theorem snd_ks : ∀ es : List E, SndK GmU cl k es
  | [] => snd_K0
  | e :: es => snd_K1 (snd_all e).1 (snd_ks es)
theorem snd_bs : ∀ es : List E, SndB GmU cl k es
  | [] => snd_B0
  | [e] => snd_B1 (snd_all e).1 (snd_all e).2
  | e :: e2 :: es => snd_B2 (snd_all e).1 (snd_all e).2 (snd_bs (e2 :: es))
theorem snd_o : ∀ o : Option E, SndO GmU cl k o
  | none => snd_O0
  | some e => snd_O1 (snd_all e).1
theorem snd_q : ∀ o : Option E, SndQ GmU cl k o
  | none => snd_Q0
  | some e => snd_Q1 (snd_all e).2
theorem snd_it : ∀ it : It, SndI GmU cl k it
  | .e a => snd_Ie (snd_all a).1
  | .bor i => fun C te x h => (by cases x <;> cases h)
  | .range1 a => snd_Ir1 (snd_all a).1
  | .range2 a b => snd_Ir2 (snd_all a).1 (snd_all b).1
  | .enum a => snd_Ien (snd_all a).1
  | .zip2 a b => snd_Iz2 (snd_all a).1 (snd_all b).1
  | .zip3 a b c => snd_Iz3 (snd_all a).1 (snd_all b).1 (snd_all c).1
  | .rev a => snd_Irev (snd_all a).1
  | .items a => snd_Iit (snd_all a).1
end
end
end DL
set_option Elab.async false
set_option linter.all false
set_option maxRecDepth 100000
set_option maxHeartbeats 4000000
/-! DL, part xt: try, the error kept by a name. -/
namespace DL
open PySem PySem.Spec PyProof.Rows L2
section
variable {K : Frg} {cl : Cls} {R0 H0 R H : Hp} {G : List Addr} {ρ : DEnv} {σ : L2.St}
theorem hide_at {i : Nat} {s : Slot} (h : (hideD ρ)[i]? = some s) : s = .no ∨ (s.isOwn = false ∧ ρ[i]? = some s) := by
  unfold hideD at h
  rw [List.getElem?_map] at h
  obtain ⟨t, e, q⟩ := Option.map_eq_some_iff.mp h
  cases o : t.isOwn with
  | true => rw [o] at q; exact .inl q.symm
  | false => rw [o] at q; cases q; exact .inr ⟨o, e⟩
/-- a call's own view: the names' own things out of sight -/
theorem Stt.hide (S : Stt K R0 H0 G ρ σ R H) : Stt K R H [] (hideD ρ) σ R H := by
  refine ⟨S.sub, Le.refl _, fun a q => .inl q, fun b o e _ => e, (fun a h => nomatch h), (fun a h => nomatch h), (by unfold hideD; rw [List.length_map]; exact S.len), fun i s e => ?_, fun i j s s' a e e' o o' x x' => ?_⟩
  · rcases hide_at e with rfl | ⟨o, e1⟩
    · trivial
    · have ok := S.sl i s e1
      cases s with
      | no => trivial
      | val d => exact ok
      | exc c d => exact ok
      | own r l => cases o
      | ownD r l => cases o
  · rcases hide_at e with rfl | ⟨z, e1⟩
    · cases o
    · rw [z] at o; cases o
theorem Stt.setExc (S : Stt K R0 H0 G ρ σ R H) {i : Nat} {a dx : Addr} {c : Str} {v : V} {d : PyData} (h1 : R a = some (ExD (K.cl c) dx a)) (h2 : R dx = some (.xd [(("value" : Str), v)])) (h3 : Rp K R v d) : Stt K R0 H0 G (ρ.set i (.exc c d)) (σ.set i (some (.ref a))) R H := by
  refine ⟨S.sub, S.old, S.new, S.keep, S.g0, S.gH, by rw [List.length_set, List.length_set]; exact S.len, fun j s e => ?_, fun j k s s' b e e' o o' x x' => ?_⟩
  · rcases get_set e with ⟨rfl, rfl⟩ | ⟨n, e⟩
    · have hj : j < (ρ.set j (.exc c d)).length := (List.getElem?_eq_some_iff.mp ‹(ρ.set j _)[j]? = _›).1
      rw [List.length_set, S.len] at hj
      exact ⟨a, dx, v, by rw [set_at hj], h1, h2, h3⟩
    · rw [set_ne n]
      exact S.sl j s e
  · rcases get_set e with ⟨rfl, rfl⟩ | ⟨n, e⟩
    · cases o
    · rcases get_set e' with ⟨rfl, rfl⟩ | ⟨n', e'⟩
      · cases o'
      · rw [set_ne n] at x
        rw [set_ne n'] at x'
        exact S.ap j k s s' b e e' o o' x x'
end
/-! ### what stands in the try -/
def sTB (K : Frg) (cl : Cls) (F : DEnv → Out Unit) (W : WX) : TS := fun D σ H => ∃ R0 H0 G ρ R, Stt K R0 H0 G ρ σ R H ∧ (match F ρ with
  | .ok _ => ∀ R' H', Aft R H [] R' H' → D.nx σ H'
  | .exc c d => Wsh K cl R H [] (fun c d H' => W c d σ H') c d
  | .bad => False)
section
variable (GmU : Env2)
def chkTB1 (p : Pl) (f : Nat) (es : List E) : Stmt → Bool
  | .Expr (.Call (.Name x _) xs [] _) _ => !xs.isEmpty && decide (x = GmU.fnm f) && GmU.Kn f && decide (GmU.RF f = none) && glOk p x && es.all nb && chkEs GmU p es xs
  | _ => false
def chkTB (p : Pl) : TB → List Stmt → Bool
  | .call f es, [s] => chkTB1 GmU p f es s
  | .ite c a b, [.If t x y _] => chkE GmU p c t && chkTB p a x && chkTB p b y
  | _, _ => false
def chkTry (p : Pl) (b : TB) (c : Str) (cs : List Str) (n i : Nat) : Stmt → Bool
  | .Try body [.ExceptHandler (some (.Name x _)) (some nm) [.Assign [.Name y _] (.Name nm2 _) _] _] [] [] _ => decide (x = c) && GmU.XC x && cs.all GmU.XC && glOk p x && decide (p.N[n]? = some nm) && decide (p.kind nm = some .local) && decide (nm2 = nm) && decide (p.N[i]? = some y) && decide (p.kind y = some .local) &&
      !(nm == ("__debug__" : Str)) && !(nm == ("__classdict__" : Str)) && chkTB GmU p b body
  | _ => false
end
section
variable {X : Cx} {k : Nat} {f : Addr} {fd : FuncData} {ps : List Str} {sp : Sp} {W : WX}
/-- a call whose error is taken as the names stand -/
theorem run_fnGs {pins : List (Addr × Obj)} {σ : L2.St} {H : Hp} {s : Shared} {Q : VK} {us : List Value} {vs : List V} (F : FnG X.prog X.w X.K X.mg X.base k f fd ps sp) (hr : Room k X.A) (gd : X.A.guards = some []) (hb : Binds X.K fd ps []) (tk : Takes X W)
    (I : Inv X pins σ H s) (r : Vals vs us) (h : sp vs H Q fun c d H' => W c d σ H') : wpAny (model X.prog X.w) X.A (call (.ref f) us) (EP X pins σ Q) X.xe s := by
  have hl : us.length = ps.length := by rw [← r.length]; exact F.len _ _ _ _ h
  have bt := hb s us I.kIn (by rw [List.append_nil]; exact hl)
  rw [List.append_nil] at bt
  refine wpAny_call (codeAny_mono (F.run X.A X.stack s H ⟨us, []⟩ us vs Q _ hr gd I.env0 bt r h) fun r s' hq => ?_)
  cases r with
  | error e => exact tk e s' (XE.of_call I (fun _ _ _ h => h) hq)
  | ok fl =>
    cases fl with
    | ret u => exact I.after hq
    | next => exact False.elim hq
    | brk => exact False.elim hq
    | cont => exact False.elim hq
def tCallS (sp : Sp) (W : WX) (t : TA) : TE := fun σ H Q => t σ H fun vs H1 => sp vs H1 Q fun c d H' => W c d σ H'
theorem pe_callGs {x : Str} {p pos : Pos} {e : Expr} {es : List Expr} {t : TA} (F : FnG X.prog X.w X.K X.mg X.base k f fd ps sp) (hr : Room k X.A) (gd : X.A.guards = some []) (hg : Gl X x) (hm : X.mg x = some (.ref f)) (hk : PySem.W.keepIn X.K (.ref f) = true) (hb : Binds X.K fd ps []) (tk : Takes X W)
    (ha : PA X (e :: es) t) (hs : (e :: es).all notStar = true) (hdb : (x == ("__debug__" : Str)) = false) : PE X (.Call (.Name x p) (e :: es) [] pos) (tCallS sp W t) := by
  refine ⟨fun pins s σ H Q I h => ?_⟩
  refine wpAny_Call_Name_kw (ld_glob I hg hm ?_ hdb)
  rw [List.all_cons, Bool.and_eq_true] at hs
  exact PySem.W.callWith_K (h₀ := X.base) I.ok.mod.kin hk (thn (ha.run pos pins s σ H _ I h) fun us s1 ⟨vs, H1, I1, r, q⟩ => ⟨I1.kIn, run_fnGs F hr gd hb tk I1 r q⟩) (starEach_cons hs.1 es X.env) (plain_star hs.2 X.env pos)
end
section
variable {GmU : Env2} {cl : Cls} {k : Nat} {X : Cx} {p : Pl} {W : WX}
theorem evT_call {GT : List (Str × PyData)} {PhU : Nat → Fun} {RF : Refs} {KP : Nat → List Nat → List Nat} {f : Nat} {es : List E} {ρ : DEnv} : evT GT PhU RF KP (.call f es) ρ = (noExc (evs GT PhU RF KP es (hideD ρ))).bind fun x => (match RF f with
    | none => if es.all fun e => (isBor e).isNone then (PhU f x.1).bind fun _ => .ok () else .bad
    | some _ => .bad) := by
  rw [evT] <;> congr 1
theorem evT_ite {GT : List (Str × PyData)} {PhU : Nat → Fun} {RF : Refs} {KP : Nat → List Nat → List Nat} {c : E} {a b : TB} {ρ : DEnv} : evT GT PhU RF KP (.ite c a b) ρ = (noExc (tru c (ev GT PhU RF KP c (hideD ρ)))).bind fun x => if x.1 then evT GT PhU RF KP a x.2 else evT GT PhU RF KP b x.2 := by rw [evT]
theorem snd_TB (b : TB) : ∀ {X : Cx} {W : WX} {p : Pl}, Ck GmU cl k X WF p → Takes X W → ∀ st, chkTB GmU p b st = true → PSs X st (sTB X.F cl (evT GmU.GT GmU.PhU GmU.RF GmU.KP b) W) := by
  induction b with
  | call f es =>
    intro X W p C tk st h0
    rcases st with _ | ⟨s0, _ | ⟨_, _⟩⟩
    · cases h0
    rotate_left
    · cases h0
    have h : chkTB1 GmU p f es s0 = true := h0
    clear h0
    cases s0 <;> first | (cases h; done) | skip
    rename_i v pos2
    cases v <;> first | (cases h; done) | skip
    rename_i fn args kws pos
    cases fn <;> first | (cases h; done) | skip
    rename_i x px
    cases kws with
    | cons _ _ => cases h
    | nil =>
     cases args with
     | nil =>
      have h1 : (!([] : List Expr).isEmpty && decide (x = GmU.fnm f) && GmU.Kn f && decide (GmU.RF f = none) && glOk p x && es.all nb && chkEs GmU p es []) = true := h
      simp at h1
     | cons a as =>
      have h : (!(a :: as).isEmpty && decide (x = GmU.fnm f) && GmU.Kn f && decide (GmU.RF f = none) && glOk p x && es.all nb && chkEs GmU p es (a :: as)) = true := h
      obtain ⟨h, h7⟩ := and2 h
      obtain ⟨h, h6⟩ := and2 h
      obtain ⟨h, h5⟩ := and2 h
      obtain ⟨h, h4⟩ := and2 h
      obtain ⟨h, h3⟩ := and2 h
      obtain ⟨h1, h2⟩ := and2 h
      have e := of_decide_eq_true h2
      subst e
      have hrf := of_decide_eq_true h4
      obtain ⟨p1, p2⟩ := snd_es (cl := cl) (k := k) es C _ h7
      have F := C.fns f h3
      rw [hrf] at F
      obtain ⟨g, fd, ps, j, hj, hm, hk, FG, hb⟩ := F.ex
      have pc := pe_callGs (p := px) (pos := pos) (W := W) FG (C.room.mono hj) C.gd (C.glo h5).1 hm hk hb tk p1 p2 (C.glo h5).2
      have pse := ps_expr (pos := pos2) pc (sw_no rfl _ _ _)
      refine pss_one (ps_imp (t' := sTB X.F cl (evT GmU.GT GmU.PhU GmU.RF GmU.KP (.call f es)) W) pse ?_)
      rintro D σ H ⟨R0, H0, G, ρ, R, S, h⟩
      rw [evT_call] at h
      refine ⟨R, H, [], hideD ρ, R, S.hide, resA_iff.mpr ?_⟩
      cases he : evs GmU.GT GmU.PhU GmU.RF GmU.KP es (hideD ρ) with
      | bad => rw [he] at h; exact h.elim
      | exc c d => rw [he] at h; exact h.elim
      | ok x =>
        rw [he, hrf] at h
        simp only [noExc, Out.bind] at h
        show Ok2 X.F cl WF R H [] (evs GmU.GT GmU.PhU GmU.RF GmU.KP es (hideD ρ)) _
        rw [he]
        intro vs R1 H1 S1 l1 o1
        refine ⟨R1, x.1, [], S1.sub, ⟨rfl, o1.rp h6⟩, ?_⟩
        have h6' : (es.all fun e => (isBor e).isNone) = true := h6
        rw [if_pos h6'] at h
        cases hp : GmU.PhU f x.1 with
        | bad => rw [hp] at h; exact h.elim
        | exc c d =>
          rw [hp] at h
          have h : Wsh X.F cl R H [] (fun c d H' => W c d σ H') c d := h
          exact h.inner S1 fun a z => nomatch z
        | ok y =>
          rw [hp] at h
          have h : ∀ R' H', Aft R H [] R' H' → D.nx σ H' := h
          exact fun v R' H' A rv _ => h R' H' (Aft.trans S1 A fun a z => nomatch z)
  | ite c a b ia ib =>
    intro X W p C tk st h
    rcases st with _ | ⟨s0, _ | ⟨_, _⟩⟩
    · cases h
    rotate_left
    · cases s0 <;> cases h
    cases s0 <;> first | (cases h; done) | skip
    · rename_i t x y pos
      obtain ⟨h, h3⟩ := and2 h
      obtain ⟨h1, h2⟩ := and2 h
      have pt : PT X t (tT X.F cl WF fun ρ => tru c (evGmU GmU c ρ)) := (snd_all (cl := cl) (k := k) c).2 C t h1
      have pif := ps_if (pos := pos) pt (ia C tk x h2) (ib C tk y h3)
      refine pss_one (ps_imp (t' := sTB X.F cl (evT GmU.GT GmU.PhU GmU.RF GmU.KP (.ite c a b)) W) pif ?_)
      rintro D σ H ⟨R0, H0, G, ρ, R, S, h⟩
      rw [evT_ite] at h
      refine ⟨R, H, [], hideD ρ, R, S.hide, ?_⟩
      cases he : tru c (ev GmU.GT GmU.PhU GmU.RF GmU.KP c (hideD ρ)) with
      | bad => rw [he] at h; exact h.elim
      | exc c d => rw [he] at h; exact h.elim
      | ok x =>
        rw [he] at h
        simp only [noExc, Out.bind] at h
        obtain ⟨bb, ρ1⟩ := x
        show ResT X.F cl WF R H [] σ R _ (tru c (ev GmU.GT GmU.PhU GmU.RF GmU.KP c (hideD ρ)))
        rw [he]
        intro R1 H1 S1 l1
        have go : ∀ o : Out Unit, (match o with
          | .ok _ => ∀ R' H', Aft R H [] R' H' → D.nx σ H'
          | .exc c d => Wsh X.F cl R H [] (fun c d H' => W c d σ H') c d
          | .bad => False) → (match o with
          | .ok _ => ∀ R' H', Aft R1 H1 [] R' H' → D.nx σ H'
          | .exc c d => Wsh X.F cl R1 H1 [] (fun c d H' => W c d σ H') c d
          | .bad => False) := fun o q => by
          cases o with
          | bad => exact q
          | exc c d => exact Wsh.inner q S1 fun a z => nomatch z
          | ok u => exact fun R' H' A => q R' H' (Aft.trans S1 A fun a z => nomatch z)
        cases bb with
        | true =>
          show sTB X.F cl (evT GmU.GT GmU.PhU GmU.RF GmU.KP a) W D σ H1
          exact ⟨R, H, [], ρ1, R1, S1, go _ h⟩
        | false =>
          show sTB X.F cl (evT GmU.GT GmU.PhU GmU.RF GmU.KP b) W D σ H1
          exact ⟨R, H, [], ρ1, R1, S1, go _ h⟩
theorem Ck.tr (C : Ck GmU cl k X WF p) (pn : List (Addr × Obj)) (xe : Value → Shared → Prop) : Ck GmU cl k (X.tr pn xe) WF p where
  hN := C.hN
  hsc := C.hsc
  hfn := C.hfn
  nd := C.nd
  calm := C.calm
  gd := C.gd
  one := C.one
  room := C.room
  tk := takes0
  fr := C.fr
  gl := C.gl
  fns := C.fns
  kws := C.kws
  fnN := C.fnN
  xc := fun c h => ⟨⟨(C.xc c h).1.off, (C.xc c h).1.exc⟩, (C.xc c h).2⟩
  xk := C.xk
theorem Ck.noW {W : XK} (C : Ck GmU cl k X W p) : Ck GmU cl k X WF p where
  hN := C.hN
  hsc := C.hsc
  hfn := C.hfn
  nd := C.nd
  calm := C.calm
  gd := C.gd
  one := C.one
  room := C.room
  tk := takes0
  fr := C.fr
  gl := C.gl
  fns := C.fns
  kws := C.kws
  fnN := C.fnN
  xc := C.xc
  xk := C.xk
theorem set_nin {α : Type} {l : List α} {n i : Nat} {a b c : α} : ((l.set n a).set i a).set n c = (l.set i a).set n c := by
  by_cases h : n = i
  · subst h; simp
  · rw [List.set_comm _ _ h, List.set_set]
theorem snd_try {W : XK} (C : Ck GmU cl k X W p) (hs : X.stack = X.env :: X.outer) (hf : X.env.frame = some X.env.locals) (hex : X.ex = []) {b : TB} {c : Str} {cs : List Str} {n i fu : Nat} {st : Stmt} (h : chkTry GmU p b c cs n i st = true) :
    PS X st (tS X.F cl W (exec GmU.GT GmU.PhU GmU.RF GmU.KP fu (.try b c cs n i))) := by
  unfold chkTry at h
  split at h
  · rename_i body x xp nm y yp nm2 np2 ap hp sp
    obtain ⟨h, h12⟩ := and2 h
    obtain ⟨h, h11⟩ := and2 h
    obtain ⟨h, h10⟩ := and2 h
    obtain ⟨h, h9⟩ := and2 h
    obtain ⟨h, h8⟩ := and2 h
    obtain ⟨h, h7⟩ := and2 h
    obtain ⟨h, h6⟩ := and2 h
    obtain ⟨h, h5⟩ := and2 h
    obtain ⟨h, h4⟩ := and2 h
    obtain ⟨h, h3⟩ := and2 h
    obtain ⟨h1, h2⟩ := and2 h
    have e1 := of_decide_eq_true h1
    have e2 := of_decide_eq_true h7
    subst e1 e2
    have hkind : ∀ z : Str, X.env.kindOf z = p.kind z := fun z => by
      show X.env.scope.names.lookup z = _
      rw [C.hsc]
      rfl
    obtain ⟨⟨⟨D0, fI, T⟩, _⟩, hcl, _⟩ := C.xc _ h2
    have tk : Takes X fun c d _ H => W c d H := C.tk
    refine ps_imp (ps_try_keep (i := n) (j := i) (tb := fun W2 => sTB X.F cl (evT GmU.GT GmU.PhU GmU.RF GmU.KP b) W2) hs hf hex C.nd (by rw [C.hN]; exact of_decide_eq_true h5) (by rw [hkind]; exact of_decide_eq_true h6) (by rw [C.hN]; exact of_decide_eq_true h8) (by rw [hkind]; exact of_decide_eq_true h9)
      ⟨(C.glo h4).1, (C.glo h4).2, .inl T.gC⟩ tk (by simpa using h10) (by simpa using h11) (fun W2 pn xe tk2 => snd_TB b (C.noW.tr pn xe) tk2 body h12)) ?_
    rintro D σ H ⟨R0, H0, G, ρ, R, S, h⟩
    have h : FlOk X.F cl W R0 H0 G R D (match evT GmU.GT GmU.PhU GmU.RF GmU.KP b ρ with
      | .ok _ => .nx ρ
      | .exc c' d => if c' ∉ cs then .bad else if subC c' x then .nx ((ρ.set i (.exc c' d)).set n .no) else .exc c' d
      | .bad => .bad) := h
    refine ⟨R0, H0, G, ρ, R, S, ?_⟩
    cases he : evT GmU.GT GmU.PhU GmU.RF GmU.KP b ρ with
    | bad => rw [he] at h; exact h.elim
    | ok u =>
      rw [he] at h
      exact fun R' H' A => h σ R' H' (S.call0 A) A.le
    | exc c2 d =>
      rw [he] at h
      dsimp only at h
      by_cases hc : c2 ∈ cs
      · rw [if_neg (fun z => z hc)] at h
        have hx := List.all_eq_true.mp h3 c2 hc
        obtain ⟨_, hcl2, _⟩ := C.xc _ hx
        obtain ⟨k1, k2⟩ := C.xk c2 x hx h2
        intro v R' H' dx A n1 n2 n3 rv
        refine ⟨subC c2 x, by rw [hcl2]; exact k2, fun hb => ?_, fun hb => ?_⟩
        · rw [if_pos hb] at h
          refine ⟨cl c2, dx, rfl, rfl, fun a na => ?_⟩
          have S1 := (S.call0 A).alloc (u := ExD (cl c2) dx a) na
          have nda : dx ≠ a := fun z => by rw [z, na] at n3; cases n3
          have hdx : upd H' a (ExD (cl c2) dx a) dx = some (.xd [(("value" : Str), v)]) := by rw [upd_ne nda]; exact n3
          have own_ne : ∀ {z : Addr}, H z = none → ∀ (j : Nat) (s : Slot), ρ[j]? = some s → s.isOwn = true → σ[j]? ≠ some (some (.ref z)) := fun hz j s e o q => (S.ownAt e o q).1 hz
          have F1 : Fresh ρ σ R' H0 dx := ⟨n2, S.h0 n1, own_ne n1⟩
          obtain ⟨S2, l2⟩ := S1.freeze F1 hdx
          have ha0 : H a = none := by
            cases e : H a with
            | none => rfl
            | some o =>
              have q := A.keep a o e (fun z => nomatch z)
              rw [na] at q
              cases q
          have ra : R' a = none := (S.call0 A).r0 na
          have F2 : Fresh ρ σ (upd R' dx (.xd [(("value" : Str), v)])) H0 a := ⟨by rw [upd_ne (Ne.symm nda)]; exact ra, S.h0 ha0, own_ne ha0⟩
          obtain ⟨S3, l3⟩ := S2.freeze F2 upd_same
          have r1 : upd (upd R' dx (.xd [(("value" : Str), v)])) a (ExD (cl c2) dx a) a = some (ExD (X.F.cl c2) dx a) := by rw [upd_same, hcl2]
          have r2 : upd (upd R' dx (.xd [(("value" : Str), v)])) a (ExD (cl c2) dx a) dx = some (.xd [(("value" : Str), v)]) := by rw [upd_ne nda, upd_same]
          have rv3 := rv.mono (l2.trans l3)
          have S4 := (((S3.setExc (i := n) (c := c2) r1 r2 rv3).setExc (i := i) (c := c2) r1 r2 rv3).setNo (i := n))
          rw [set_nin (l := ρ) (a := .exc c2 d) (b := .exc c2 d) (c := .no)] at S4
          exact h _ _ _ S4 (A.le.trans (l2.trans l3))
        · rw [if_neg (by rw [hb]; exact Bool.false_ne_true)] at h
          have h : Wsh X.F cl R0 H0 G W c2 d := h
          exact h v R' H' dx (Aft.trans S A fun a z => nomatch z) (S.h0 n1) n2 n3 rv
      · rw [if_pos hc] at h
        exact h.elim
  · cases h
end
end DL
set_option Elab.async false
set_option linter.all false
set_option maxRecDepth 100000
set_option maxHeartbeats 4000000
/-! DL, part x: the evaluator tells the truth of statements. -/
namespace DL
open PySem PySem.Spec PyProof.Rows L2
/-- one line's comprehension, stored as it ends -/
def swB (p : Pl) (v : Expr) (y : Str) (py : Pos) : Bool := (match v with
  | .ListComp _ _ s _ => decide (p.kind y = some .local) && (py.line == v.pos.line) && !(s.names.any fun (n, k) => n == y && (k == .local || k == .cell))
  | _ => false)
def isLC : Expr → Bool
  | .ListComp _ _ _ _ => true
  | _ => false
def parNames (p : Pl) : List Nat → List Expr → Bool
  | [], [] => true
  | i :: is, .Name x _ :: es => decide (p.N[i]? = some x) && decide (p.kind x = some .local) && parNames p is es
  | _, _ => false
section
variable (GmU : Env2) (rzs : List Str)
def chkPs (p : Pl) : List Bool → List E → List Expr → Bool
  | [], [], [] => true
  | o :: os, e :: es, x :: xs => notStar x && nb e && (!o || !old e) && chkE GmU p e x && chkPs p os es xs
  | _, _, _ => false
def chkPar (p : Pl) (is : List Nat) (os : List Bool) (es : List E) (tgs : List Expr) (v : Expr) : Bool := match is, os, tgs, v with
  | [i, j], [o1, o2], [.Tuple [.Name x px, .Name y py] kt pt], .Tuple [a, b] k2 pt2 => parNames p [i, j] [.Name x px, .Name y py] && decide (i ≠ j) && (py.line == px.line) && !(y == x) && !([a, b].all (foldedForSure 8)) && !([a, b].all (constantsAlone 8)) && chkPs GmU p [o1, o2] es [a, b]
  | [i, j, l], [o1, o2, o3], [.Tuple [.Name x px, .Name y py, .Name z pz] kt pt], .Tuple [a, b, c] k2 pt2 => parNames p [i, j, l] [.Name x px, .Name y py, .Name z pz] && decide (i ≠ j) && decide (i ≠ l) && decide (j ≠ l) && (py.line == px.line) && (pz.line == px.line) && !(y == x) && !(z == x) && !(z == y) &&
      !([a, b, c].all (foldedForSure 8)) && !([a, b, c].all (constantsAlone 8)) && chkPs GmU p [o1, o2, o3] es [a, b, c]
  | _, _, _, _ => false
mutual
def chkS (p : Pl) : S → Stmt → Bool
  | .asg i e, .Assign [.Name x px] v pos => nb e && chkE GmU p e v && stOk p i x && (!compE v || isLC v)
  | .asgO i e, .Assign [.Name x px] v pos => nb e && !old e && chkE GmU p e v && stOk p i x && (!compE v || isLC v)
  | .asgT is e, .Assign [.Tuple es k q] v pos => nb e && !compE v && (match v with | .Tuple _ _ _ => false | _ => true) && chkE GmU p e v && tgOk p (.t is) (.Tuple es k q)
  | .par is os es, .Assign tgs v pos => chkPar GmU p is os es tgs v
  | .ex e, .Expr v pos => !compE v && chkE GmU p e v
  | .app i e, .Expr (.Call (.Attribute (.Name x _) m apos) [y] [] cpos) pos => decide (m = "append") && (apos.endLine == cpos.line) && nmOk p i x && notStar y && nb e && chkE GmU p e y
  | .set i ie e, .Assign [.Subscript (.Name x _) ix pos'] v pos => nmOk p i x && nb e && nb ie && notSl ix && !compE v && chkE GmU p e v && chkE GmU p ie ix
  | .ret e, .Return (some v) pos => nb e && chkE GmU p e v
  | .ite c a b, .If t x y pos => chkE GmU p c t && chkSs p a x && chkSs p b y
  | .for tg it body, .For te iter b [] pos => notSetE iter && chkI GmU p te it iter && tgOk p tg te && chkSs p body b
  | .whl c body, .While t b [] pos => chkE GmU p c t && chkSs p body b
  | .brk, .Break _ => true
  | .cnt, .Continue _ => true
  | .pas, .Pass _ => true
  | .bot, _ => true
  | .try b c cs n i, st => chkTry GmU p b c cs n i st
  | .rai c e, .Raise (some (.Call (.Name n _) [v] [] _)) none pos => decide (n = c) && decide (c ∈ rzs) && glOk p n && notStar v && nb e && chkE GmU p e v
  | _, _ => false
def chkSs (p : Pl) : List S → List Stmt → Bool
  | [], [] => true
  | s :: ss, x :: xs => chkS p s x && chkSs p ss xs
  | _, _ => false
end
end
structure Cs (GmU : Env2) (rzs : List Str) (cl : Cls) (k : Nat) (X : Cx) (W : XK) (p : Pl) : Prop where
  ck : Ck GmU cl k X W p
  fk : p.sc.kind = .function
  hs : X.stack = X.env :: X.outer
  hf : X.env.frame = some X.env.locals
  hex : X.ex = []
  po : PassesOwn (model X.prog X.w) X.A X.env X.xe
  rz : ∀ c ∈ rzs, ∀ {e : E} {f : DEnv → OV} {a : Expr} {q pos pos' : Pos}, Gl X c → notStar a = true → isBor e = none → PE X a (tN X.F cl W e f) → PS X (.Raise (some (.Call (.Name c q) [a] [] pos')) none pos) (tS X.F cl W fun ρ => Fl.of (f ρ) fun d _ => .exc c d)
section
variable {GmU : Env2} {rzs : List Str} {cl : Cls} {k : Nat} {X : Cx} {W : XK} {p : Pl}
theorem sw_val (C : Ck GmU cl k X W p) (fk : p.sc.kind = .function) {v : Expr} {y : Str} {py : Pos} {l : Nat} (h : compE v = true) (hl : isLC v = true) : ∃ elt gs scope q, v = .ListComp elt gs scope q ∧ ((X.env.scope.names.lookup y = some .local ∧ swapsWith v (some (.Name y py)) l X.env = pure true) ∨ swapsWith v (some (.Name y py)) l X.env = pure false) := by
  cases v <;> first | (cases h; done) | (cases hl; done) | skip
  rename_i elt gs scope q
  refine ⟨elt, gs, scope, q, rfl, ?_⟩
  have e : swapsWith (.ListComp elt gs scope q) (some (.Name y py)) l X.env = pure (X.env.blockKind == .function && X.env.kindOf y == some .local && py.line == q.line && !(scope.names.any fun (n, k) => n == y && (k == .local || k == .cell))) := rfl
  rw [e]
  cases hb : (X.env.blockKind == .function && X.env.kindOf y == some .local && py.line == q.line && !(scope.names.any fun (n, k) => n == y && (k == .local || k == .cell))) with
  | false => exact .inr rfl
  | true =>
    refine .inl ⟨?_, rfl⟩
    obtain ⟨hb, _⟩ := and2 hb
    obtain ⟨hb, _⟩ := and2 hb
    obtain ⟨_, hb⟩ := and2 hb
    exact eq_of_beq (show (X.env.scope.names.lookup y == some .local) = true from hb)
/-- name = comprehension -/
theorem lc_stmt (C : Ck GmU cl k X W p) {own : List Nat} {tg : Tg} {it : It} {test : Option E} {elt : E} {el : Expr} {gs : List Comprehension} {scope : Scope} {pos spos py : Pos} {y : Str} {i : Nat} (h : chkE GmU p (.lc own tg it test elt) (.ListComp el gs scope pos) = true)
    (hy : X.N[i]? = some y) (hyl : X.env.scope.names.lookup y = some .local) (hsw : swapsWith (.ListComp el gs scope pos) (some (.Name y py)) spos.line X.env = pure true) :
    PS X (.Assign [.Name y py] (.ListComp el gs scope pos) spos) (tAsg (tF X.F cl W (evGmU GmU (.lc own tg it test elt))) (gName i)) := by
  match gs, h with
  | [⟨te, iter, ifs, kk⟩], h =>
    obtain ⟨h, h10⟩ := and2 h
    obtain ⟨h, h9⟩ := and2 h
    obtain ⟨h, h8⟩ := and2 h
    obtain ⟨h, h7⟩ := and2 h
    obtain ⟨h, h6⟩ := and2 h
    obtain ⟨h, h5⟩ := and2 h
    obtain ⟨h, h4⟩ := and2 h
    obtain ⟨h, h3⟩ := and2 h
    obtain ⟨h1, h2⟩ := and2 h
    have e0 := of_decide_eq_true h1
    subst e0
    have eo := of_decide_eq_true h3
    have ok : BlkOk X.N X.env.scope scope (ownP p own) := by
      rw [C.hN, C.hsc]
      exact blkOk_by h2
    have q := ps_lcD (X := X) (cm := cl) (W := W) (elt := el) (ifs := ifs) (pos := pos) (spos := spos) (py := py) (ee := elt) (ft := evq GmU.GT GmU.PhU GmU.RF GmU.KP test) (fe := evGmU GmU elt) C.calm C.nd hy hyl hsw (snd_it it C te iter h7) ok (fun s H a cs fp => tgOk_pg (C.blk s H scope a cs fp) h8)
      (fun s H a cs fp => snd_q test (C.blk s H scope a cs fp) ifs h9) (fun s H a cs fp => (snd_all elt).1 (C.blk s H scope a cs fp) el h10) (fold_ok h5 X.env)
      (fun i m => by rw [eo]; exact of_decide_eq_true (List.all_eq_true.mp h4 i m)) (nbE h6)
    rw [eo] at q
    exact q
theorem lc_only {e : E} {el : Expr} {gs : List Comprehension} {scope : Scope} {pos : Pos} (h : chkE GmU p e (.ListComp el gs scope pos) = true) : ∃ own tg it test elt, e = .lc own tg it test elt := by
  cases e <;> first | (cases h; done) | exact ⟨_, _, _, _, _, rfl⟩
theorem asg_any (C : Cs GmU rzs cl k X W p) {i : Nat} {e : E} {x : Str} {px pos : Pos} {v : Expr} (hn : isBor e = none) (h : chkE GmU p e v = true) (hs : stOk p i x = true) (hc : (!compE v || isLC v) = true) :
    ∃ t : TE, PS X (.Assign [.Name x px] v pos) (tAsg t (gName i)) ∧ ∀ σ H Q, tN X.F cl W e (evGmU GmU e) σ H Q → t σ H Q := by
  obtain ⟨s1, s2, s3⟩ := C.ck.st hs
  cases hv : compE v with
  | false => exact ⟨_, ps_set C.ck.nd s1 s2 ((snd_all e).1 C.ck v h) (sw_no hv _ _ _) s3, fun σ H Q q => q⟩
  | true =>
    rw [hv] at hc
    obtain ⟨elt, gs, scope, q, rfl, ⟨hy, hsw⟩ | hsw⟩ := sw_val (y := x) (py := px) C.ck C.fk (l := pos.line) hv hc
    case inr => exact ⟨_, ps_set C.ck.nd s1 s2 ((snd_all e).1 C.ck _ h) hsw s3, fun σ H Q q => q⟩
    obtain ⟨own, tg, it, test, ee, rfl⟩ := lc_only h
    refine ⟨_, lc_stmt C.ck h s1 hy hsw, fun σ H Q q => ?_⟩
    have eq : tN X.F cl W (.lc own tg it test ee) (evGmU GmU (.lc own tg it test ee)) = tN X.F cl W (.lst []) (evGmU GmU (.lc own tg it test ee)) := tN_e rfl rfl rfl
    show tN X.F cl W (.lst []) (evGmU GmU (.lc own tg it test ee)) σ H Q
    rw [← eq]
    exact q
def SndS (GmU : Env2) (rzs : List Str) (cl : Cls) (k : Nat) (fu : Nat) (s : S) : Prop := ∀ {X : Cx} {W : XK} {p : Pl}, Cs GmU rzs cl k X W p → ∀ st, chkS GmU rzs p s st = true → PS X st (tS X.F cl W (exec GmU.GT GmU.PhU GmU.RF GmU.KP fu s))
def SndSs (GmU : Env2) (rzs : List Str) (cl : Cls) (k : Nat) (fu : Nat) (ss : List S) : Prop := ∀ {X : Cx} {W : XK} {p : Pl}, Cs GmU rzs cl k X W p → ∀ st, chkSs GmU rzs p ss st = true → PSs X st (tS X.F cl W (execs GmU.GT GmU.PhU GmU.RF GmU.KP fu ss))
variable {fu : Nat}
theorem lc_list {own : List Nat} {tg : Tg} {it : It} {test : Option E} {elt : E} {ρ ρ' : DEnv} {d : PyData} (h : evGmU GmU (.lc own tg it test elt) ρ = .ok (d, ρ')) : ∃ l, d = .list l := by
  have h : (evi GmU.GT GmU.PhU GmU.RF GmU.KP it ρ).bind (fun x => if own.any (fun i => (x.2.getD i .no).isOwn) || decide (sizeLine < x.1.length) then .bad else (lcLoop own (stepD tg (evq GmU.GT GmU.PhU GmU.RF GmU.KP test) (evGmU GmU elt)) x.1 [] x.2).bind fun y => .ok (.list y.1, unholdD (holdOf it) ρ (backD x.2 (wipeD y.2 own) own))) = Out.ok (d, ρ') := h
  cases e1 : evi GmU.GT GmU.PhU GmU.RF GmU.KP it ρ with
  | bad => rw [e1] at h; cases h
  | exc c d => rw [e1] at h; cases h
  | ok x =>
    rw [e1] at h
    simp only [Out.bind] at h
    split at h
    · cases h
    · generalize lcLoop own (stepD tg (evq GmU.GT GmU.PhU GmU.RF GmU.KP test) (evGmU GmU elt)) x.1 [] x.2 = o at h
      cases o with
      | bad => cases h
      | exc c d => cases h
      | ok y => cases h; exact ⟨_, rfl⟩
theorem ps_asgF {st : Stmt} {e : E} {f : DEnv → OV} {i : Nat} (hp : PS X st (tAsg (tN X.F cl W e f) (gName i))) (hn : isBor e = none) (hl : ∀ ρ d ρ', f ρ = .ok (d, ρ') → ∃ l, d = .list l) : PS X st (tS X.F cl W fun ρ => Fl.of (f ρ) fun d ρ' => .nx (ρ'.set i (.val d))) :=
  ps_imp hp fun D σ H ⟨R0, H0, G, ρ, R, S, h⟩ => ⟨R0, H0, G, ρ, R, S, by
    have hl := hl ρ
    cases hf : f ρ with
    | bad => simp only [hf] at h; exact h
    | exc c d => simp only [hf] at h; exact h
    | ok x =>
      obtain ⟨d, ρ1⟩ := x
      obtain ⟨l, rfl⟩ := hl d ρ1 hf
      simp only [hf] at h
      refine fun v R1 H1 S1 l1 o1 => ?_
      unfold OpN at o1
      rw [hn] at o1
      have o1 : NewP (old e) X.F ρ1 σ R1 H0 H1 v (.list l) := o1
      cases o1 with
      | rp h2 o => exact h _ R1 H1 (S1.setVal h2) l1
      | lst fr hp q =>
        obtain ⟨S2, l2⟩ := S1.freeze fr hp
        exact h _ _ H1 (S2.setVal (.lst upd_same (q.mono l2))) (l1.trans l2)⟩
theorem snd_asg (i : Nat) (e : E) : SndS GmU rzs cl k fu (.asg i e) := fun {X W p} C st h => by
  cases st <;> first | (cases h; done) | skip
  rename_i tgs v pos
  match tgs, h with
  | [.Name x px], h =>
    obtain ⟨h, h4⟩ := and2 h
    obtain ⟨h, h3⟩ := and2 h
    obtain ⟨h1, h2⟩ := and2 h
    obtain ⟨s1, s2, s3⟩ := C.ck.st h3
    cases hv : compE v with
    | false => exact ps_asgT (ps_set C.ck.nd s1 s2 (pe_frz ((snd_all e).1 C.ck v h2)) (sw_no hv _ _ _) s3) (nbE h1) fun σ H Q q => q
    | true =>
      rw [hv] at h4
      obtain ⟨elt, gs, scope, q, rfl, ⟨hy, hsw⟩ | hsw⟩ := sw_val (y := x) (py := px) C.ck C.fk (l := pos.line) hv h4
      case inr => exact ps_asgT (ps_set C.ck.nd s1 s2 (pe_frz ((snd_all e).1 C.ck _ h2)) hsw s3) (nbE h1) fun σ H Q q => q
      obtain ⟨own, tg, it, test, ee, rfl⟩ := lc_only h2
      exact ps_asgF (e := .lst []) (lc_stmt C.ck h2 s1 hy hsw) rfl fun ρ d ρ' e => lc_list e
theorem snd_asgO (i : Nat) (e : E) : SndS GmU rzs cl k fu (.asgO i e) := fun {X W p} C st h => by
  cases st <;> first | (cases h; done) | skip
  rename_i tgs v pos
  match tgs, h with
  | [.Name x px], h =>
    obtain ⟨h, h5⟩ := and2 h
    obtain ⟨h, h4⟩ := and2 h
    obtain ⟨h, h3⟩ := and2 h
    obtain ⟨h1, h2⟩ := and2 h
    obtain ⟨t, pt, ht⟩ := asg_any C (pos := pos) (nbE h1) h3 h4 h5
    exact ps_asgOT pt (nbE h1) (by simpa using h2) ht
theorem sw_none {ts : List Expr} {k : Nat} {q : Pos} {v : Expr} (h : (match v with | .Tuple _ _ _ => true | _ => false) = false) (env : Env) : swappedStores [.Tuple ts k q] v env = pure none := by
  cases v <;> first | rfl | cases h
theorem snd_asgT (is : List Nat) (e : E) : SndS GmU rzs cl k fu (.asgT is e) := fun {X W p} C st h => by
  cases st <;> first | (cases h; done) | skip
  rename_i tgs v pos
  match tgs, h with
  | [.Tuple es kk q], h =>
    obtain ⟨h, h5⟩ := and2 h
    obtain ⟨h, h4⟩ := and2 h
    obtain ⟨h, h3⟩ := and2 h
    obtain ⟨h1, h2⟩ := and2 h
    have pg := tgOk_pg C.ck h5
    refine ps_asgTup (tgE := .Tuple es kk q) (ps_asg (pe_frz ((snd_all e).1 C.ck v h4)) pg (show swapsWith v (some (.Tuple es kk q)) pos.line X.env = pure false from sw_no (by simpa using h2) _ _ _) (sw_none (by cases v <;> first | rfl | cases h3) _) rfl) (nbE h1)
theorem snd_ex (e : E) : SndS GmU rzs cl k fu (.ex e) := fun {X W p} C st h => by
  cases st <;> first | (cases h; done) | skip
  obtain ⟨h1, h2⟩ := and2 h
  exact ps_exD ((snd_all e).1 C.ck _ h2) (sw_no (by simpa using h1) _ _ _)
theorem snd_app (i : Nat) (e : E) : SndS GmU rzs cl k fu (.app i e) := fun {X W p} C st h => by
  cases st <;> first | (cases h; done) | skip
  rename_i v pos
  cases v <;> first | (cases h; done) | skip
  rename_i fn args kws cpos
  match fn, args, kws, h with
  | .Attribute (.Name x _) m apos, [y], [], h =>
    obtain ⟨h, h6⟩ := and2 h
    obtain ⟨h, h5⟩ := and2 h
    obtain ⟨h, h4⟩ := and2 h
    obtain ⟨h, h3⟩ := and2 h
    obtain ⟨h1, h2⟩ := and2 h
    have e1 := of_decide_eq_true h1
    subst e1
    exact ps_appD (C.ck.var h3) rfl h2 h4 (nbE h5) ((snd_all e).1 C.ck _ h6)
theorem snd_set (i : Nat) (ie e : E) : SndS GmU rzs cl k fu (.set i ie e) := fun {X W p} C st h => by
  cases st <;> first | (cases h; done) | skip
  rename_i tgs v pos
  match tgs, h with
  | [.Subscript (.Name x _) ix pos'], h =>
    obtain ⟨h, h7⟩ := and2 h
    obtain ⟨h, h6⟩ := and2 h
    obtain ⟨h, h5⟩ := and2 h
    obtain ⟨h, h4⟩ := and2 h
    obtain ⟨h, h3⟩ := and2 h
    obtain ⟨h1, h2⟩ := and2 h
    refine ps_setD C.ck.room (C.ck.var h1) (nbE h2) (nbE h3) ((snd_all e).1 C.ck _ h6) ((snd_all ie).1 C.ck _ h7) (sw_no (by simpa using h5) _ _ _) (fun v => ?_) rfl
    cases ix <;> first | rfl | cases h4
theorem snd_ret (e : E) : SndS GmU rzs cl k fu (.ret e) := fun {X W p} C st h => by
  cases st <;> first | (cases h; done) | skip
  rename_i v pos
  cases v with
  | none => cases h
  | some v =>
    obtain ⟨h1, h2⟩ := and2 h
    exact ps_retD (nbE h1) ((snd_all e).1 C.ck _ h2)
theorem snd_chkPs (C : Ck GmU cl k X W p) : ∀ {os : List Bool} {es : List E} {xs : List Expr}, chkPs GmU p os es xs = true → PA X xs (tP X.F cl W os (evPs GmU.GT GmU.PhU GmU.RF GmU.KP os es)) ∧ xs.all notStar = true
  | [], [], [], _ => ⟨pa_nilP, rfl⟩
  | false :: os, e :: es, x :: xs, h => by
    obtain ⟨h, h5⟩ := and2 h
    obtain ⟨h, h4⟩ := and2 h
    obtain ⟨h, h3⟩ := and2 h
    obtain ⟨h1, h2⟩ := and2 h
    obtain ⟨q1, q2⟩ := snd_chkPs C h5
    exact ⟨pa_valP h1 (nbE h2) ((snd_all e).1 C x h4) q1, by rw [List.all_cons, h1, q2]; rfl⟩
  | true :: os, e :: es, x :: xs, h => by
    obtain ⟨h, h5⟩ := and2 h
    obtain ⟨h, h4⟩ := and2 h
    obtain ⟨h, h3⟩ := and2 h
    obtain ⟨h1, h2⟩ := and2 h
    obtain ⟨q1, q2⟩ := snd_chkPs C h5
    exact ⟨pa_ownP h1 (nbE h2) (by simpa using h3) ((snd_all e).1 C x h4) q1, by rw [List.all_cons, h1, q2]; rfl⟩
  | [], [], _ :: _, h => by cases h
  | [], _ :: _, _, h => by cases h
  | _ :: _, [], _, h => by cases h
  | _ :: _, _ :: _, [], h => by cases h
theorem notT {b : Bool} (h : (!b) = true) : b = false := by
  cases b
  · rfl
  · cases h
theorem parNames_ok (C : Ck GmU cl k X W p) {i : Nat} {is : List Nat} {x : Str} {q : Pos} {es : List Expr} (h : parNames p (i :: is) (.Name x q :: es) = true) : X.N[i]? = some x ∧ X.env.scope.names.lookup x = some .local ∧ parNames p is es = true := by
  obtain ⟨h, h3⟩ := and2 h
  obtain ⟨h1, h2⟩ := and2 h
  refine ⟨by rw [C.hN]; exact of_decide_eq_true h1, ?_, h3⟩
  rw [C.hsc]
  exact of_decide_eq_true h2
theorem star2 {a b : Expr} (h : [a, b].all notStar = true) : notStar a = true ∧ notStar b = true := by
  simp only [List.all_cons, List.all_nil, Bool.and_true, Bool.and_eq_true] at h
  exact h
theorem star3 {a b c : Expr} (h : [a, b, c].all notStar = true) : notStar a = true ∧ notStar b = true ∧ notStar c = true := by
  simp only [List.all_cons, List.all_nil, Bool.and_true, Bool.and_eq_true] at h
  exact h
theorem bk_fun (C : Ck GmU cl k X W p) (fk : p.sc.kind = .function) : X.env.blockKind = .function := by
  unfold Env.blockKind
  rw [C.hsc, fk]
  rfl
theorem snd_par (is : List Nat) (os : List Bool) (es : List E) : SndS GmU rzs cl k fu (.par is os es) := fun {X W p} C st h => by
  cases st <;> first | (cases h; done) | skip
  rename_i tgs v pos
  have h : chkPar GmU p is os es tgs v = true := h
  match is, os, tgs, v, h with
  | [i, j], [o1, o2], [.Tuple [.Name x px, .Name y py] kt pt], .Tuple [a, b] k2 pt2, h =>
    obtain ⟨h, h7⟩ := and2 h
    obtain ⟨h, h6⟩ := and2 h
    obtain ⟨h, h5⟩ := and2 h
    obtain ⟨h, h4⟩ := and2 h
    obtain ⟨h, h3⟩ := and2 h
    obtain ⟨h1, h2⟩ := and2 h
    obtain ⟨a1, a2, h1⟩ := parNames_ok C.ck h1
    obtain ⟨b1, b2, h1⟩ := parNames_ok C.ck h1
    obtain ⟨q1, q2⟩ := snd_chkPs C.ck h7
    obtain ⟨n1, n2⟩ := star2 q2
    exact ps_par2D C.ck.calm C.ck.nd a1 b1 (of_decide_eq_true h2) a2 b2 q1 (sw2 (bk_fun C.ck C.fk) a2 b2 h3 (by simpa using h4) n1 n2 (notT h5) (notT h6))
  | [i, j, l], [o1, o2, o3], [.Tuple [.Name x px, .Name y py, .Name z pz] kt pt], .Tuple [a, b, c] k2 pt2, h =>
    obtain ⟨h, h12⟩ := and2 h
    obtain ⟨h, h11⟩ := and2 h
    obtain ⟨h, h10⟩ := and2 h
    obtain ⟨h, h9⟩ := and2 h
    obtain ⟨h, h8⟩ := and2 h
    obtain ⟨h, h7⟩ := and2 h
    obtain ⟨h, h6⟩ := and2 h
    obtain ⟨h, h5⟩ := and2 h
    obtain ⟨h, h4⟩ := and2 h
    obtain ⟨h, h3⟩ := and2 h
    obtain ⟨h1, h2⟩ := and2 h
    obtain ⟨a1, a2, h1⟩ := parNames_ok C.ck h1
    obtain ⟨b1, b2, h1⟩ := parNames_ok C.ck h1
    obtain ⟨c1, c2, h1⟩ := parNames_ok C.ck h1
    obtain ⟨q1, q2⟩ := snd_chkPs C.ck h12
    obtain ⟨n1, n2, n3⟩ := star3 q2
    exact ps_par3D C.ck.calm C.ck.nd a1 b1 c1 (of_decide_eq_true h2) (of_decide_eq_true h3) (of_decide_eq_true h4) a2 b2 c2 q1 (sw3 (bk_fun C.ck C.fk) a2 b2 c2 h5 h6 (by simpa using h7) (by simpa using h8) (by simpa using h9) n1 n2 n3 (notT h10) (notT h11))
theorem snd_iteS {c : E} {a b : List S} (ia : SndSs GmU rzs cl k fu a) (ib : SndSs GmU rzs cl k fu b) : SndS GmU rzs cl k fu (.ite c a b) := fun {X W p} C st h => by
  cases st <;> first | (cases h; done) | skip
  obtain ⟨h, h3⟩ := and2 h
  obtain ⟨h1, h2⟩ := and2 h
  exact ps_ifD ((snd_all c).2 C.ck _ h1) (ia C _ h2) (ib C _ h3)
theorem snd_for (tg : Tg) {it : It} {body : List S} (ib : SndSs GmU rzs cl k fu body) : SndS GmU rzs cl k fu (.for tg it body) := fun {X W p} C st h => by
  cases st <;> first | (cases h; done) | skip
  rename_i te iter b orelse pos
  cases orelse with
  | cons _ _ => cases h
  | nil =>
    obtain ⟨h, h4⟩ := and2 h
    obtain ⟨h, h3⟩ := and2 h
    obtain ⟨h1, h2⟩ := and2 h
    exact ps_forD C.po C.ck.calm (snd_it it C.ck te iter h2) (tgOk_pg C.ck h3) (ib C _ h4) (fold_ok h1 X.env)
theorem snd_whl (c : E) {body : List S} (ib : SndSs GmU rzs cl k fu body) : SndS GmU rzs cl k fu (.whl c body) := fun {X W p} C st h => by
  cases st <;> first | (cases h; done) | skip
  rename_i t b orelse pos
  cases orelse with
  | cons _ _ => cases h
  | nil =>
    obtain ⟨h1, h2⟩ := and2 h
    exact ps_whlD fu C.po ((snd_all c).2 C.ck _ h1) (ib C _ h2)
theorem snd_rai (c : Str) (e : E) : SndS GmU rzs cl k fu (.rai c e) := fun {X W p} C st h => by
  cases st <;> first | (cases h; done) | skip
  rename_i v cause pos
  match v, cause, h with
  | some (.Call (.Name n _) [a] [] _), none, h =>
    obtain ⟨h, h6⟩ := and2 h
    obtain ⟨h, h5⟩ := and2 h
    obtain ⟨h, h4⟩ := and2 h
    obtain ⟨h, h3⟩ := and2 h
    obtain ⟨h1, h2⟩ := and2 h
    have e1 := of_decide_eq_true h1
    subst e1
    exact C.rz n (of_decide_eq_true h2) (C.ck.glo h3).1 h4 (nbE h5) ((snd_all e).1 C.ck _ h6)
mutual
theorem snd_s : ∀ s : S, SndS GmU rzs cl k fu s
  | .asg i e => snd_asg i e
  | .asgO i e => snd_asgO i e
  | .asgT is e => snd_asgT is e
  | .par is os es => snd_par is os es
  | .ex e => snd_ex e
  | .app i e => snd_app i e
  | .ext i e => fun C st h => (by cases st <;> cases h)
  | .set i ie e => snd_set i ie e
  | .ret e => snd_ret e
  | .ite c a b => snd_iteS (snd_ss a) (snd_ss b)
  | .for tg it body => snd_for tg (snd_ss body)
  | .whl c body => snd_whl c (snd_ss body)
  | .brk => fun C st h => (by cases st <;> first | exact ps_brkD | cases h)
  | .cnt => fun C st h => (by cases st <;> first | exact ps_cntD | cases h)
  | .pas => fun C st h => (by cases st <;> first | exact ps_passD | cases h)
  | .rai c e => snd_rai c e
  | .bot => fun C st h => ⟨fun pins s σ H D I q => (by obtain ⟨_, _, _, _, _, _, q⟩ := q; exact q.elim)⟩
  | .try b c cs n i => fun C st h => snd_try C.ck C.hs C.hf C.hex h
theorem snd_ss : ∀ ss : List S, SndSs GmU rzs cl k fu ss
  | [] => fun C st h => (by
    cases st with
    | nil => exact pss_nilD
    | cons _ _ => cases h)
  | s :: ss => fun C st h => (by
    cases st with
    | nil => cases h
    | cons x xs =>
      obtain ⟨h1, h2⟩ := and2 h
      exact pss_consD (snd_s s C x h1) (snd_ss ss C xs h2))
end
end
end DL
set_option Elab.async false
set_option linter.all false
set_option maxRecDepth 100000
set_option maxHeartbeats 4000000
/-! DL, part y: defs. -/
namespace DL
open PySem PySem.Spec PyProof.Rows L2
section
variable {P : Program} {w : World} {K : PySem.W.Frag} {mg : Str → Option Value} {base : Heap} {k : Nat} {f : Addr} {name qual : Str} {params : Arguments} {body : List Stmt} {scope : Scope} {dV kV doc pm cdv ct oc : Value} {an od : Option Addr} {osl : Array (Option Value)} {N ps : List Str} {sp : Sp}
abbrev cxG (P : Program) (w : World) (K : PySem.W.Frag) (mg : Str → Option Value) (base : Heap) (N : List Str) (qual : Str) (scope : Scope) (f : Addr) (cdv : Value) (A : Around) (outer : List Env) (s : Shared) (H : Hp) (E : XK) : Cx := cxOf (L2.CX P w) P w K mg base N qual scope f cdv A outer s H E
/-- a def by its body, wherever no repr is under way -/
theorem fn_ofG (lk : K.lookup f = some ⟨oc, od, .func (PySem.W.fnOf name qual params body scope dV kV doc pm an cdv ct), osl⟩) (hcd : PySem.W.codeIn K cdv qual = true) (S : FnScope N ps scope) (len : ∀ vs H Q E, sp vs H Q E → vs.length = ps.length)
    (hbody : ∀ (A : Around) (outer : List Env) (s : Shared) (H : Hp) (vs : List V) (Q : VK) (E : XK), Room k (A.deeper (envOfC qual scope s.heap.objs.size f cdv)) → (A.deeper (envOfC qual scope s.heap.objs.size f cdv)).guards = some [] → sp vs H Q E →
      ∃ t, PSs (cxG P w K mg base N qual scope f cdv A outer s H E) body t ∧ t { nx := fun _ H' => Q .non H', rt := Q } (start N vs) H) :
    FnG P w K mg base (k + 1) f (PySem.W.fnOf name qual params body scope dV kV doc pm an cdv ct) ps sp := by
  refine ⟨len, fun A outer s H args us vs Q E room gd e0 bind rel want => ?_⟩
  have lens := len _ _ _ _ want
  have kin : K.In s.heap := e0.mod.kin.keeps fun b o e => (e0.bs b o e).1
  have nolim : s.heap.NoLimit := e0.mod.nolimit.keeps fun b o e => (e0.bs b o e).1
  have kinds : ∀ y ∈ ps.zip us, scope.names.lookup y.1 = some .local ∨ (scope.names.lookup y.1 = some .cell ∧ ((cellsFrom (s.heap.objs.size + 1) scope.names []).lookup y.1).isSome = true) := fun ⟨n, v⟩ hy =>
    (S.par n (List.of_mem_zip hy).1).imp id fun q => ⟨q, PySem.W.cellsFrom_some _ _ _ (.inl q)⟩
  refine codeAny_call_function room.depth (kin _ _ lk) rfl S.co S.gen rfl (PySem.W.codeRec_of kin hcd) (bind _ _ _ _ ?_)
  refine wpAny_newFunctionEnv_cells S.kind kinds fun env he s1 x => ?_
  subst he
  refine ⟨nolim.keeps x.toInCall.keep, codeAny_func ?_⟩
  obtain ⟨t, ht, hq⟩ := hbody A outer s H vs Q E (room.deeper _) gd want
  have I : Inv (cxG P w K mg base N qual scope f cdv A outer s H E) [] (start N vs) H s1 := inv_start S room.hd e0 lens rel x
  refine wpAny_mono (ht.run [] s1 (start N vs) H _ I hq) (fun fl s' hs => ?_) fun e s' hs => hs
  have leave : ∀ {σ' : L2.St} {H' : Hp} {v : V} {u : Value}, Inv (cxG P w K mg base N qual scope f cdv A outer s H E) [] σ' H' s' → RelV v u → Q v H' → CE outer P w H s Q u s' :=
    fun {σ' H' v u} J rv q => ⟨v, H', J.os, J.bare, J.base, J.hok, rv, q⟩
  cases fl with
  | ret u =>
    obtain ⟨v, σ', H', J, rv, q⟩ := hs
    exact leave J rv q
  | next =>
    obtain ⟨σ', H', J, q⟩ := hs
    exact leave (v := V.non) (u := Value.none) J rfl q
  | brk =>
    obtain ⟨_, _, _, q⟩ := hs
    exact q.elim
  | cont =>
    obtain ⟨_, _, _, q⟩ := hs
    exact q.elim
/-! ### the state at a def's entry -/
def noD (n : Nat) : DEnv := List.replicate n .no
theorem start_at {vs : List V} {i : Nat} (h : i < vs.length) : (start N vs)[i]? = some (vs[i]?) := by
  unfold L2.start
  rw [List.getElem?_append_left (by simpa using h), List.getElem?_map]
  simp [h]
theorem start_len {vs : List V} (h : vs.length ≤ N.length) : (start N vs).length = N.length := by
  unfold L2.start
  rw [List.length_append, List.length_map, List.length_replicate]
  omega
theorem stt_val {R H : Hp} (sb : Sb R H) {vs : List V} {ds : List PyData} (hl : RpL ⟨K, w, clOf mg⟩ R vs ds) (hn : vs.length ≤ N.length) : Stt ⟨K, w, clOf mg⟩ R H [] (ds.map Slot.val ++ noD (N.length - ds.length)) (start N vs) R H := by
  have isval : ∀ (i : Nat) (s : Slot), (ds.map Slot.val ++ noD (N.length - ds.length))[i]? = some s → s = .no ∨ ∃ d v, s = .val d ∧ vs[i]? = some v ∧ i < vs.length ∧ Rp ⟨K, w, clOf mg⟩ R v d := fun i s e => by
    by_cases hi : i < ds.length
    · rw [List.getElem?_append_left (by simpa using hi), List.getElem?_map] at e
      obtain ⟨d, e1, rfl⟩ := Option.map_eq_some_iff.mp e
      obtain ⟨v, v1, v2⟩ := hl.atD e1
      exact .inr ⟨d, v, rfl, v1, by rw [hl.len]; exact hi, v2⟩
    · rw [List.getElem?_append_right (by simpa using hi)] at e
      unfold noD at e
      rw [List.getElem?_replicate] at e
      split at e
      · cases e; exact .inl rfl
      · cases e
  refine ⟨sb, Le.refl R, fun a q => .inl q, fun b o e _ => e, fun a h => (by cases h), fun a h => (by cases h), ?_, fun i s e => ?_, fun i j s s' a e e' o o' x x' => ?_⟩
  · rw [List.length_append, List.length_map, start_len hn]
    unfold noD
    rw [List.length_replicate]
    have := hl.len
    omega
  · rcases isval i s e with rfl | ⟨d, v, rfl, h1, h2, h3⟩
    · trivial
    · exact ⟨v, by rw [start_at h2, h1], h3⟩
  · rcases isval i s e with rfl | ⟨d, v, rfl, _⟩ <;> cases o
theorem ArgR.parts {R H : Hp} {a : Addr} : ∀ {j : Nat} {vs : List V} {ds : List PyData}, ArgR ⟨K, w, clOf mg⟩ R H a j vs ds → vs.length = ds.length ∧ j < ds.length ∧ vs[j]? = some (.ref a) ∧ (∃ d, ds[j]? = some d ∧ CellIs ⟨K, w, clOf mg⟩ R H a d) ∧ ∀ i d, i ≠ j → ds[i]? = some d → ∃ v, vs[i]? = some v ∧ Rp ⟨K, w, clOf mg⟩ R v d
  | _, _, _, .here c l => ⟨congrArg Nat.succ l.len, by simp, rfl, ⟨_, rfl, c⟩, fun i d n e => by
    cases i with
    | zero => exact absurd rfl n
    | succ i => exact l.atD (by simpa using e)⟩
  | _, _, _, .there h t => by
    obtain ⟨h1, h2, h3, ⟨d, h4, h5⟩, h6⟩ := t.parts
    refine ⟨congrArg Nat.succ h1, by simpa using h2, by simpa using h3, ⟨d, by simpa using h4, h5⟩, fun i d' n e => ?_⟩
    cases i with
    | zero => simp at e; subst e; exact ⟨_, rfl, h⟩
    | succ i =>
      obtain ⟨v, e1, e2⟩ := h6 i d' (fun z => n (by rw [z])) (by simpa using e)
      exact ⟨v, by simpa using e1, e2⟩
theorem stt_ref {R H : Hp} (sb : Sb R H) {a : Addr} {j : Nat} {vs : List V} {ds : List PyData} (hl : ArgR ⟨K, w, clOf mg⟩ R H a j vs ds) (hR : R a = none) {d0 : PyData} {s0 : Slot} (h0 : ds[j]? = some d0) (hs : refSlot d0 = some s0) (hn : vs.length ≤ N.length) :
    Stt ⟨K, w, clOf mg⟩ R H [a] ((ds.map Slot.val).set j s0 ++ noD (N.length - ds.length)) (start N vs) R H := by
  obtain ⟨p1, p2, p3, ⟨d1, p4, p5⟩, p6⟩ := hl.parts
  rw [h0] at p4
  cases p4
  have cases3 : ∀ (i : Nat) (s : Slot), ((ds.map Slot.val).set j s0 ++ noD (N.length - ds.length))[i]? = some s → s = .no ∨ (i = j ∧ s = s0) ∨ ∃ d v, i ≠ j ∧ s = .val d ∧ vs[i]? = some v ∧ Rp ⟨K, w, clOf mg⟩ R v d := fun i s e => by
    by_cases hi : i < ds.length
    · rw [List.getElem?_append_left (by simpa using hi)] at e
      rcases get_set e with ⟨rfl, rfl⟩ | ⟨n, e⟩
      · exact .inr (.inl ⟨rfl, rfl⟩)
      · rw [List.getElem?_map] at e
        obtain ⟨d, e1, rfl⟩ := Option.map_eq_some_iff.mp e
        obtain ⟨v, v1, v2⟩ := p6 i d n e1
        exact .inr (.inr ⟨d, v, n, rfl, v1, v2⟩)
    · rw [List.getElem?_append_right (by simpa using hi)] at e
      unfold noD at e
      rw [List.getElem?_replicate] at e
      split at e
      · cases e; exact .inl rfl
      · cases e
  have jv : j < vs.length := by rw [p1]; exact p2
  have at_ : ∀ i v, vs[i]? = some v → (start N vs)[i]? = some (some v) := fun i v e => by
    rw [start_at (List.getElem?_eq_some_iff.mp e).1, e]
  have hne : H a ≠ none := by
    cases d0 with
    | list l => obtain ⟨xs, e, _⟩ := p5; rw [e]; simp
    | dict l => obtain ⟨xs, e, _⟩ := p5; rw [e]; simp
    | _ => cases p5
  refine ⟨sb, Le.refl R, fun a q => .inl q, fun b o e _ => e, fun b h => ?_, fun b h => ?_, ?_, fun i s e => ?_, fun i k s s' b e e' o o' x x' => ?_⟩
  · rw [List.mem_singleton.mp h]; exact hne
  · rw [List.mem_singleton.mp h]; exact ⟨hne, hR⟩
  · rw [List.length_append, List.length_set, List.length_map, start_len hn]
    unfold noD
    rw [List.length_replicate]
    omega
  · rcases cases3 i s e with rfl | ⟨rfl, rfl⟩ | ⟨d, v, n, rfl, h1, h2⟩
    · trivial
    · cases d0 with
      | list l =>
        cases hs
        obtain ⟨xs, e1, e2⟩ := p5
        exact ⟨a, xs, at_ _ _ p3, e1, e2, hR, by simp⟩
      | dict l =>
        cases hs
        obtain ⟨xs, e1, e2⟩ := p5
        exact ⟨a, xs, at_ _ _ p3, e1, e2, hR, by simp⟩
      | _ => cases hs
    · exact ⟨v, at_ i v h1, h2⟩
  · rcases cases3 i s e with rfl | ⟨rfl, rfl⟩ | ⟨d, v, n, rfl, h1, h2⟩
    · cases o
    · rcases cases3 k s' e' with rfl | ⟨rfl, rfl⟩ | ⟨d, v, n, rfl, h1, h2⟩
      · cases o'
      · rfl
      · cases o'
    · cases o
end
/-- what the raising of an own error asks of the classes -/
def RzOk (rzs : List Str) (cl : Cls) (X : Cx) (W : XK) : Prop := ∀ c ∈ rzs, ∀ {e : E} {f : DEnv → OV} {a : Expr} {q pos pos' : Pos}, Gl X c → notStar a = true → isBor e = none → PE X a (tN X.F cl W e f) →
  PS X (.Raise (some (.Call (.Name c q) [a] [] pos')) none pos) (tS X.F cl W fun ρ => Fl.of (f ρ) fun d _ => .exc c d)
section
variable {P : Program} {w : World} {K : PySem.W.Frag} {mg : Str → Option Value} {base : Heap} {k : Nat} {f : Addr} {name qual : Str} {params : Arguments} {body : List Stmt} {scope : Scope} {dV kV doc pm cdv ct oc : Value} {an od : Option Addr} {osl : Array (Option Value)} {N ps : List Str}
theorem aft_of {R H R' H' : Hp} {G : List Addr} {ρ : DEnv} {σ : L2.St} (S : Stt ⟨K, w, clOf mg⟩ R H G ρ σ R' H') : Aft R H G R' H' := S.aft
/-- what a def leaves of what it was handed to change -/
theorem out_cell {R H R' H' : Hp} {a : Addr} {ρ : DEnv} {σ : L2.St} {j : Nat} {o : PyData} (S : Stt ⟨K, w, clOf mg⟩ R H [a] ρ σ R' H') (h : outD ρ (some j) = some o) : CellIs ⟨K, w, clOf mg⟩ R' H' a o := by
  have h : (match ρ[j]? with
    | some (.own true l) => some (PyData.list l)
    | some (.ownD true l) => some (PyData.dict l)
    | _ => none) = some o := h
  cases hs : ρ[j]? with
  | none => rw [hs] at h; cases h
  | some s =>
    rw [hs] at h
    have ok := S.sl j s hs
    cases s with
    | no => cases h
    | val _ => cases h
    | exc _ _ => cases h
    | own r l =>
      cases r with
      | false => cases h
      | true =>
        cases h
        obtain ⟨b, xs, e1, e2, e3, _, e5⟩ := ok
        have e : b = a := by simpa using e5
        subst e
        exact ⟨xs, e2, e3⟩
    | ownD r l =>
      cases r with
      | false => cases h
      | true =>
        cases h
        obtain ⟨b, xs, e1, e2, e3, _, e5⟩ := ok
        have e : b = a := by simpa using e5
        subst e
        exact ⟨xs, e2, e3⟩
/-- what is known of the text's surroundings -/
structure Facts (P : Program) (w : World) (K : PySem.W.Frag) (mg : Str → Option Value) (base : Heap) (cl : Cls) (k : Nat) (GmU : Env2) : Prop where
  one : ∃ o, base.get? 1 = some o
  fr : ∀ x ∈ bnames, mg x = none
  gl : ∀ (j : Nat) (q : Str × PyData), GmU.GT[j]? = some q → ∃ v u, mg q.1 = some u ∧ RelV v u ∧ ∀ R, Rp ⟨K, w, clOf mg⟩ R v q.2
  fns : ∀ g, GmU.Kn g = true → FnAt P w K mg base cl k (GmU.fnm g) (GmU.RF g) (GmU.PhU g)
  kws : ∀ g ks ns, GmU.KK g ks = some ns → FnKw P w K mg base cl k (GmU.fnm g) (GmU.PhU g) ns (GmU.KP g ks)
  fnN : ∀ g, GmU.KnN g = true → FnNew P w K mg base cl k (GmU.fnm g) (GmU.PhU g)
  xc : ∀ c, GmU.XC c = true → (∃ D fI, OffC K mg D fI c (clOf mg c)) ∧ ExcC K (clOf mg c) ∧ cl c = clOf mg c ∧ PySem.W.kitOne K (.type "NoneType") (.ref (clOf mg c)) = some false
  xk : ∀ c x, GmU.XC c = true → GmU.XC x = true → PySem.W.kitOne K (.ref (clOf mg c)) (.ref (clOf mg x)) = some (subC c x) ∧ PySem.W.exmOne K (.ref (clOf mg c)) (.ref (clOf mg x)) = some (subC c x)
theorem Facts.ck {GmU : Env2} {cl : Cls} (F : Facts P w K mg base cl k GmU) (S : FnScope N ps scope) {A : Around} {outer : List Env} {s : Shared} {H : Hp} {E : XK} (gd : (A.deeper (envOfC qual scope s.heap.objs.size f cdv)).guards = some []) (room : Room k (A.deeper (envOfC qual scope s.heap.objs.size f cdv))) :
    Ck GmU cl k (cxG P w K mg base N qual scope f cdv A outer s H E) E ⟨N, scope, fun _ => true⟩ :=
  { hN := rfl, hsc := rfl, hfn := fun _ _ => rfl, nd := S.nd, calm := rfl, gd := gd, one := F.one, room := room, tk := takes_of rfl rfl rfl rfl, fr := F.fr, gl := F.gl, fns := F.fns, kws := F.kws, fnN := F.fnN,
    xc := fun c h => ⟨⟨(F.xc c h).1, (F.xc c h).2.1⟩, (F.xc c h).2.2⟩, xk := F.xk }
theorem def_ok {GmU : Env2} {rzs : List Str} {cl : Cls} {D : Def} (fu : Nat) (lk : K.lookup f = some ⟨oc, od, .func (PySem.W.fnOf name qual params body scope dV kV doc pm an cdv ct), osl⟩) (hcd : PySem.W.codeIn K cdv qual = true) (S : FnScope N ps scope)
    (hpn : D.pn = ps.length) (hnn : D.nn = N.length) (hle : ps.length ≤ N.length) (chk : chkSs GmU rzs ⟨N, scope, fun _ => true⟩ D.body body = true)
    (F : Facts P w K mg base cl k GmU)
    (rz : ∀ (A : Around) (outer : List Env) (s : Shared) (H : Hp) (E : XK), Room k (A.deeper (envOfC qual scope s.heap.objs.size f cdv)) → RzOk rzs cl (cxG P w K mg base N qual scope f cdv A outer s H E) E) :
    FnG P w K mg base (k + 1) f (PySem.W.fnOf name qual params body scope dV kV doc pm an cdv ct) ps (spD ⟨K, w, clOf mg⟩ cl D.ref (runD GmU.GT GmU.PhU GmU.RF GmU.KP fu D)) := by
  have lens : ∀ vs H Q E, spD ⟨K, w, clOf mg⟩ cl D.ref (runD GmU.GT GmU.PhU GmU.RF GmU.KP fu D) vs H Q E → vs.length = ps.length := fun vs H Q E ⟨R, ds, G, sb, ar, h⟩ => by
    unfold runD at h
    by_cases hd : ds.length = D.pn
    · have e : vs.length = ds.length := by
        unfold ArgsR at ar
        split at ar
        · exact ar.2.len
        · obtain ⟨a, _, _, q⟩ := ar
          exact q.parts.1
      rw [e, hd, hpn]
    · simp only [if_neg hd] at h
  refine fn_ofG lk hcd S lens fun A outer s H vs Q E room gd want => ⟨tS ⟨K, w, clOf mg⟩ cl E (execs GmU.GT GmU.PhU GmU.RF GmU.KP fu D.body), ?_, ?_⟩
  · have C : Cs GmU rzs cl k (cxG P w K mg base N qual scope f cdv A outer s H E) E ⟨N, scope, fun _ => true⟩ :=
      { ck := F.ck S gd room,
        fk := S.kind, hs := rfl, hf := rfl, hex := rfl, po := passes_of rfl, rz := rz A outer s H E room }
    exact snd_ss D.body C body chk
  · obtain ⟨R, ds, G, sb, ar, h⟩ := want
    have hv := lens vs H Q E ⟨R, ds, G, sb, ar, h⟩
    unfold runD at h
    by_cases hd : ds.length = D.pn
    · simp only [if_pos hd] at h
      have enn : D.nn - D.pn = N.length - ds.length := by rw [hnn, ← hd]
      cases hρ : startD D.ref ds with
      | none => simp only [hρ] at h
      | some ρ0 =>
        simp only [hρ] at h
        have St0 : Stt ⟨K, w, clOf mg⟩ R H G (ρ0 ++ noD (N.length - ds.length)) (start N vs) R H := by
          unfold startD at hρ
          unfold ArgsR at ar
          cases hr : D.ref with
          | none =>
            rw [hr] at hρ ar
            cases hρ
            obtain ⟨rfl, l⟩ := ar
            exact stt_val sb l (by rw [hv]; exact hle)
          | some j =>
            rw [hr] at hρ ar
            obtain ⟨a, rfl, hR, q⟩ := ar
            obtain ⟨d0, e1, hρ⟩ := Option.bind_eq_some_iff.mp hρ
            obtain ⟨s0, e2, rfl⟩ := Option.map_eq_some_iff.mp hρ
            exact stt_ref sb q hR e1 e2 (by rw [hv]; exact hle)
        rw [enn] at h
        refine ⟨R, H, G, _, R, St0, ?_⟩
        have cell : ∀ {ρ' : DEnv} {σ' : L2.St} {R' H' : Hp} {o : PyData}, Stt ⟨K, w, clOf mg⟩ R H G ρ' σ' R' H' → outD ρ' D.ref = some o → ∀ a ∈ G, CellIs ⟨K, w, clOf mg⟩ R' H' a o := fun {ρ' σ' R' H' o} S' ho a ha => by
          unfold ArgsR at ar
          cases hr : D.ref with
          | none =>
            rw [hr] at ar
            obtain ⟨rfl, _⟩ := ar
            cases ha
          | some j =>
            rw [hr] at ar ho
            obtain ⟨b, rfl, _, _⟩ := ar
            have e : a = b := by simpa using ha
            subst e
            exact out_cell S' ho
        have e9 : List.replicate (N.length - ds.length) Slot.no = noD (N.length - ds.length) := rfl
        rw [e9] at h
        cases hx : execs GmU.GT GmU.PhU GmU.RF GmU.KP fu D.body (ρ0 ++ noD (N.length - ds.length)) with
        | rt d ρ' =>
          rw [hx] at h
          simp only [Out.ofOpt, Out.bind] at h
          cases ho : outD ρ' D.ref with
          | none => rw [ho] at h; exact h.elim
          | some o =>
            rw [ho] at h
            exact fun v σ' R' H' S' l p => h v R' H' S'.aft p (cell S' ho)
        | nx ρ' =>
          rw [hx] at h
          simp only at h
          cases ho : outD ρ' D.ref with
          | none => rw [ho] at h; exact h.elim
          | some o =>
            rw [ho] at h
            exact fun σ' R' H' S' l => h .non R' H' S'.aft .non (cell S' ho)
        | exc c d =>
          rw [hx] at h
          exact h
        | bk ρ' => rw [hx] at h; exact h.elim
        | ct ρ' => rw [hx] at h; exact h.elim
        | bad => rw [hx] at h; exact h.elim
    · simp only [if_neg hd] at h
end
/-! ### defs that hand back a list just made -/
section
variable (GmU : Env2) (rzs : List Str)
def chkN (p : Pl) : List S → E → List Stmt → Bool
  | [], e, [.Return (some v) _] => nb e && !old e && chkE GmU p e v
  | s :: ss, e, x :: xs => chkS GmU rzs p s x && chkN p ss e xs
  | _, _, _ => false
end
def evN (GT : List (Str × PyData)) (PhU : Nat → Fun) (RF : Refs) (KP : Nat → List Nat → List Nat) (fu : Nat) : List S → E → DEnv → OV
  | [], e, ρ => ev GT PhU RF KP e ρ
  | s :: ss, e, ρ => (match exec GT PhU RF KP fu s ρ with
    | .nx ρ' => evN GT PhU RF KP fu ss e ρ'
    | .exc c d => .exc c d
    | _ => .bad)
def runN (GT : List (Str × PyData)) (PhU : Nat → Fun) (RF : Refs) (KP : Nat → List Nat → List Nat) (fu : Nat) (pn nn : Nat) (ss : List S) (e : E) : Fun := fun ds =>
  if ds.length = pn then (match evN GT PhU RF KP fu ss e (ds.map Slot.val ++ List.replicate (nn - pn) .no) with
    | .ok x => (match x.1 with
      | .list l => .ok (.list l, .none)
      | _ => .bad)
    | .exc c d => .exc c d
    | .bad => .bad) else .bad
/-- what is handed back is new -/
def tSN (K : Frg) (cl : Cls) (W : XK) (f : DEnv → OV) : TS := fun D σ H => ∃ R0 H0 G ρ R, Stt K R0 H0 G ρ σ R H ∧ (match f ρ with
  | .ok x => ∀ σ' v R' H', Stt K R0 H0 G x.2 σ' R' H' → Le R R' → NewP false K x.2 σ' R' H0 H' v x.1 → D.rt v H'
  | .exc c d => Wsh K cl R0 H0 G W c d
  | .bad => False)
section
variable {GmU : Env2} {rzs : List Str} {cl : Cls} {k : Nat} {X : Cx} {W : XK} {p : Pl} {fu : Nat}
theorem snd_N (C : Cs GmU rzs cl k X W p) {e : E} : ∀ {ss : List S} {xs : List Stmt}, chkN GmU rzs p ss e xs = true → PSs X xs (tSN X.F cl W (evN GmU.GT GmU.PhU GmU.RF GmU.KP fu ss e))
  | [], xs, h => by
    rcases xs with _ | ⟨x, _ | ⟨_, _⟩⟩
    · cases h
    rotate_left
    · cases x <;> first | (cases h; done) | (rename_i v _; cases v <;> cases h)
    cases x <;> first | (cases h; done) | skip
    rename_i v pos
    cases v with
    | none => cases h
    | some v =>
      obtain ⟨h, h3⟩ := and2 h
      obtain ⟨h1, h2⟩ := and2 h
      have ho : old e = false := by simpa using h2
      have pe := (snd_all (cl := cl) (k := k) e).1 C.ck v h3
      refine pss_one (ps_imp (t' := tSN X.F cl W (evN GmU.GT GmU.PhU GmU.RF GmU.KP fu [] e)) (ps_ret pe) ?_)
      rintro D σ H ⟨R0, H0, G, ρ, R, S, h⟩
      refine ⟨R0, H0, G, ρ, R, S, ?_⟩
      have h : (match ev GmU.GT GmU.PhU GmU.RF GmU.KP e ρ with
        | .ok x => ∀ σ' v R' H', Stt X.F R0 H0 G x.2 σ' R' H' → Le R R' → NewP false X.F x.2 σ' R' H0 H' v x.1 → D.rt v H'
        | .exc c d => Wsh X.F cl R0 H0 G W c d
        | .bad => False) := h
      show ResN X.F cl W R0 H0 G e σ R _ (ev GmU.GT GmU.PhU GmU.RF GmU.KP e ρ)
      cases hf : ev GmU.GT GmU.PhU GmU.RF GmU.KP e ρ with
      | bad => rw [hf] at h; exact h
      | exc c d => rw [hf] at h; exact h
      | ok x =>
        rw [hf] at h
        refine fun v R' H' S' l o => h σ v R' H' S' l ?_
        unfold OpN at o
        rw [nbE h1, ho] at o
        exact o
  | s :: ss, xs, h => by
    cases xs with
    | nil => cases h
    | cons x xs =>
      obtain ⟨h1, h2⟩ := and2 h
      have p1 := snd_s (fu := fu) s C x h1
      have p2 := snd_N C h2
      have pc := pss_cons p1 p2
      refine pss_imp (t' := tSN X.F cl W (evN GmU.GT GmU.PhU GmU.RF GmU.KP fu (s :: ss) e)) pc ?_
      rintro D σ H ⟨R0, H0, G, ρ, R, S, h⟩
      have h : (match (match exec GmU.GT GmU.PhU GmU.RF GmU.KP fu s ρ with
        | .nx ρ' => evN GmU.GT GmU.PhU GmU.RF GmU.KP fu ss e ρ'
        | .exc c d => .exc c d
        | _ => .bad) with
        | .ok x => ∀ σ' v R' H', Stt X.F R0 H0 G x.2 σ' R' H' → Le R R' → NewP false X.F x.2 σ' R' H0 H' v x.1 → D.rt v H'
        | .exc c d => Wsh X.F cl R0 H0 G W c d
        | .bad => False) := h
      refine ⟨R0, H0, G, ρ, R, S, ?_⟩
      cases hf : exec GmU.GT GmU.PhU GmU.RF GmU.KP fu s ρ with
      | bad => rw [hf] at h; exact h.elim
      | rt _ _ => rw [hf] at h; exact h.elim
      | bk _ => rw [hf] at h; exact h.elim
      | ct _ => rw [hf] at h; exact h.elim
      | exc c d => rw [hf] at h; exact h
      | nx ρ1 =>
        rw [hf] at h
        refine fun σ1 R1 H1 S1 l1 => ⟨R0, H0, G, ρ1, R1, S1, ?_⟩
        dsimp only at h ⊢
        cases hg : evN GmU.GT GmU.PhU GmU.RF GmU.KP fu ss e ρ1 with
        | bad => rw [hg] at h; exact h
        | exc c d => rw [hg] at h; exact h
        | ok y =>
          rw [hg] at h
          exact fun σ' v R' H' S' l o => h σ' v R' H' S' (l1.trans l) o
end
section
variable {P : Program} {w : World} {K : PySem.W.Frag} {mg : Str → Option Value} {base : Heap} {k : Nat} {f : Addr} {name qual : Str} {params : Arguments} {body : List Stmt} {scope : Scope} {dV kV doc pm cdv ct oc : Value} {an od : Option Addr} {osl : Array (Option Value)} {N ps : List Str}
theorem def_okN {GmU : Env2} {rzs : List Str} {cl : Cls} {pn nn : Nat} {ss : List S} {e : E} (fu : Nat) (lk : K.lookup f = some ⟨oc, od, .func (PySem.W.fnOf name qual params body scope dV kV doc pm an cdv ct), osl⟩) (hcd : PySem.W.codeIn K cdv qual = true) (S : FnScope N ps scope)
    (hpn : pn = ps.length) (hnn : nn = N.length) (hle : ps.length ≤ N.length) (chk : chkN GmU rzs ⟨N, scope, fun _ => true⟩ ss e body = true)
    (F : Facts P w K mg base cl k GmU)
    (rz : ∀ (A : Around) (outer : List Env) (s : Shared) (H : Hp) (E : XK), Room k (A.deeper (envOfC qual scope s.heap.objs.size f cdv)) → RzOk rzs cl (cxG P w K mg base N qual scope f cdv A outer s H E) E) :
    FnG P w K mg base (k + 1) f (PySem.W.fnOf name qual params body scope dV kV doc pm an cdv ct) ps (spN ⟨K, w, clOf mg⟩ cl (runN GmU.GT GmU.PhU GmU.RF GmU.KP fu pn nn ss e)) := by
  have lens : ∀ vs H Q E, spN ⟨K, w, clOf mg⟩ cl (runN GmU.GT GmU.PhU GmU.RF GmU.KP fu pn nn ss e) vs H Q E → vs.length = ps.length := fun vs H Q E ⟨R, ds, sb, ar, h⟩ => by
    unfold runN at h
    by_cases hd : ds.length = pn
    · rw [ar.len, hd, hpn]
    · simp only [if_neg hd] at h
  refine fn_ofG lk hcd S lens fun A outer s H vs Q E room gd want => ⟨tSN ⟨K, w, clOf mg⟩ cl E (evN GmU.GT GmU.PhU GmU.RF GmU.KP fu ss e), ?_, ?_⟩
  · have C : Cs GmU rzs cl k (cxG P w K mg base N qual scope f cdv A outer s H E) E ⟨N, scope, fun _ => true⟩ :=
      { ck := F.ck S gd room,
        fk := S.kind, hs := rfl, hf := rfl, hex := rfl, po := passes_of rfl, rz := rz A outer s H E room }
    exact snd_N C chk
  · obtain ⟨R, ds, sb, ar, h⟩ := want
    have hv := lens vs H Q E ⟨R, ds, sb, ar, h⟩
    unfold runN at h
    by_cases hd : ds.length = pn
    · simp only [if_pos hd] at h
      have enn : nn - pn = N.length - ds.length := by rw [hnn, ← hd]
      rw [enn] at h
      have St0 := stt_val (N := N) sb ar (by rw [hv]; exact hle)
      refine ⟨R, H, [], _, R, St0, ?_⟩
      have e9 : List.replicate (N.length - ds.length) Slot.no = noD (N.length - ds.length) := rfl
      rw [e9] at h
      cases hx : evN GmU.GT GmU.PhU GmU.RF GmU.KP fu ss e (ds.map Slot.val ++ noD (N.length - ds.length)) with
      | bad => rw [hx] at h; exact h.elim
      | exc c d => rw [hx] at h; exact h
      | ok x =>
        rw [hx] at h
        obtain ⟨d, ρ1⟩ := x
        cases d <;> first | exact h.elim | skip
        rename_i l
        dsimp only at h
        obtain ⟨l2, e2, h⟩ := h
        cases e2
        intro σ' v R' H' S' le o
        cases o with
        | rp _ z => rcases z with z | z <;> cases z
        | @lst q xs _ fr hp r => exact h q xs R' H' S'.aft fr.h fr.r hp r
    · simp only [if_neg hd] at h
end
end DL
set_option Elab.async false
set_option linter.all false
set_option maxRecDepth 100000
set_option maxHeartbeats 2000000
/-! DL, part z: a zip held by a name: n = zip(a, b, c), then return sum([.. for .. in n]). -/
namespace DL
open PySem PySem.Spec PyProof.Rows L2
def dropH (H : Hp) (fp : List Addr) : Hp := fun b => if b ∈ fp then none else H b
def extO (ob : Addr → Obj) (b : Addr) : HO := .ext fun h => h.get? b = some (ob b)
def extH (H : Hp) (fp : List Addr) (ob : Addr → Obj) : Hp := fun b => if b ∈ fp then some (extO ob b) else H b
theorem drop_ext {H : Hp} {fp : List Addr} {ob : Addr → Obj} (n : ∀ b ∈ fp, H b = none) : dropH (extH H fp ob) fp = H := funext fun b => by
  unfold dropH extH
  by_cases h : b ∈ fp
  · rw [if_pos h, n b h]
  · rw [if_neg h, if_neg h]
section
variable {X : Cx} {pins : List (Addr × Obj)} {σ : L2.St} {H : Hp} {s : Shared} {fp : List Addr} {ob : Addr → Obj}
theorem Inv.dropE (I : Inv X pins σ H s) (h : ∀ b ∈ fp, H b = some (extO ob b)) : Inv X pins σ (dropH H fp) s := by
  have keep : ∀ b u, H b = some u → (∀ c, u ≠ extO ob c) → dropH H fp b = some u := fun b u e n => by
    unfold dropH
    rw [if_neg fun m => ?_]
    · exact e
    · rw [h b m] at e
      cases e
      exact n b rfl
  have none_ : ∀ b, H b = none → dropH H fp b = none := fun b e => by
    unfold dropH
    split
    · rfl
    · exact e
  refine ⟨I.ok, I.os, I.bare, ⟨I.base.keep, I.base.slot, fun b o e n hx => none_ b (I.base.free b o e n hx), I.base.there, fun b xs e => keep b _ (I.base.tups b xs e) (fun c z => by cases z), fun b o u e => keep b _ (I.base.frzs b o u e) (fun c z => by cases z), fun b ps e => ?_⟩, I.loc, I.cell, none_ _ I.free, fun x c e => none_ c (I.freeC x c e), fun p hp => ?_, fun b u e => ?_, I.len⟩
  · obtain ⟨m, q⟩ := I.base.tbls b ps e
    exact ⟨m, keep b _ q (fun c z => by cases z)⟩
  · obtain ⟨h1, h2, h3⟩ := I.pin p hp
    exact ⟨h1, none_ _ h2, h3⟩
  · have e1 : H b = some u := by
      unfold dropH at e
      split at e
      · cases e
      · exact e
    exact (I.hok b u e1).stay (fun c v _ q => q) (fun c q => keep c _ q (fun c z => by cases z)) fun c xs q => keep c _ q (fun c z => by cases z)
theorem Inv.trackE (I : Inv X pins σ H s) (hf : ∀ b ∈ fp, FpOk X pins H b ∧ X.s_0.heap.objs.size ≤ b ∧ s.heap.get? b = some (ob b)) : Inv X pins σ (extH H fp ob) s := by
  have old_ : ∀ b u, H b = some u → extH H fp ob b = some u := fun b u e => by
    unfold extH
    rw [if_neg fun m => ?_]
    · exact e
    · rw [(hf b m).1.1] at e
      cases e
  have none_ : ∀ b, b ∉ fp → H b = none → extH H fp ob b = none := fun b n e => by
    unfold extH
    rw [if_neg n]
    exact e
  refine ⟨I.ok, I.os, I.bare, ⟨I.base.keep, I.base.slot, fun b o e n hx => none_ b (fun m => ?_) (I.base.free b o e n hx), I.base.there, fun b xs e => old_ b _ (I.base.tups b xs e), fun b o u e => old_ b _ (I.base.frzs b o u e), fun b ps e => ?_⟩, I.loc, I.cell, none_ _ (fun m => (hf _ m).1.2.1 rfl) I.free, fun x c e => none_ c (fun m => (hf _ m).1.2.2.2.2.1 x c e rfl) (I.freeC x c e), fun p hp => ?_, fun b u e => ?_, I.len⟩
  · exact absurd (Heap.lt_size e) (Nat.not_lt.mpr (hf b m).2.1)
  · obtain ⟨m, q⟩ := I.base.tbls b ps e
    exact ⟨m, old_ b _ q⟩
  · obtain ⟨h1, h2, h3⟩ := I.pin p hp
    exact ⟨h1, none_ _ (fun m => (hf _ m).1.2.2.2.2.2 p hp rfl) h2, h3⟩
  · unfold extH at e
    split at e
    · rename_i m
      cases e
      have q := (hf b m).2.2
      exact ⟨q, ⟨_, q⟩, fun h1 h2 z k => k _ z⟩
    · exact (I.hok b u e).stay (fun c v _ q => q) (fun c q => old_ c _ q) fun c xs q => old_ c _ q
end
theorem Stt.more {K : Frg} {R0 H0 R H H' : Hp} {G : List Addr} {ρ : DEnv} {σ : L2.St} (S : Stt K R0 H0 G ρ σ R H) (h : ∀ a, H a ≠ none → H' a = H a) : Stt K R0 H0 G ρ σ R H' := by
  have h1 : ∀ a u, H a = some u → H' a = some u := fun a u e => by rw [h a (by rw [e]; simp)]; exact e
  refine ⟨fun a u e => ?_, S.old, S.new, fun b o e g => h1 b o (S.keep b o e g), S.g0, fun a g => ?_, S.len, fun i s e => ?_, S.ap⟩
  · rcases S.sub a u e with z | ⟨o, xs, z, q⟩
    · exact .inl (h1 a u z)
    · exact .inr ⟨o, xs, z, h1 a _ q⟩
  · obtain ⟨g1, g2⟩ := S.gH a g
    exact ⟨by rw [h a g1]; exact g1, g2⟩
  · refine (S.sl i s e).mono (Le.refl _) fun a o x => ?_
    obtain ⟨g1, g2⟩ := S.ownAt e o x
    exact ⟨h a g1, g2⟩
/-- an iterator that has been made, its objects as they stood in h0 -/
structure HeldZ (X : Cx) (tgE : Expr) (J : L2.It) (it : Addr) (fp : List Addr) (tn : Nat → Heap → Prop) (h0 : Heap) (ob : Addr → Obj) : Prop where
  t : Turn X.prog X.w X.K tgE J fp it tn
  z : tn 0 h0
  o : ∀ b ∈ fp, h0.get? b = some (ob b)
  f : ∀ b ∈ fp, b ∉ X.fs ∧ X.s_0.heap.objs.size ≤ b
/-- zip(a, b, c) as a value -/
def tZH (X : Cx) (tgE : Expr) (ta : TA) : TE := fun σ H Q => ta σ H fun vs H1 => ∃ k1 k2 k3 a b c xs ys zs, vs = [.ref a, .ref b, .ref c] ∧ Sk.has X.K H1 a xs k1 ∧ Sk.has X.K H1 b ys k2 ∧ Sk.has X.K H1 c zs k3 ∧
  ∀ it fp tn h0 ob, HeldZ X tgE (Iz3 X.K k1 k2 k3 a b c) it fp tn h0 ob → (∀ b ∈ fp, H1 b = none) → Q (.ref it) (extH H1 fp ob)
section
variable {X : Cx} {as : List Expr} {e : Expr} {ta : TA} {p pos tpos : Pos} {elts : List Expr} {kk : Nat}
theorem pe_zipH (hex : X.ex = []) (hg : Gl X "zip") (hm : X.mg "zip" = none) (ha : PA X (e :: as) ta) (hs : (e :: as).all notStar = true) : PE X (.Call (.Name "zip" p) (e :: as) [] pos) (tZH X (.Tuple elts kk tpos) ta) := by
  refine ⟨fun pins s σ H Q I h => ?_⟩
  rw [List.all_cons, Bool.and_eq_true] at hs
  refine Call_ (ld_blt I hg hm PyProof.Rows.boot_zip (PyProof.Rows.callWith_type1 (thn (ha.run pos pins s σ H _ I h) fun us s1 ⟨vs, H1, I1, r1, q1⟩ => ?_) (starEach_cons hs.1 as X.env) (plain_star hs.2 X.env pos)))
  obtain ⟨k1, k2, k3, a, b, c, xs, ys, zs, ex, hqx, hqy, hqz, q⟩ := q1
  subst ex
  obtain ⟨u1, u2, u3, rfl, w1, w2, w3⟩ := vals3D r1
  cases w1
  cases w2
  cases w3
  obtain ⟨its, rv, p1, la⟩ := Sk.inv I1 hqx
  obtain ⟨its2, rv2, p2, lb⟩ := Sk.inv I1 hqy
  obtain ⟨its3, rv3, p3, lc⟩ := Sk.inv I1 hqz
  refine zip_begins3 (Sk.begins a its.toArray k1) (Sk.begins b its2.toArray k2) (Sk.begins c its3.toArray k3) p1 p2 p3 fun h' hz hTI hTO h1 h2 h3 hsz hk => ?_
  have I2 : Inv X pins σ H1 { s1 with heap := h' } := I1.kept (t' := s1.toks) hk
  have T := turn_z3 (P := X.prog) (w := X.w) (K := X.K) (elts := elts) (kk := kk) (tpos := tpos) (k1 := k1) (k2 := k2) (k3 := k3) (a := a) (b := b) (c := c) (zip_sep3 (N := s1.heap.objs.size) (fp1 := [a]) (fp2 := [b]) (fp3 := [c]) (fun c hc => by rw [List.mem_singleton.mp hc]; exact la) (fun c hc => by rw [List.mem_singleton.mp hc]; exact lb) (fun d hc => by rw [List.mem_singleton.mp hc]; exact lc))
      (Nat.ne_of_lt la) (Nat.ne_of_lt (Nat.lt_succ_of_lt lb)) (Nat.ne_of_lt (Nat.lt_succ_of_lt (Nat.lt_succ_of_lt lc)))
  have tn0 : IsZip h' (s1.heap.objs.size + 5) (s1.heap.objs.size + 3) (s1.heap.objs.size + 4) .none ∧ IsTupOf3 h' (s1.heap.objs.size + 3) (.ref s1.heap.objs.size) (.ref (s1.heap.objs.size + 1)) (.ref (s1.heap.objs.size + 2)) ∧ (∃ x y v, IsTupOf3 h' (s1.heap.objs.size + 4) x y v) ∧ k1.iter h' s1.heap.objs.size a 0 ∧ k2.iter h' (s1.heap.objs.size + 1) b 0 ∧ k3.iter h' (s1.heap.objs.size + 2) c 0 :=
    ⟨hz, hTI, ⟨_, _, _, hTO⟩, Sk.new h1, Sk.new h2, Sk.new h3⟩
  have hle : ∀ c ∈ [s1.heap.objs.size + 5, s1.heap.objs.size + 3, s1.heap.objs.size + 4, s1.heap.objs.size, s1.heap.objs.size + 1, s1.heap.objs.size + 2], s1.heap.objs.size ≤ c := fun c hcm => by
    simp only [List.mem_cons, List.not_mem_nil, or_false] at hcm
    omega
  have fpo : ∀ c ∈ [s1.heap.objs.size + 5, s1.heap.objs.size + 3, s1.heap.objs.size + 4, s1.heap.objs.size, s1.heap.objs.size + 1, s1.heap.objs.size + 2], FpOk X pins H1 c := fun c hcm => I1.fpOk (hle c hcm) (I1.hok.fresh (hle c hcm))
  have hob : ∃ ob : Addr → Obj, ∀ c ∈ [s1.heap.objs.size + 5, s1.heap.objs.size + 3, s1.heap.objs.size + 4, s1.heap.objs.size, s1.heap.objs.size + 1, s1.heap.objs.size + 2], h'.get? c = some (ob c) := by
    refine ⟨fun c => (h'.get? c).getD { cls := .none, data := .fields #[] }, fun c hcm => ?_⟩
    obtain ⟨o, ho, _⟩ := T.obj 0 h' tn0 c hcm
    show h'.get? c = some ((h'.get? c).getD _)
    rw [ho]
    rfl
  obtain ⟨ob, hob⟩ := hob
  have sz : ∀ c ∈ [s1.heap.objs.size + 5, s1.heap.objs.size + 3, s1.heap.objs.size + 4, s1.heap.objs.size, s1.heap.objs.size + 1, s1.heap.objs.size + 2], X.s_0.heap.objs.size ≤ c := fun c hcm => by
    rcases (fpo c hcm).2.2.2.1 with z | z
    · rw [hex] at z; cases z
    · exact z
  exact ⟨.ref (s1.heap.objs.size + 5), _, Inv.trackE I2 (fun c hcm => ⟨fpo c hcm, sz c hcm, hob c hcm⟩), rfl, q _ _ _ h' ob ⟨T, tn0, hob, fun c hcm => ⟨(fpo c hcm).2.2.1, sz c hcm⟩⟩ fun c hcm => (fpo c hcm).1⟩
end
/-- over a zip that the name i holds -/
def wiH (X : Cx) (tgE : Expr) (cl : Cls) (W : XK) (i : Nat) (ds : List PyData) : TI := fun σ H Rk => ∃ it fp tn J h0 ob R0 H0 G ρ R, σ[i]? = some (some (.ref it)) ∧ HeldZ X tgE J it fp tn h0 ob ∧ (∀ b ∈ fp, H b = some (extO ob b)) ∧
  WalkD X.F R H0 G J ds ∧ wiX X.F cl W (.e .bot) (fun ρ => .ok (ds, ρ)) R0 H0 G ρ R σ (dropH H fp) Rk
theorem pi_held {X : Cx} {tgE : Expr} {cl : Cls} {W : XK} {i : Nat} {ds : List PyData} {y : Str} {py : Pos} (hy : PE X (.Name y py) (tVar i)) : PI X tgE (.Name y py) (wiH X tgE cl W i ds) := by
  refine ⟨fun pins s σ H Rk I ⟨it, fp, tn, J, h0, ob, R0, H0, G, ρ, R, e, hz, he, wk, S, k⟩ => ?_⟩
  refine thn (hy.run pins s σ H (fun v H' => v = .ref it ∧ H' = H) I ⟨_, e, rfl, rfl⟩) fun u s1 ⟨v, H', I', r, e1, e2⟩ => ?_
  subst e1 e2
  cases r
  have tn0 : tn 0 s1.heap := hz.t.keep 0 h0 s1.heap hz.z fun b hb o q => by
    rw [hz.o b hb] at q
    cases q
    exact (I'.hok b _ (he b hb)).1
  refine hz.t.self X.A 0 s1 _ _ tn0 ⟨it, fp, tn, J, _, rfl, Inv.dropE I' he, hz.t, tn0, fun b hb => ?_, ?_⟩
  · refine ⟨by unfold dropH; rw [if_pos hb], fun z => ?_, (hz.f b hb).1, .inr (hz.f b hb).2, fun x c q z => ?_, fun p hp z => ?_⟩
    · have q := I'.free
      rw [← z, he b hb] at q
      cases q
    · have q2 := I'.freeC x c q
      rw [z, he b hb] at q2
      cases q2
    · have q2 := (I'.pin p hp).2.1
      rw [z, he b hb] at q2
      cases q2
  · have k : ∀ J H' R' H0' G', Stt X.F R0 H0' G' ρ σ R' H' → Le R R' → WalkD X.F R' H0' G' J ds → Unh X.F R0 H0 G H0' G' none ρ σ R' → (none = none → H0' = H0 ∧ G' = G) → Rk J H' := k
    exact k J _ R H0 G S (Le.refl _) wk (fun ρ2 R2 H2 S2 _ => S2) fun _ => ⟨rfl, rfl⟩
theorem Stt.setNoV {K : Frg} {R0 H0 R H : Hp} {G : List Addr} {ρ : DEnv} {σ : L2.St} (S : Stt K R0 H0 G ρ σ R H) {i : Nat} {x : Option V} : Stt K R0 H0 G (ρ.set i .no) (σ.set i x) R H := by
  refine ⟨S.sub, S.old, S.new, S.keep, S.g0, S.gH, by rw [List.length_set, List.length_set]; exact S.len, fun j s e => ?_, fun j k s s' b e e' o o' x x' => ?_⟩
  · rcases get_set e with ⟨rfl, rfl⟩ | ⟨n, e⟩
    · trivial
    · rw [set_ne n]
      exact S.sl j s e
  · rcases get_set e with ⟨rfl, rfl⟩ | ⟨n, e⟩
    · cases o
    · rcases get_set e' with ⟨rfl, rfl⟩ | ⟨n', e'⟩
      · cases o'
      · rw [set_ne n] at x
        rw [set_ne n'] at x'
        exact S.ap j k s s' b e e' o o' x x'
/-! ### the two statements -/
def coreZ (GT : List (Str × PyData)) (PhU : Nat → Fun) (RF : Refs) (KP : Nat → List Nat → List Nat) (i : Nat) (a b c : E) (own : List Nat) (tg : Tg) (elt : E) : DEnv → OV := fun ρ =>
  (evi GT PhU RF KP (.zip3 a b c) ρ).bind fun x => if i < x.2.length then (lcF own tg (.e .bot) (fun ρ => .ok (x.1, ρ)) (evq GT PhU RF KP none) (ev GT PhU RF KP elt) (x.2.set i .no)).bind fun y => Out.ofOpt (b1X .sum y.1) y.2 else .bad
def runZ (GT : List (Str × PyData)) (PhU : Nat → Fun) (RF : Refs) (KP : Nat → List Nat → List Nat) (pn nn i : Nat) (a b c : E) (own : List Nat) (tg : Tg) (elt : E) : Fun := fun ds =>
  if ds.length = pn then (match coreZ GT PhU RF KP i a b c own tg elt (ds.map Slot.val ++ List.replicate (nn - pn) .no) with
    | .ok x => .ok (x.1, .none)
    | .exc c d => .exc c d
    | .bad => .bad) else .bad
def chkZ1 (GmU : Env2) (p : Pl) (i : Nat) (a b c : E) : Expr → Expr → Bool
  | .Name y _, .Call (.Name z _) [x1, x2, x3] [] _ => stOk p i y && bnOk p z "zip" && notStar x1 && notStar x2 && notStar x3 && nb a && nb b && nb c && chkE GmU p a x1 && chkE GmU p b x2 && chkE GmU p c x3
  | _, _ => false
def chkZ2 (GmU : Env2) (p : Pl) (i : Nat) (own : List Nat) (tg : Tg) (elt : E) : Expr → Bool
  | .Call (.Name su _) [.ListComp el [⟨.Tuple es kt tp, .Name y _, ifs, kk⟩] scope _] [] _ => bnOk p su "sum" && nmOk p i y && decide (kk = 0) && blkC p.N p.sc scope (ownP p own) && decide ((ownP p own).map (·.2) = own) && tg.ix.all (fun i => decide (i ∈ own)) && nb elt &&
      tgOk (inner p scope) tg (.Tuple es kt tp) && chkQ GmU (inner p scope) none ifs && chkE GmU (inner p scope) elt el
  | _ => false
def chkZ (GmU : Env2) (p : Pl) (i : Nat) (a b c : E) (own : List Nat) (tg : Tg) (elt : E) : List Stmt → Bool
  | [.Assign [y] v _, .Return (some e) _] => chkZ1 GmU p i a b c y v && chkZ2 GmU p i own tg elt e
  | _ => false
def tZ (K : Frg) (cl : Cls) (W : XK) (f : DEnv → OV) : TS := fun D σ H => ∃ R0 H0 G ρ R, Stt K R0 H0 G ρ σ R H ∧ Ok2 K cl W R0 H0 G (f ρ) fun d _ => ∀ v R' H', Aft R0 H0 G R' H' → Rp K R' v d → D.rt v H'
section
variable {GmU : Env2} {rzs : List Str} {cl : Cls} {k : Nat} {X : Cx} {W : XK} {p : Pl} {i : Nat} {a b c elt : E} {own : List Nat} {tg : Tg}
theorem snd_map : ∀ own : List Nat, (own.map fun j => (("" : Str), j)).map (·.2) = own
  | [] => rfl
  | j :: r => by rw [List.map_cons, List.map_cons, snd_map r]
theorem sum_int {d z : PyData} (h : b1X .sum d = some z) : ∃ n, z = .int n := by
  cases d <;> first | (cases h; done) | skip
  rename_i l
  have h : (sumI l).map PyData.int = some z := h
  obtain ⟨n, _, rfl⟩ := Option.map_eq_some_iff.mp h
  exact ⟨n, rfl⟩
theorem pe_Z2 (C : Cs GmU rzs cl k X W p) {e : Expr} (h : chkZ2 GmU p i own tg elt e = true) : ∃ te : Expr, (∃ es kt tp, te = .Tuple es kt tp) ∧ (∀ j ∈ tg.ix, j ∈ own) ∧ isBor elt = none ∧
    PE X e (fun σ H Q => ∃ ds, tLc (wiH X te cl W i ds) (gD X.F tg) (tT X.F cl WF (evq GmU.GT GmU.PhU GmU.RF GmU.KP none)) (tR X.F cl WF elt (evGmU GmU elt)) own σ H fun v H1 => rc1 X.F (b1X .sum) [v] H1 Q) := by
  unfold chkZ2 at h
  split at h
  · rename_i su sp el es kt tp y py ifs kk scope lp cp
    obtain ⟨h, h10⟩ := and2 h
    obtain ⟨h, h9⟩ := and2 h
    obtain ⟨h, h8⟩ := and2 h
    obtain ⟨h, h7⟩ := and2 h
    obtain ⟨h, h6⟩ := and2 h
    obtain ⟨h, h5⟩ := and2 h
    obtain ⟨h, h4⟩ := and2 h
    obtain ⟨h, h3⟩ := and2 h
    obtain ⟨h1, h2⟩ := and2 h
    have e0 := of_decide_eq_true h3
    subst e0
    have eo := of_decide_eq_true h5
    have hix : ∀ j ∈ tg.ix, j ∈ own := fun j m => of_decide_eq_true (List.all_eq_true.mp h6 j m)
    have ok : BlkOk X.N X.env.scope scope (ownP p own) := by
      rw [C.ck.hN, C.ck.hsc]
      exact blkOk_by h4
    obtain ⟨rfl, hg, hm⟩ := C.ck.bn h1 (by decide)
    refine ⟨.Tuple es kt tp, ⟨_, _, _, rfl⟩, hix, nbE h7, ⟨fun pins s σ H Q I ⟨ds, q⟩ => ?_⟩⟩
    have pl := pe_lc (X := X) (pos := lp) (g := gD X.F tg) (tt := tT X.F cl WF (evq GmU.GT GmU.PhU GmU.RF GmU.KP none)) (te := tR X.F cl WF elt (evGmU GmU elt)) C.ck.calm C.ck.nd (pi_held (tgE := .Tuple es kt tp) (cl := cl) (W := W) (ds := ds) (C.ck.var (pos := py) h2)) ok (fun s H a cs fp => tgOk_pg (C.ck.blk s H scope a cs fp) h8)
      (fun s H a cs fp => snd_q none (C.ck.blk s H scope a cs fp) ifs h9) (fun s H a cs fp => pe_frz ((snd_all elt).1 (C.ck.blk s H scope a cs fp) el h10)) (fun _ => rfl)
    rw [eo] at pl
    have pa := pa_cons pl pa_nil (starEach_cons rfl [] X.env)
    exact (pe_callB (cr_sumD C.ck.calm) hg hm PyProof.Rows.boot_sum pa (by decide) (by decide) rfl rfl).run pins s σ H Q I q
  · cases h
theorem snd_Z (C : Cs GmU rzs cl k X W p) {st : List Stmt} (h : chkZ GmU p i a b c own tg elt st = true) : PSs X st (tZ X.F cl W (coreZ GmU.GT GmU.PhU GmU.RF GmU.KP i a b c own tg elt)) := by
  unfold chkZ at h
  split at h
  · rename_i y v ap e rp
    have hh := and2 h
    clear h
    obtain ⟨h, h2⟩ := hh
    obtain ⟨te, ⟨es, kt, tp, rfl⟩, hix, hne, p2⟩ := pe_Z2 C h2
    unfold chkZ1 at h
    split at h
    · rename_i y py z zp x1 x2 x3 zq
      obtain ⟨h, h11⟩ := and2 h
      obtain ⟨h, h10⟩ := and2 h
      obtain ⟨h, h9⟩ := and2 h
      obtain ⟨h, h8⟩ := and2 h
      obtain ⟨h, h7⟩ := and2 h
      obtain ⟨h, h6⟩ := and2 h
      obtain ⟨h, h5⟩ := and2 h
      obtain ⟨h, h4⟩ := and2 h
      obtain ⟨h, h3⟩ := and2 h
      obtain ⟨h0, h1⟩ := and2 h
      obtain ⟨s1, s2, s3⟩ := C.ck.st h0
      obtain ⟨rfl, hg, hm⟩ := C.ck.bn h1 (by decide)
      have hs : [x1, x2, x3].all notStar = true := by simp [h3, h4, h5]
      have pz := pe_zipH (X := X) (p := zp) (pos := zq) (elts := es) (kk := kt) (tpos := tp) C.hex hg hm (pa_consD h3 ((snd_all a).1 C.ck x1 h9) (pa_consD h4 ((snd_all b).1 C.ck x2 h10) (pa_consD h5 ((snd_all c).1 C.ck x3 h11) pa_nilD))) hs
      have ps := ps_set (pos := ap) (pos' := py) C.ck.nd s1 s2 pz (sw_no rfl _ _ _) s3
      refine pss_imp (t' := tZ X.F cl W (coreZ GmU.GT GmU.PhU GmU.RF GmU.KP i a b c own tg elt)) (pss_cons ps (pss_one (ps_ret (pos := rp) p2))) ?_
      rintro D σ H ⟨R0, H0, G, ρ, R, S, h⟩
      have h : Ok2 X.F cl W R0 H0 G (((evGmU GmU a ρ).bind fun x => (evGmU GmU b x.2).bind fun y => (evGmU GmU c y.2).bind fun z => Out.ofOpt ((seqD x.1).bind fun l => (seqD y.1).bind fun m => (seqD z.1).map fun n => zip3D l m n) z.2).bind fun x => if i < x.2.length then (lcF own tg (.e .bot) (fun ρ => .ok (x.1, ρ)) (evq GmU.GT GmU.PhU GmU.RF GmU.KP none) (ev GmU.GT GmU.PhU GmU.RF GmU.KP elt) (x.2.set i .no)).bind fun y => Out.ofOpt (b1X .sum y.1) y.2 else .bad) fun d _ => ∀ v R' H', Aft R0 H0 G R' H' → Rp X.F R' v d → D.rt v H' := h
      refine ⟨R0, H0, G, ρ, R, S, resA_iff.mpr (ok2_bind.mpr ((ok2_bind.mp (ok2_bind.mp h)).imp fun x ρ1 h => ?_))⟩
      refine ok2_bind.mpr (ok2_bind.mpr ((ok2_bind.mp h).imp fun y ρ2 h => ?_))
      refine ok2_bind.mpr (ok2_bind.mpr ((ok2_bind.mp h).imp fun z ρ3 h => ?_))
      obtain ⟨ds, hd, h⟩ := ok2_opt.mp h
      obtain ⟨d1, e1, hd⟩ := Option.bind_eq_some_iff.mp hd
      obtain ⟨d2, e2, hd⟩ := Option.bind_eq_some_iff.mp hd
      obtain ⟨d3, e3, rfl⟩ := Option.map_eq_some_iff.mp hd
      refine fun vs R1 H1 S1 l1 o1 => ?_
      cases o1 with
      | cons o1 t =>
        cases t with
        | cons o2 t =>
          cases t with
          | cons o3 t =>
            cases t
            obtain ⟨k1, A, xs, rfl, sr⟩ := src_of (o1.rp (nbE h6)) e1
            obtain ⟨k2, B, ys, rfl, sr2⟩ := src_of (o2.rp (nbE h7)) e2
            obtain ⟨k3, C3, zs, rfl, sr3⟩ := src_of (o3.rp (nbE h8)) e3
            refine ⟨k1, k2, k3, A, B, C3, xs, ys, zs, rfl, sr.has R1 H1 (Le.refl _) S1.sub, sr2.has R1 H1 (Le.refl _) S1.sub, sr3.has R1 H1 (Le.refl _) S1.sub, fun it fp tn h0 ob hz hn => ?_⟩
            by_cases li3 : i < ρ3.length
            rotate_left
            · have h : Ok2 X.F cl W R0 H0 G (if i < ρ3.length then _ else Out.bad) _ := h
              rw [if_neg li3] at h
              exact h.elim
            have h : Ok2 X.F cl W R0 H0 G (if i < ρ3.length then (lcF own tg (.e .bot) (fun ρ => .ok (zip3D d1 d2 d3, ρ)) (evq GmU.GT GmU.PhU GmU.RF GmU.KP none) (ev GmU.GT GmU.PhU GmU.RF GmU.KP elt) (ρ3.set i .no)).bind fun y => Out.ofOpt (b1X .sum y.1) y.2 else .bad) _ := h
            rw [if_pos li3] at h
            have li : i < σ.length := by rw [← S1.len]; exact li3
            have S2 : Stt X.F R0 H0 G (ρ3.set i .no) (σ.set i (some (.ref it))) R1 H1 := S1.setNoV
            refine ⟨zip3D d1 d2 d3, it, fp, tn, _, h0, ob, R0, H0, G, ρ3.set i .no, R1, set_at li, hz, fun b hb => by unfold extH; rw [if_pos hb], walkD_z3 sr sr2 sr3, ?_⟩
            rw [drop_ext hn]
            have key := tLcX (X := X) (cm := cl) (W := W) (own := own.map fun j => (("" : Str), j)) (tg := tg) (it := .e .bot) (fi := fun ρ => .ok (zip3D d1 d2 d3, ρ)) (ft := evq GmU.GT GmU.PhU GmU.RF GmU.KP none) (fe := evGmU GmU elt) (ee := elt) (by rw [snd_map]; exact hix) hne (σ.set i (some (.ref it))) H1 (fun v H1 => rc1 X.F (b1X .sum) [v] H1 D.rt) S2 (resN_iff.mpr ?_)
            · have em := snd_map own
              rw [em] at key
              exact key
            have em := snd_map own
            rw [em]
            refine (ok2_bind.mp h).imp fun d ρ4 h v R2 H2 S3 l3 o => ?_
            obtain ⟨n, hn2, h⟩ := ok2_opt.mp h
            have o : NewP false X.F ρ4 (σ.set i (some (.ref it))) R2 H0 H2 v d := o
            obtain ⟨n, rfl⟩ := sum_int hn2
            have wp : Wp X.F R2 H2 v d := by
              cases o with
              | rp h _ => exact .rp h
              | lst _ hp r => exact .own hp r
              | tup _ _ _ => cases hn2
              | dic _ _ _ => cases hn2
              | odd _ _ _ _ => cases hn2
            refine ⟨v, rfl, R2, d, .int n, S3.sub, wp, hn2, fun u H3 m => ?_⟩
            obtain ⟨R3, S4, l4, nw⟩ := m.stt S3
            cases nw with
            | rp q _ => exact h u R3 H3 S4.aft q
    · cases h
  · cases h
end
section
variable {P : Program} {w : World} {K : PySem.W.Frag} {mg : Str → Option Value} {base : Heap} {k : Nat} {f : Addr} {name qual : Str} {params : Arguments} {body : List Stmt} {scope : Scope} {dV kV doc pm cdv ct oc : Value} {an od : Option Addr} {osl : Array (Option Value)} {N ps : List Str}
theorem def_okZ {GmU : Env2} {rzs : List Str} {cl : Cls} {pn nn i : Nat} {a b c elt : E} {own : List Nat} {tg : Tg} (lk : K.lookup f = some ⟨oc, od, .func (PySem.W.fnOf name qual params body scope dV kV doc pm an cdv ct), osl⟩) (hcd : PySem.W.codeIn K cdv qual = true) (S : FnScope N ps scope)
    (hpn : pn = ps.length) (hnn : nn = N.length) (hle : ps.length ≤ N.length) (chk : chkZ GmU ⟨N, scope, fun _ => true⟩ i a b c own tg elt body = true)
    (F : Facts P w K mg base cl k GmU)
    (rz : ∀ (A : Around) (outer : List Env) (s : Shared) (H : Hp) (E : XK), Room k (A.deeper (envOfC qual scope s.heap.objs.size f cdv)) → RzOk rzs cl (cxG P w K mg base N qual scope f cdv A outer s H E) E) :
    FnG P w K mg base (k + 1) f (PySem.W.fnOf name qual params body scope dV kV doc pm an cdv ct) ps (spD ⟨K, w, clOf mg⟩ cl none (runZ GmU.GT GmU.PhU GmU.RF GmU.KP pn nn i a b c own tg elt)) := by
  have lens : ∀ vs H Q E, spD ⟨K, w, clOf mg⟩ cl none (runZ GmU.GT GmU.PhU GmU.RF GmU.KP pn nn i a b c own tg elt) vs H Q E → vs.length = ps.length := fun vs H Q E ⟨R, ds, G, sb, ar, h⟩ => by
    unfold runZ at h
    by_cases hd : ds.length = pn
    · rw [ar.2.len, hd, hpn]
    · simp only [if_neg hd] at h
  refine fn_ofG lk hcd S lens fun A outer s H vs Q E room gd want => ⟨tZ ⟨K, w, clOf mg⟩ cl E (coreZ GmU.GT GmU.PhU GmU.RF GmU.KP i a b c own tg elt), ?_, ?_⟩
  · have C : Cs GmU rzs cl k (cxG P w K mg base N qual scope f cdv A outer s H E) E ⟨N, scope, fun _ => true⟩ :=
      { ck := F.ck S gd room,
        fk := S.kind, hs := rfl, hf := rfl, hex := rfl, po := passes_of rfl, rz := rz A outer s H E room }
    exact snd_Z C chk
  · obtain ⟨R, ds, G, sb, ⟨rfl, ar⟩, h⟩ := want
    have hv := lens vs H Q E ⟨R, ds, [], sb, ⟨rfl, ar⟩, h⟩
    unfold runZ at h
    by_cases hd : ds.length = pn
    · simp only [if_pos hd] at h
      have enn : nn - pn = N.length - ds.length := by rw [hnn, ← hd]
      rw [enn] at h
      have St0 := stt_val (N := N) sb ar (by rw [hv]; exact hle)
      refine ⟨R, H, [], _, R, St0, ?_⟩
      have e9 : List.replicate (N.length - ds.length) Slot.no = noD (N.length - ds.length) := rfl
      rw [e9] at h
      cases hx : coreZ GmU.GT GmU.PhU GmU.RF GmU.KP i a b c own tg elt (ds.map Slot.val ++ noD (N.length - ds.length)) with
      | bad => rw [hx] at h; exact h.elim
      | exc c d => rw [hx] at h; exact h
      | ok x =>
        rw [hx] at h
        exact fun v R' H' A rv => h v R' H' A rv (fun a z => nomatch z)
    · simp only [if_neg hd] at h
end
end DL
set_option Elab.async false
set_option linter.all false
set_option maxRecDepth 100000
set_option maxHeartbeats 4000000
/-! DL, part rz: raise. -/
namespace DL
open PySem PySem.Spec PyProof.Rows L2
section
variable {X : Cx} {C D fI : Addr} {x : Str}
/-- raise C(e) -/
theorem rz_ok {rzs : List Str} {cl : Cls} {W : XK} {k : Nat} (O : OffD X.prog X.K X.mg D fI) (T : ∀ c ∈ rzs, OffC X.K X.mg D fI c (cl c)) (hr : Room k X.A) (hc : X.calm = true) (tk : Takes X fun c d _ H => W c d H) : RzOk rzs cl X W := by
  intro c hcm e f a q pos pos' hg ns hn he
  refine ps_imp (ps_raise hc tk (pmk_off (p := q) (pos := pos') O (T c hcm) hr (pa_consD ns he pa_nilD) hg ns)) fun Dd σ H ⟨R0, H0, G, ρ, R, S, h⟩ => ?_
  show tA X.F cl W _ _ σ H _
  refine ⟨R0, H0, G, ρ, R, S, resA_iff.mpr (ok2_bind.mpr ((flOk_of h).imp fun d ρ1 h vs R1 H1 S1 l1 o1 => ?_))⟩
  cases o1 with
  | @cons _ _ v _ _ _ o1 t =>
    cases t
    refine ⟨_, rfl, fun dx hdx => ?_⟩
    have S2 := S1.alloc (u := .xd [(("value" : Str), v)]) hdx
    exact h _ R1 _ dx S2.aft (S1.h0 hdx) (S1.r0 hdx) upd_same (o1.rp hn)
end
end DL
set_option Elab.async false
set_option linter.all false
set_option maxRecDepth 100000
set_option maxHeartbeats 2000000
/-! DL, part ent: the law's call from the outside, a def's promise where no repr is under way. -/
namespace DL
open PySem PySem.Spec PyProof.Rows L2
/-- what one may track ahead of the law's call: the script alone -/
structure Told (P : Program) (w : World) (K : PySem.W.Frag) (hp : Heap) (a : Addr) (ns : List Int) (H : Hp) : Prop where
  only : Only H
  seq : SqL K H a (ns.map V.int)
  ok : HOk P w H hp
  one : ∀ b, H b ≠ none → b = a
  out : H a ≠ none → K.lookup a = none
section
variable {P : Program} {w : World} {K : PySem.W.Frag} {hp : Heap} {a : Addr} {vs : List Value} {ns : List Int}
theorem told_ex (inK : K.In hp) (obj : hp.get? a = some { cls := .type "list", data := .seq vs.toArray }) (hints : IntsAre vs ns) (len : ns.length ≤ sizeLine) : ∃ H, Told P w K hp a ns H := by
  have rel := vals_ints hints
  cases e : K.lookup a with
  | some o =>
    have q := inK a o e
    rw [obj] at q
    cases q
    exact ⟨fun _ => none, fun _ => .inl rfl, .inr ⟨_, vs.toArray, _, e, rfl, rfl, rfl, by rw [List.size_toArray, hints.length]; exact len, by simpa using rel⟩, fun b u z => (by cases z), fun b z => (z rfl).elim, fun z => (z rfl).elim⟩
  | none =>
    refine ⟨upd (fun _ => none) a (.frz { cls := .type "list", data := .seq vs.toArray } (.lst (ns.map V.int))), fun b => ?_, .inl (.inr ⟨_, upd_same⟩), fun b u z => ?_, fun b z => ?_, fun _ => e⟩
    · by_cases h : b = a
      · rw [h]; exact .inr ⟨_, _, upd_same⟩
      · rw [upd_ne h]; exact .inl rfl
    · by_cases h : b = a
      · rw [h, upd_same] at z
        cases z
        rw [h]
        exact ⟨obj, by rw [List.length_map]; exact len, vs, _, rel, obj⟩
      · rw [upd_ne h] at z; cases z
    · by_cases h : b = a
      · exact h
      · rw [upd_ne h] at z; exact (z rfl).elim
theorem hid_of {H : Hp} (T : Told P w K hp a ns H) (obj : hp.get? a = some { cls := .type "list", data := .seq vs.toArray }) {b : Addr} {o : Obj} (e : hp.get? b = some o) (n : ∀ xs k, o.data ≠ .seq xs k) : (hidT hp H).get? b = some o := by
  refine hidT_get e ?_
  cases q : H b with
  | none => rfl
  | some u =>
    have z := T.one b (by rw [q]; simp)
    rw [z, obj] at e
    cases e
    exact (n _ _ rfl).elim
theorem hid_ns {H : Hp} (T : Told P w K hp a ns H) (obj : hp.get? a = some { cls := .type "list", data := .seq vs.toArray }) {b : Addr} {m : Str → Option Value} (n : hp.Ns b m) : (hidT hp H).Ns b m := by
  obtain ⟨o, es, ep, e, d, r⟩ := n
  exact ⟨o, es, ep, hid_of T obj e (fun xs k z => by rw [d] at z; cases z), d, r⟩
end
/-- the law's def keeps its promise: so it tells True -/
theorem lcallG {P : Program} {w : World} {K : PySem.W.Frag} {mg mb : Str → Option Value} {k : Nat} {fa a : Addr} {fd : FuncData} {x : Str} {sp : Sp} {s1 : Shared} {vs : List Value} {ns : List Int}
    (inK : K.In s1.heap) (nsG : s1.heap.Ns mainGlobals mg) (nsB : s1.heap.Ns builtinsNs mb) (boot : ∀ y : Str, y ≠ "__name__" → mb y = bootBuiltins y) (lim : s1.heap.NoLimit) (nog : s1.gens = #[])
    (obj : s1.heap.get? a = some { cls := .type "list", data := .seq vs.toArray }) (hints : IntsAre vs ns) (len : ns.length ≤ sizeLine) (room : Room k callerA)
    (F : ∀ base : Heap, K.In base → base.Ns mainGlobals mg → (∀ b o, s1.heap.get? b = some o → (∀ xs n, o.data ≠ .seq xs n) → base.get? b = some o) → FnG P w K mg base k fa fd [x] sp)
    (bind : ∀ (s : Shared) (u : Value), BindsTo s fd ⟨[u], []⟩ [(x, u)])
    (want : ∀ H : Hp, SqL K H a (ns.map V.int) → Only H → sp [.ref a] H (fun v _ => v = .bl true) fun _ _ _ => False) :
    codeAny (model P w) callerA (.call (.ref fa) ⟨[.ref a], []⟩) (fun r s2 => r = .ok (.ret (.bool true)) ∧ OldK s1.heap s2.heap ∧ s2.os = s1.os ∧ AllBare s2.gens) s1 := by
  obtain ⟨H, T⟩ := told_ex (P := P) (w := w) inK obj hints len
  have inB : K.In (hidT s1.heap H) := fun b o e => by
    refine hidT_get (inK b o e) ?_
    cases q : H b with
    | none => rfl
    | some u =>
      have z := T.one b (by rw [q]; simp)
      subst z
      rw [T.out (by rw [q]; simp)] at e
      cases e
  obtain ⟨mc, c1, c2⟩ := lim
  have env : Env0 P w K mg (hidT s1.heap H) callerA [] s1 H :=
    { frames := rfl, mod := ⟨inB, hid_ns T obj nsG, ⟨mb, hid_ns T obj nsB, boot⟩, ⟨mc, hid_ns T obj c1, c2⟩⟩, bs := fun b o e => of_hidT e, bsz := Nat.le_of_eq (hidT_size _ _), funs := trivial, frf := (fun b z => nomatch z), hok := T.ok, bare := .of_eq nog }
  have FF := F (hidT s1.heap H) inB (hid_ns T obj nsG) fun b o e n => hid_of T obj e n
  refine codeAny_mono (FF.run callerA [] s1 H ⟨[.ref a], []⟩ [.ref a] [.ref a] _ _ room rfl env (bind s1 (.ref a)) (.cons rfl .nil) (want H T.seq T.only)) fun r s2 z => ?_
  cases r with
  | error e =>
    obtain ⟨_, _, _, _, _, _, _, _, _, _, _, _, z⟩ := z
    exact z.elim
  | ok fl =>
    cases fl with
    | next => cases z
    | brk => cases z
    | cont => cases z
    | ret u =>
      obtain ⟨v, H2, e1, e2, un, ok2, rv, ev⟩ := z
      have ev : v = .bl true := ev
      subst ev
      cases rv
      refine ⟨rfl, OldK.of_keep fun b o e => ?_, e1, e2⟩
      rcases T.only b with q | ⟨ob, xs, q⟩
      · exact un.keep b o e q (fun z => nomatch z) (fun z => nomatch z)
      · have g1 : s1.heap.get? b = some ob := (T.ok b _ q).1
        have g2 : s2.heap.get? b = some ob := (ok2 b _ (un.frzs b ob _ q)).1
        rw [g1] at e
        cases e
        exact g2
end DL
set_option Elab.async false
set_option linter.all false
set_option maxRecDepth 100000
set_option maxHeartbeats 2000000
/-! DL, part hk: what the head's run tells: the defs, the own errors. -/
namespace DL
open PySem PySem.Spec PyProof.Rows L2
/-- the addresses of the part that is looked at -/
def asK (g : Addr → Option Obj) : List Addr :=
  let r : Addr → List Addr := fun a => match g a with
    | some o => He.refsD o
    | none => []
  let isC : Addr → Bool := fun a => match g a with
    | some ⟨_, _, .cls _, _⟩ => true
    | _ => false
  let l1 := r mainGlobals
  let c2 := (l1.filter isC).flatMap r
  let c3 := c2.flatMap r
  [1, 2, 3] ++ l1 ++ (l1.flatMap r) ++ c3 ++ (c3.flatMap r)
section
variable {K : PySem.W.Frag} {mg : Str → Option Value} {h : Heap}
/-- a class under the base class D -/
def offCb (K : PySem.W.Frag) (D fI : Addr) (x : Str) : Bool := let C := He.ga K x
  (match K.lookup C with
  | some ⟨.type t, dd, .cls cd, sl⟩ => (match cd.mro, sl.toList with
    | .ref C' :: bm, [_, _, _, _, some (.builtin n), _] => t == "type" && C' == C && n == "ValueError.__new__" && !cd.hasDel && cd.hasDict && PySem.HandSPX.refsVE bm && decide (PySem.W.alongIn K "__init__" (((Value.ref C :: bm).dropWhile (· != .ref D)).drop 1) = some (some (.builtin "ValueError.__init__")))
    | _, _ => false)
  | _ => false) &&
  (decide (PySem.W.nsIn K mainGlobals x = some (some (.ref C))) && (decide (PySem.W.findIn K (.ref C) "__setattr__" = some (some (.builtin "object.__setattr__"))) && (decide (PySem.W.findIn K (.ref C) "__getattribute__" = some (some (.builtin "BaseException.__getattribute__"))) &&
  (decide (PySem.W.findIn K (.ref C) "__getattr__" = some none) && (decide (PySem.W.findIn K (.ref C) "value" = some none) && (decide (PySem.W.findIn K (.ref C) "__init__" = some (some (.ref fI))) && (decide (PySem.W.typeIn K (.ref fI) = some (.type "function")) && (PySem.W.keepIn K (.ref C) &&
  (decide (PySem.W.subIn K (.ref C) (.type "BaseException") = some true) && (decide (PySem.W.subIn K (.ref C) (.type "ValueError") = some true) && (decide (PySem.W.typeIn K (.ref C) = some (.type "type")) && (PySem.W.hasDictIn K C && (decide (PySem.W.mroIn K C (.ref D) = some true) && (!(x == ("__debug__" : Str)) &&
  (decide (PySem.W.findIn K (.ref C) "__class__" = some (some (.builtin "object.__class__"))) && (decide (PySem.W.specialIn K (.builtin "object.__class__") "__get__" = some (some (.builtin "getset_descriptor.__get__"))) && (decide (PySem.W.takesIn K (.builtin "object.__class__") = some true) &&
  (decide (PySem.W.mroIn K C (.type "object") = some true) && decide (PySem.W.kitOne K (.type "NoneType") (.ref C) = some false)))))))))))))))))))
theorem clOf_ga (X : K.In h) (G : h.Ns mainGlobals mg) {x : Str} (e : PySem.W.nsIn K mainGlobals x = some (some (.ref (He.ga K x)))) : mg x = some (.ref (He.ga K x)) ∧ clOf mg x = He.ga K x := by
  have q := PySem.W.mg_of X G e
  exact ⟨q, by unfold clOf; rw [q]⟩
theorem offC_ok (X : K.In h) (G : h.Ns mainGlobals mg) {D fI : Addr} {x : Str} (c : offCb K D fI x = true) : OffC K mg D fI x (He.ga K x) ∧ ExcC K (He.ga K x) ∧ clOf mg x = He.ga K x ∧ PySem.W.kitOne K (.type "NoneType") (.ref (He.ga K x)) = some false := by
  unfold offCb at c
  obtain ⟨c0, c⟩ := and2 c
  obtain ⟨c1, c⟩ := and2 c
  obtain ⟨c2, c⟩ := and2 c
  obtain ⟨c3, c⟩ := and2 c
  obtain ⟨c4, c⟩ := and2 c
  obtain ⟨c5, c⟩ := and2 c
  obtain ⟨c6, c⟩ := and2 c
  obtain ⟨c7, c⟩ := and2 c
  obtain ⟨c8, c⟩ := and2 c
  obtain ⟨c9, c⟩ := and2 c
  obtain ⟨c10, c⟩ := and2 c
  obtain ⟨c11, c⟩ := and2 c
  obtain ⟨c12, c⟩ := and2 c
  obtain ⟨c13, c⟩ := and2 c
  obtain ⟨c14, c⟩ := and2 c
  obtain ⟨c15, c⟩ := and2 c
  obtain ⟨c16, c⟩ := and2 c
  obtain ⟨c17, c⟩ := and2 c
  obtain ⟨c18, c19⟩ := and2 c
  obtain ⟨g1, g2⟩ := clOf_ga X G (of_decide_eq_true c1)
  refine ⟨⟨g1, ?_, of_decide_eq_true c2, of_decide_eq_true c3, of_decide_eq_true c4, of_decide_eq_true c5, of_decide_eq_true c6, of_decide_eq_true c7, c8, of_decide_eq_true c9, of_decide_eq_true c10, of_decide_eq_true c11, c12, of_decide_eq_true c13, by simpa using c14⟩,
    ⟨of_decide_eq_true c3, of_decide_eq_true c4, of_decide_eq_true c9, c12, of_decide_eq_true c15, of_decide_eq_true c16, of_decide_eq_true c17, of_decide_eq_true c18⟩, g2, of_decide_eq_true c19⟩
  split at c0
  · rename_i t dd cd sl ho
    split at c0
    · rename_i C' bm k0 k1 k2 k3 n k5 hm hs
      obtain ⟨c0, d7⟩ := and2 c0
      obtain ⟨c0, d6⟩ := and2 c0
      obtain ⟨c0, d5⟩ := and2 c0
      obtain ⟨c0, d4⟩ := and2 c0
      obtain ⟨c0, d3⟩ := and2 c0
      obtain ⟨d1, d2⟩ := and2 c0
      obtain ⟨nm, bs, mro, ns, qn, hd, sn, sub, ab, col, del⟩ := cd
      dsimp only at hm d4 d5
      have e1 := eq_of_beq d1
      have e2 := eq_of_beq d2
      have e3 := eq_of_beq d3
      have e4 : del = false := by simpa using d4
      subst hm e1 e3 e4 d5
      have hsl : sl = #[k0, k1, k2, k3, some (.builtin "ValueError.__new__"), k5] := by
        obtain ⟨l⟩ := sl
        simp only at hs
        rw [hs]
      subst hsl
      rw [e2] at ho
      exact ⟨nm, qn, ns, bs, bm, sn, sub, ab, col, dd, k0, k1, k2, k3, k5, ho, d6, of_decide_eq_true d7⟩
    · cases c0
  · cases c0
end
end DL
set_option Elab.async false
set_option linter.all false
set_option maxRecDepth 100000
set_option maxHeartbeats 2000000
/-! DL, part bp: how plain parameters are bound. -/
namespace DL
open PySem PySem.Spec PyProof.Rows L2
def plainA (as : List Arg) : Arguments := { posonlyargs := [], args := as, vararg := none, kwonlyargs := [], kw_defaults := [], kwarg := none, defaults := [] }
theorem zip_lookup {α : Type} : ∀ {ps : List Str} {us : List α} {x : Str}, ps.length = us.length → x ∈ ps → ((ps.zip us).lookup x).isSome = true
  | [], _, _, _, m => nomatch m
  | p :: ps, u :: us, x, l, m => by
    rw [List.zip_cons_cons, List.lookup_cons]
    cases h : (x == p) with
    | true => rfl
    | false =>
      refine zip_lookup (by simpa using l) ?_
      rcases List.mem_cons.mp m with e | m
      · rw [e] at h; simp at h
      · exact m
theorem zip_map {α : Type} : ∀ {ps : List Str} {us : List α}, ps.Nodup → ps.length = us.length → ps.filterMap (fun n => ((ps.zip us).lookup n).map (n, ·)) = ps.zip us
  | [], [], _, _ => rfl
  | p :: ps, u :: us, nd, l => by
    rw [List.zip_cons_cons, List.filterMap_cons]
    have e1 : (((p, u) :: ps.zip us).lookup p) = some u := by simp [List.lookup_cons]
    rw [e1]
    have ih := zip_map (ps := ps) (us := us) (List.nodup_cons.mp nd).2 (by simpa using l)
    have e2 : ps.filterMap (fun n => (((p, u) :: ps.zip us).lookup n).map (n, ·)) = ps.filterMap (fun n => ((ps.zip us).lookup n).map (n, ·)) := by
      have key : ∀ qs : List Str, (∀ n ∈ qs, n ∈ ps) → qs.filterMap (fun n => (((p, u) :: ps.zip us).lookup n).map (n, ·)) = qs.filterMap (fun n => ((ps.zip us).lookup n).map (n, ·)) := fun qs => by
        induction qs with
        | nil => intro _; rfl
        | cons n qs ih2 =>
          intro hq
          have hn := hq n List.mem_cons_self
          have : (n == p) = false := by
            cases h : (n == p) with
            | false => rfl
            | true => rw [eq_of_beq h] at hn; exact absurd hn (List.nodup_cons.mp nd).1
          rw [List.filterMap_cons, List.filterMap_cons, ih2 fun z hz => hq z (List.mem_cons_of_mem _ hz), List.lookup_cons, this]
      exact key ps fun n h => h
    rw [e2, ih]
    rfl
theorem bind_plain {as : List Arg} {us : List Value} (x qual : Str) (body : List Stmt) (scope : Scope) (kV doc pm : Value) (an : Option Addr) (cdv ct : Value) (nd : (as.map (·.arg)).Nodup) (hl : us.length = (as.map (·.arg)).length) :
    bindArgs (PySem.W.fnOf x qual (plainA as) body scope .none kV doc pm an cdv ct) ⟨us, []⟩ = pure ((as.map (·.arg)).zip us) := by
  unfold bindArgs
  generalize hps : as.map (·.arg) = ps at *
  have h1 : ((ps.take ps.length).filter fun n => ((ps.zip us).lookup n).isNone) = [] := by
    rw [List.take_length, List.filter_eq_nil_iff]
    intro n hn
    have := zip_lookup (us := us) hl.symm hn
    cases h : (ps.zip us).lookup n with
    | none => rw [h] at this; cases this
    | some v => simp
  rw [List.take_length] at h1
  simp [plainA, seqItems?, hps, hl, zip_map nd hl.symm]
  have e0 : ∀ {α : Type} (t : Sem α), (do notAStandIn Value.none; t) = t := fun _ => rfl
  rw [e0]
  refine if_neg ?_
  simp [hps, h1]
end DL
set_option Elab.async false
set_option linter.all false
set_option maxRecDepth 100000
set_option maxHeartbeats 2000000
/-! DL, part tx: a whole text: its defs keep their promises, level by level. -/
namespace DL
open PySem PySem.Spec PyProof.Rows L2
structure Txt where
  P : Program
  gt : List (Str × PyData)
  tab : List (Nat × Def)
  tabZ : List (Nat × (Nat × Nat × E × E × E × List Nat × Tg × E))
  tabN : List (Nat × (Nat × List S × E))
  nms : List (Nat × List Str)
  fnm : Nat → Str
  rf : Refs
  kp : Nat → List Nat → List Nat
  kk : Nat → List Nat → Option (List Str)
  xs : List Str
  base : Str
  rzs : List Str
def Txt.kn (T : Txt) (g : Nat) : Bool := (T.nms.lookup g).isSome && (T.tabN.lookup g).isNone && ((T.tab.lookup g).isSome || (T.tabZ.lookup g).isSome)
def Txt.knN (T : Txt) (g : Nat) : Bool := (T.nms.lookup g).isSome && (T.tabN.lookup g).isSome
def Txt.GmU (T : Txt) (φ : Nat → Fun) : Env2 := { GT := T.gt, PhU := φ, RF := T.rf, KP := T.kp, Kn := T.kn, fnm := T.fnm, KK := T.kk, XC := fun c => decide (c ∈ T.xs), KnN := T.knN }
/-- one level more -/
def Txt.up (T : Txt) (φ : Nat → Fun) (g : Nat) : Fun := match T.tabN.lookup g with
  | some (pn, ss, e) => runN T.gt φ T.rf T.kp 0 pn ((T.nms.lookup g).getD []).length ss e
  | none => (match T.tab.lookup g with
    | some D => runD T.gt φ T.rf T.kp 0 D
    | none => (match T.tabZ.lookup g with
      | some (pn, i, a, b, c, own, tg, elt) => runZ T.gt φ T.rf T.kp pn ((T.nms.lookup g).getD []).length i a b c own tg elt
      | none => fun _ => .bad))
def Txt.Phi (T : Txt) : Nat → Nat → Fun
  | 0 => fun _ _ => .bad
  | n + 1 => T.up (T.Phi n)
/-! ### where a def stands in the text -/
def findS (x : Str) : List Stmt → Option (Arguments × List Stmt × Scope)
  | [] => none
  | .FunctionDef n a b _ _ _ sc _ _ _ :: r => if n = x then some (a, b, sc) else findS x r
  | _ :: r => findS x r
def Txt.find (T : Txt) (x : Str) : Arguments × List Stmt × Scope := (findS x T.P.main.body).getD (plainA [], [], ⟨.function, [], false, false, []⟩)
def Txt.dd (T : Txt) (g : Nat) : He.DefD := let x := T.fnm g; let q := T.find x; ⟨(x, none), x, x, q.1, q.2.1, q.2.2, [], []⟩
def isPlainA : Arguments → Bool
  | ⟨[], _, none, [], [], none, []⟩ => true
  | _ => false
theorem isPlainA_eq {a : Arguments} (h : isPlainA a = true) : a = plainA a.args := by
  unfold isPlainA at h
  split at h
  · rfl
  · cases h
def isFun : ScopeKind → Bool
  | .function => true
  | _ => false
def scopeB (N ps : List Str) (sc : Scope) : Bool := isFun sc.kind && !sc.isCoroutine && !sc.isGenerator && decide N.Nodup && decide (N.take ps.length = ps) && ps.all (fun x => decide (sc.names.lookup x = some .local) || decide (sc.names.lookup x = some .cell)) && sc.names.all (fun y => !decide (y.2 = .free))
theorem scope_ok {N ps : List Str} {sc : Scope} (h : scopeB N ps sc = true) : FnScope N ps sc := by
  unfold scopeB at h
  obtain ⟨h, h7⟩ := and2 h
  obtain ⟨h, h6⟩ := and2 h
  obtain ⟨h, h5⟩ := and2 h
  obtain ⟨h, h4⟩ := and2 h
  obtain ⟨h, h3⟩ := and2 h
  obtain ⟨h1, h2⟩ := and2 h
  refine ⟨?_, by simpa using h2, by simpa using h3, of_decide_eq_true h4, of_decide_eq_true h5, fun x m => ?_, fun y m => ?_⟩
  · unfold isFun at h1
    split at h1
    · assumption
    · cases h1
  · have q := List.all_eq_true.mp h6 x m
    simpa using q
  · have q := List.all_eq_true.mp h7 y m
    simpa using q
/-- a def of the text is as its datum says -/
def Txt.okD (T : Txt) (φ : Nat → Fun) (q : Nat × List Str) : Bool :=
  let d := T.find (T.fnm q.1)
  let ps := d.1.args.map (·.arg)
  decide (T.nms.lookup q.1 = some q.2) && isPlainA d.1 && scopeB q.2 ps d.2.2 && decide (ps.length ≤ q.2.length) && (match T.tabN.lookup q.1 with
    | some (pn, ss, e) => decide (pn = ps.length) && chkN (T.GmU φ) T.rzs ⟨q.2, d.2.2, fun _ => true⟩ ss e d.2.1
    | none => (match T.tab.lookup q.1 with
      | some D => decide (D.pn = ps.length) && decide (D.nn = q.2.length) && decide (D.ref = T.rf q.1) && chkSs (T.GmU φ) T.rzs ⟨q.2, d.2.2, fun _ => true⟩ D.body d.2.1
      | none => (match T.tabZ.lookup q.1 with
        | some (pn, i, a, b, c, own, tg, elt) => decide (pn = ps.length) && decide (T.rf q.1 = none) && chkZ (T.GmU φ) ⟨q.2, d.2.2, fun _ => true⟩ i a b c own tg elt d.2.1
        | none => false)))
/-- what holds of the part of the heap -/
structure Says (T : Txt) (K : PySem.W.Frag) : Prop where
  df : ∀ q ∈ T.nms, ∃ fd, FunD K (T.fnm q.1) (T.fnm q.1) (T.find (T.fnm q.1)).1 (T.find (T.fnm q.1)).2.1 (T.find (T.fnm q.1)).2.2 [] [] (He.ga K (T.fnm q.1)) fd
  gl : ∀ q ∈ T.nms, PySem.W.nsIn K mainGlobals (T.fnm q.1) = some (some (.ref (He.ga K (T.fnm q.1))))
  xb : ∀ x ∈ T.xs, offCb K (He.ga K T.base) (He.ma K (He.ga K T.base) "__init__") x = true
  xx : ∀ c ∈ T.xs, ∀ x ∈ T.xs, PySem.W.kitOne K (.ref (He.ga K c)) (.ref (He.ga K x)) = some (subC c x) ∧ PySem.W.exmOne K (.ref (He.ga K c)) (.ref (He.ga K x)) = some (subC c x)
  fr : ∀ x ∈ bnames, PySem.W.nsIn K mainGlobals x = some none
  gt : ∀ q ∈ T.gt, ∃ v u, PySem.W.nsIn K mainGlobals q.1 = some (some u) ∧ RelV v u ∧ ∀ (F : Frg) R, Rp F R v q.2
  one : (K.lookup 1).isSome = true
  nol : (K.all fun p => !decide (p.2.cls = .type "list")) = true
  off : ∀ (h : Heap) (mg : Str → Option Value), K.In h → h.Ns mainGlobals mg → OffD T.P K mg (He.ga K T.base) (He.ma K (He.ga K T.base) "__init__")
section
variable {T : Txt} {K : PySem.W.Frag} {w : World} {mg : Str → Option Value} {base : Heap}
theorem Says.bind {φ : Nat → Fun} (Y : Says T K) (ok : ∀ q ∈ T.nms, T.okD φ q = true) {q : Nat × List Str} (m : q ∈ T.nms) {fd : FuncData} (F : FunD K (T.fnm q.1) (T.fnm q.1) (T.find (T.fnm q.1)).1 (T.find (T.fnm q.1)).2.1 (T.find (T.fnm q.1)).2.2 [] [] (He.ga K (T.fnm q.1)) fd) : Binds K fd ((T.find (T.fnm q.1)).1.args.map (·.arg)) [] := by
  have c := ok q m
  unfold Txt.okD at c
  obtain ⟨c, _⟩ := and2 c
  obtain ⟨c, c4⟩ := and2 c
  obtain ⟨c, c3⟩ := and2 c
  obtain ⟨c1, c2⟩ := and2 c
  refine F.bindsN fun kV doc pm an cdv ct us hl => ?_
  rw [isPlainA_eq c2]
  exact bind_plain _ _ _ _ _ _ _ _ _ _ ((List.take_prefix _ _ |>.sublist.nodup (scope_ok c3).nd |> fun z => by rw [(scope_ok c3).pre] at z; exact z)) hl
theorem rz_any (Y : Says T K) (hr0 : ∀ c ∈ T.rzs, c ∈ T.xs) (inB : K.In base) (nsB : base.Ns mainGlobals mg) {n : Nat} {N : List Str} {qual : Str} {scope : Scope} {f : Addr} {cdv : Value} (A : Around) (outer : List Env) (s : Shared) (H : Hp) (E : XK)
    (room : Room n (A.deeper (envOfC qual scope s.heap.objs.size f cdv))) : RzOk T.rzs (clOf mg) (cxG T.P w K mg base N qual scope f cdv A outer s H E) E := by
  refine rz_ok (Y.off base mg inB nsB) (fun c m => ?_) room rfl (takes_of rfl rfl rfl rfl)
  obtain ⟨h1, _, h3, _⟩ := offC_ok inB nsB (Y.xb c (hr0 c m))
  show OffC K mg _ _ c (clOf mg c)
  rw [h3]
  exact h1
theorem Says.prom (Y : Says T K) (hr0 : ∀ c ∈ T.rzs, c ∈ T.xs) (inB : K.In base) (nsB : base.Ns mainGlobals mg) {n : Nat} (F : Facts T.P w K mg base (clOf mg) n (T.GmU (T.Phi n))) {q : Nat × List Str} (ok : T.okD (T.Phi n) q = true) {fd : FuncData}
    (FD : FunD K (T.fnm q.1) (T.fnm q.1) (T.find (T.fnm q.1)).1 (T.find (T.fnm q.1)).2.1 (T.find (T.fnm q.1)).2.2 [] [] (He.ga K (T.fnm q.1)) fd) :
    (T.tabN.lookup q.1 ≠ none → FnG T.P w K mg base (n + 1) (He.ga K (T.fnm q.1)) fd ((T.find (T.fnm q.1)).1.args.map (·.arg)) (spN ⟨K, w, clOf mg⟩ (clOf mg) (T.Phi (n + 1) q.1))) ∧
    (T.tabN.lookup q.1 = none → FnG T.P w K mg base (n + 1) (He.ga K (T.fnm q.1)) fd ((T.find (T.fnm q.1)).1.args.map (·.arg)) (spD ⟨K, w, clOf mg⟩ (clOf mg) (T.rf q.1) (T.Phi (n + 1) q.1))) := by
  obtain ⟨oc, od, dV, kV, doc, pm, an, cdv, ct, osl, rfl, lk, hcd, _, _⟩ := FD.ex
  unfold Txt.okD at ok
  obtain ⟨ok, c5⟩ := and2 ok
  obtain ⟨ok, c4⟩ := and2 ok
  obtain ⟨ok, c3⟩ := and2 ok
  obtain ⟨c1, c2⟩ := and2 ok
  have en : T.nms.lookup q.1 = some q.2 := of_decide_eq_true c1
  have S := scope_ok c3
  have hle := of_decide_eq_true c4
  have eP : T.Phi (n + 1) q.1 = T.up (T.Phi n) q.1 := rfl
  rw [eP]
  unfold Txt.up
  rw [en]
  cases e1 : T.tabN.lookup q.1 with
  | some z =>
    obtain ⟨pn, ss, e⟩ := z
    rw [e1] at c5
    obtain ⟨d1, d2⟩ := and2 c5
    exact ⟨fun _ => def_okN (rzs := T.rzs) 0 lk hcd S (of_decide_eq_true d1) rfl hle d2 F (fun A outer s H E room => rz_any Y hr0 inB nsB A outer s H E room), fun z => nomatch z⟩
  | none =>
    rw [e1] at c5
    refine ⟨fun z => (z rfl).elim, fun _ => ?_⟩
    cases e2 : T.tab.lookup q.1 with
    | some D =>
      rw [e2] at c5
      obtain ⟨c5, d4⟩ := and2 c5
      obtain ⟨c5, d3⟩ := and2 c5
      obtain ⟨d1, d2⟩ := and2 c5
      have er := of_decide_eq_true d3
      rw [← er]
      exact def_ok (rzs := T.rzs) 0 lk hcd S (of_decide_eq_true d1) (of_decide_eq_true d2) hle d4 F (fun A outer s H E room => rz_any Y hr0 inB nsB A outer s H E room)
    | none =>
      rw [e2] at c5
      cases e3 : T.tabZ.lookup q.1 with
      | none => rw [e3] at c5; cases c5
      | some z =>
        obtain ⟨pn, i, a, b, c, own, tg, elt⟩ := z
        rw [e3] at c5
        obtain ⟨c5, d3⟩ := and2 c5
        obtain ⟨d1, d2⟩ := and2 c5
        have er := of_decide_eq_true d2
        rw [er]
        exact def_okZ (rzs := T.rzs) lk hcd S (of_decide_eq_true d1) rfl hle d3 F (fun A outer s H E room => rz_any Y hr0 inB nsB A outer s H E room)
theorem look_mem {α : Type} : ∀ {l : List (Nat × α)} {g : Nat} {x : α}, l.lookup g = some x → (g, x) ∈ l
  | (a, b) :: r, g, x, h => by
    rw [List.lookup_cons] at h
    cases e : (g == a) with
    | true =>
      rw [e] at h
      cases h
      rw [eq_of_beq e]
      exact List.mem_cons_self
    | false =>
      rw [e] at h
      exact List.mem_cons_of_mem _ (look_mem h)
theorem fnG_bad {a : Addr} {fd : FuncData} {ps : List Str} {cl : Cls} {rf : Option Nat} {n : Nat} : FnG T.P w K mg base n a fd ps (spD ⟨K, w, clOf mg⟩ cl rf fun _ => .bad) :=
  ⟨fun vs H Q E ⟨_, _, _, _, _, z⟩ => z.elim, fun A outer s H args us vs Q E _ _ _ _ _ ⟨_, _, _, _, _, z⟩ => z.elim⟩
theorem fnN_bad {a : Addr} {fd : FuncData} {ps : List Str} {cl : Cls} {n : Nat} : FnG T.P w K mg base n a fd ps (spN ⟨K, w, clOf mg⟩ cl fun _ => .bad) :=
  ⟨fun vs H Q E ⟨_, _, _, _, z⟩ => z.elim, fun A outer s H args us vs Q E _ _ _ _ _ ⟨_, _, _, _, z⟩ => z.elim⟩
/-- how keywords are bound -/
def KwHyp (T : Txt) : Prop := ∀ f ks ns, T.kk f ks = some ns → T.kn f = true ∧ T.rf f = none ∧ ∀ (kV doc pm : Value) (an : Option Addr) (cdv ct : Value) (ws : List Value), (pick (T.kp f ks) ws).length = ((T.find (T.fnm f)).1.args.map (·.arg)).length →
  bindArgs (PySem.W.fnOf (T.fnm f) (T.fnm f) (T.find (T.fnm f)).1 (T.find (T.fnm f)).2.1 (T.find (T.fnm f)).2.2 .none kV doc pm an cdv ct) ⟨[], ns.zip ws⟩ = pure (((T.find (T.fnm f)).1.args.map (·.arg)).zip (pick (T.kp f ks) ws))
theorem Says.lev (Y : Says T K) (hr0 : ∀ c ∈ T.rzs, c ∈ T.xs) (inB : K.In base) (nsB : base.Ns mainGlobals mg) (ok : ∀ φ, ∀ q ∈ T.nms, T.okD φ q = true) (hkw : KwHyp T) : ∀ n,
    (∀ q ∈ T.nms, ∃ fd, FunD K (T.fnm q.1) (T.fnm q.1) (T.find (T.fnm q.1)).1 (T.find (T.fnm q.1)).2.1 (T.find (T.fnm q.1)).2.2 [] [] (He.ga K (T.fnm q.1)) fd ∧
      (T.tabN.lookup q.1 ≠ none → FnG T.P w K mg base n (He.ga K (T.fnm q.1)) fd ((T.find (T.fnm q.1)).1.args.map (·.arg)) (spN ⟨K, w, clOf mg⟩ (clOf mg) (T.Phi n q.1))) ∧
      (T.tabN.lookup q.1 = none → FnG T.P w K mg base n (He.ga K (T.fnm q.1)) fd ((T.find (T.fnm q.1)).1.args.map (·.arg)) (spD ⟨K, w, clOf mg⟩ (clOf mg) (T.rf q.1) (T.Phi n q.1)))) ∧
    Facts T.P w K mg base (clOf mg) n (T.GmU (T.Phi n)) := by
  have fin : ∀ n, (∀ q ∈ T.nms, ∃ fd, FunD K (T.fnm q.1) (T.fnm q.1) (T.find (T.fnm q.1)).1 (T.find (T.fnm q.1)).2.1 (T.find (T.fnm q.1)).2.2 [] [] (He.ga K (T.fnm q.1)) fd ∧
      (T.tabN.lookup q.1 ≠ none → FnG T.P w K mg base n (He.ga K (T.fnm q.1)) fd ((T.find (T.fnm q.1)).1.args.map (·.arg)) (spN ⟨K, w, clOf mg⟩ (clOf mg) (T.Phi n q.1))) ∧
      (T.tabN.lookup q.1 = none → FnG T.P w K mg base n (He.ga K (T.fnm q.1)) fd ((T.find (T.fnm q.1)).1.args.map (·.arg)) (spD ⟨K, w, clOf mg⟩ (clOf mg) (T.rf q.1) (T.Phi n q.1)))) → Facts T.P w K mg base (clOf mg) n (T.GmU (T.Phi n)) := fun n pr => by
    have xok : ∀ c, decide (c ∈ T.xs) = true → OffC K mg (He.ga K T.base) (He.ma K (He.ga K T.base) "__init__") c (He.ga K c) ∧ ExcC K (He.ga K c) ∧ clOf mg c = He.ga K c ∧ PySem.W.kitOne K (.type "NoneType") (.ref (He.ga K c)) = some false := fun c h => offC_ok inB nsB (Y.xb c (of_decide_eq_true h))
    have mgo : ∀ q ∈ T.nms, mg (T.fnm q.1) = some (.ref (He.ga K (T.fnm q.1))) := fun q m => PySem.W.mg_of inB nsB (Y.gl q m)
    refine { one := ?_, fr := fun x m => PySem.W.mg_none_of inB nsB (Y.fr x m), gl := fun j q e => ?_, fns := fun g e => ?_, kws := fun g ks ns e => ?_, fnN := fun g e => ?_, xc := fun c e => ?_, xk := fun c x e1 e2 => ?_ }
    · obtain ⟨o, e⟩ := Option.isSome_iff_exists.mp Y.one
      exact ⟨o, inB _ _ e⟩
    · obtain ⟨v, u, e1, e2, e3⟩ := Y.gt q (List.mem_of_getElem? e)
      exact ⟨v, u, PySem.W.mg_of inB nsB e1, e2, e3 _⟩
    · have e : T.kn g = true := e
      unfold Txt.kn at e
      obtain ⟨e, _⟩ := and2 e
      obtain ⟨e1, e2⟩ := and2 e
      obtain ⟨N, en⟩ := Option.isSome_iff_exists.mp e1
      have m := look_mem en
      obtain ⟨fd, FD, _, p2⟩ := pr _ m
      exact ⟨_, fd, _, n, Nat.le_refl _, mgo _ m, FD.kp, p2 (by simpa using e2), Says.bind Y (ok (T.Phi n)) m FD⟩
    · obtain ⟨k1, k2, k3⟩ := hkw g ks ns e
      unfold Txt.kn at k1
      obtain ⟨k1, _⟩ := and2 k1
      obtain ⟨e1, e2⟩ := and2 k1
      obtain ⟨N, en⟩ := Option.isSome_iff_exists.mp e1
      have m := look_mem en
      obtain ⟨fd, FD, _, p2⟩ := pr _ m
      have p3 := p2 (by simpa using e2)
      dsimp only at p3
      rw [k2] at p3
      refine ⟨_, fd, _, n, Nat.le_refl _, mgo _ m, FD.kp, p3, ⟨fun s ws _ hl => ?_⟩⟩
      obtain ⟨oc, od, dV, kV, doc, pm, an, cdv, ct, osl, rfl, lk, hcd, hD, _⟩ := FD.ex
      rcases hD with ⟨_, rfl⟩ | ⟨z, _⟩
      · exact .of_eq (k3 kV doc pm an cdv ct ws hl)
      · exact absurd rfl z
    · have e : T.knN g = true := e
      unfold Txt.knN at e
      obtain ⟨e1, e2⟩ := and2 e
      obtain ⟨N, en⟩ := Option.isSome_iff_exists.mp e1
      have m := look_mem en
      obtain ⟨fd, FD, p1, _⟩ := pr _ m
      exact ⟨_, fd, _, n, Nat.le_refl _, mgo _ m, FD.kp, p1 (fun z => by dsimp only at z; rw [z] at e2; cases e2), Says.bind Y (ok (T.Phi n)) m FD⟩
    · obtain ⟨h1, h2, h3, h4⟩ := xok c e
      rw [h3]
      exact ⟨⟨_, _, h1⟩, h2, rfl, h4⟩
    · obtain ⟨_, _, h3, _⟩ := xok c e1
      obtain ⟨_, _, g3, _⟩ := xok x e2
      rw [h3, g3]
      exact Y.xx c (of_decide_eq_true e1) x (of_decide_eq_true e2)
  intro n
  induction n with
  | zero =>
    have pr : (∀ q ∈ T.nms, ∃ fd, FunD K (T.fnm q.1) (T.fnm q.1) (T.find (T.fnm q.1)).1 (T.find (T.fnm q.1)).2.1 (T.find (T.fnm q.1)).2.2 [] [] (He.ga K (T.fnm q.1)) fd ∧
      (T.tabN.lookup q.1 ≠ none → FnG T.P w K mg base 0 (He.ga K (T.fnm q.1)) fd ((T.find (T.fnm q.1)).1.args.map (·.arg)) (spN ⟨K, w, clOf mg⟩ (clOf mg) (T.Phi 0 q.1))) ∧
      (T.tabN.lookup q.1 = none → FnG T.P w K mg base 0 (He.ga K (T.fnm q.1)) fd ((T.find (T.fnm q.1)).1.args.map (·.arg)) (spD ⟨K, w, clOf mg⟩ (clOf mg) (T.rf q.1) (T.Phi 0 q.1)))) := fun q m => by
      obtain ⟨fd, FD⟩ := Y.df q m
      exact ⟨fd, FD, fun _ => fnN_bad, fun _ => fnG_bad⟩
    exact ⟨pr, fin 0 pr⟩
  | succ n ih =>
    have pr : (∀ q ∈ T.nms, ∃ fd, FunD K (T.fnm q.1) (T.fnm q.1) (T.find (T.fnm q.1)).1 (T.find (T.fnm q.1)).2.1 (T.find (T.fnm q.1)).2.2 [] [] (He.ga K (T.fnm q.1)) fd ∧
      (T.tabN.lookup q.1 ≠ none → FnG T.P w K mg base (n + 1) (He.ga K (T.fnm q.1)) fd ((T.find (T.fnm q.1)).1.args.map (·.arg)) (spN ⟨K, w, clOf mg⟩ (clOf mg) (T.Phi (n + 1) q.1))) ∧
      (T.tabN.lookup q.1 = none → FnG T.P w K mg base (n + 1) (He.ga K (T.fnm q.1)) fd ((T.find (T.fnm q.1)).1.args.map (·.arg)) (spD ⟨K, w, clOf mg⟩ (clOf mg) (T.rf q.1) (T.Phi (n + 1) q.1)))) := fun q m => by
      obtain ⟨fd, FD⟩ := Y.df q m
      exact ⟨fd, FD, Says.prom Y hr0 inB nsB ih.2 (ok _ q m) FD⟩
    exact ⟨pr, fin (n + 1) pr⟩
end
end DL
set_option Elab.async false
set_option linter.all false
set_option maxRecDepth 100000
set_option maxHeartbeats 2000000
/-! DL, part hd: the head's run tells what the levels ask. -/
namespace DL
open PySem PySem.Spec PyProof.Rows L2
abbrev IniV : Type := Option (Str × Str × Arguments × FuncBody × Scope × Addr × List Str × Addr)
def iniT (a : Arguments) (b : List Stmt) (sc : Scope) : IniV := some (("__init__" : Str), ("OfficeError.__init__" : Str), a, FuncBody.stmts b, sc, mainGlobals, [("__class__" : Str)], builtinsNs)
def iniV (K : PySem.W.Frag) (fI : Addr) : IniV := match K.lookup fI with
  | some ⟨_, _, .func fd, _⟩ => some (fd.name, fd.qualname, fd.params, fd.body, fd.scope, fd.globals, fd.closure.map (·.1), fd.builtins)
  | _ => none
def offDb (P : Program) (K : PySem.W.Frag) (D fI : Addr) : Bool :=
  (match K.lookup fI with
  | some ⟨_, _, .func fd, _⟩ => decide (fd.defaults = .none) && (decide (fd.kwdefaults = .none) && ((match fd.code with
    | .ref cda => PySem.W.codeIn K (.ref cda) "OfficeError.__init__" && (match K.lookup cda with
      | some ⟨_, _, .fields vs, _⟩ => (match (vs[2]? : Option Value) with
        | some (.str file _) => (P.main.file : Str) == file
        | _ => false)
      | _ => false)
    | _ => false) && (match fd.closure with
    | [(_, cc)] => (match K.lookup cc with
      | some ⟨_, _, .cell (some v), _⟩ => decide (v = .ref D)
      | _ => false)
    | _ => false)))
  | _ => false) && ((PySem.W.clsIn K D).isSome && (decide (PySem.W.nsIn K mainGlobals "super" = some none) && (!(P.main.scope.names.lookup ("super" : Str)).isSome && decide (PySem.W.nsIn K cStatics "thirdparty.any" = some none))))
theorem offD_ok {P : Program} {K : PySem.W.Frag} {D fI : Addr} {p1 p2 q1 q2 q3 q4 q5 q6 q7 q8 q9 q0 : Pos} (c : offDb P K D fI = true) (e : iniV K fI = iniT (oA p1 p2) (oB q1 q2 q3 q4 q5 q6 q7 q8 q9 q0) oS) (hl : (q3.endLine == q5.line) = true)
    (h : Heap) (mg : Str → Option Value) (X : K.In h) (G : h.Ns mainGlobals mg) : OffD P K mg D fI := by
  unfold offDb at c
  obtain ⟨c0, c⟩ := and2 c
  obtain ⟨c1, c⟩ := and2 c
  obtain ⟨c2, c⟩ := and2 c
  obtain ⟨c3, c4⟩ := and2 c
  refine ⟨?_, Option.isSome_iff_exists.mp c1, PySem.W.mg_none_of X G (of_decide_eq_true c2), by simpa using c3, of_decide_eq_true c4⟩
  unfold iniV at e
  cases ho : K.lookup fI with
  | none => rw [ho] at c0; cases c0
  | some o =>
    obtain ⟨oc, od, dt, osl⟩ := o
    rw [ho] at c0 e
    cases dt with
    | func fd =>
      obtain ⟨n1, n2, n3, n4, n5, n6, n7, n8, n9, n10, n11, n12, n13, n14, n15⟩ := fd
      have e2 : (some (n1, n2, n3, n4, n5, n6, n7.map (·.1), n15) : IniV) = iniT (oA p1 p2) (oB q1 q2 q3 q4 q5 q6 q7 q8 q9 q0) oS := e
      unfold iniT at e2
      simp only [Option.some.injEq, Prod.mk.injEq] at e2
      obtain ⟨h1, h2, h3, h4, h5, h6, h7, h8⟩ := e2
      subst h1 h2 h3 h4 h5 h6 h8
      dsimp only at c0
      have cc0 := and2 c0
      clear c0
      obtain ⟨d1, c0⟩ := cc0
      have cc0 := and2 c0
      clear c0
      obtain ⟨d2, c0⟩ := cc0
      have cc0 := and2 c0
      clear c0
      obtain ⟨d3, d4⟩ := cc0
      have e1 := of_decide_eq_true d1
      have e2 := of_decide_eq_true d2
      subst e1 e2
      rcases n7 with _ | ⟨⟨y, cc⟩, _ | ⟨_, _⟩⟩
      · cases d4
      rotate_left
      · cases d4
      cases h7
      dsimp only at d4
      split at d4
      · rename_i cl cld v csl hc
        have ev := of_decide_eq_true d4
        subst ev
        cases n13 <;> first | (cases d3; done) | skip
        rename_i cda
        obtain ⟨d3, d5⟩ := and2 d3
        split at d5
        · rename_i ccl cdd vs ccs hv
          split at d5
          · rename_i file tf hf
            exact ⟨oc, od, n10, n11, n12, cda, cc, n14, osl, p1, p2, q1, q2, q3, q4, q5, q6, q7, q8, q9, q0, hl, rfl, d3, ⟨ccl, cdd, vs, ccs, file, tf, hv, hf, d5⟩, ⟨cl, cld, csl, hc⟩⟩
          · cases d5
        · cases d5
      · cases d4
    | _ => first | cases c0
/-- a constant of the module -/
def gtB (K : PySem.W.Frag) (q : Str × PyData) : Bool := match PySem.W.nsIn K mainGlobals q.1, q.2 with
  | some (some (.int i _)), .int j => decide (i = j)
  | some (some (.str x _)), .str y => decide (x = y) && decide (y.length ≤ sizeLine)
  | _, _ => false
theorem gtB_ok {K : PySem.W.Frag} {q : Str × PyData} (c : gtB K q = true) : ∃ v u, PySem.W.nsIn K mainGlobals q.1 = some (some u) ∧ RelV v u ∧ ∀ (F : Frg) R, Rp F R v q.2 := by
  unfold gtB at c
  split at c
  · rename_i i t j e1 e2
    have e := of_decide_eq_true c
    subst e
    exact ⟨.int i, _, e1, ⟨t, rfl⟩, fun F R => by rw [e2]; exact .int _⟩
  · rename_i x t y e1 e2
    obtain ⟨c1, c2⟩ := and2 c
    have e := of_decide_eq_true c1
    subst e
    exact ⟨.str x, _, e1, ⟨t, rfl⟩, fun F R => by rw [e2]; exact .str _ (of_decide_eq_true c2)⟩
  · cases c
def sayB (T : Txt) (K : PySem.W.Frag) : Bool := let D := He.ga K T.base; let fI := He.ma K D "__init__"
  (T.nms.all fun q => (T.dd q.1).ok K && decide (PySem.W.nsIn K mainGlobals (T.fnm q.1) = some (some (.ref (He.ga K (T.fnm q.1)))))) && ((T.xs.all fun x => offCb K D fI x) &&
  ((T.xs.all fun c => T.xs.all fun x => decide (PySem.W.kitOne K (.ref (He.ga K c)) (.ref (He.ga K x)) = some (subC c x)) && decide (PySem.W.exmOne K (.ref (He.ga K c)) (.ref (He.ga K x)) = some (subC c x))) &&
  ((bnames.all fun x => decide (PySem.W.nsIn K mainGlobals x = some none)) && ((T.gt.all fun q => gtB K q) && ((K.lookup 1).isSome && ((K.all fun p => !decide (p.2.cls = .type "list")) && offDb T.P K D fI))))))
abbrev AlT : Type := Bool × List He.FnW × IniV
def obsT (T : Txt) (K : PySem.W.Frag) : AlT := (sayB T K, T.nms.map fun q => He.fnW K (T.fnm q.1, none), iniV K (He.ma K (He.ga K T.base) "__init__"))
/-- the text of the base class's own __init__ -/
def iniS (x : Str) : List Stmt → Option (Arguments × List Stmt × Scope)
  | [] => none
  | .ClassDef n _ _ b _ _ _ _ _ _ _ :: r => if n = x then findS "__init__" b else iniS x r
  | _ :: r => iniS x r
def Txt.ini (T : Txt) : IniV := (iniS T.base T.P.main.body).bind fun q => iniT q.1 q.2.1 q.2.2
def valT (T : Txt) : AlT := (true, T.nms.map fun q => (T.dd q.1).val, T.ini)
theorem says_of {T : Txt} {K : PySem.W.Frag} (hini : ∃ p1 p2 q1 q2 q3 q4 q5 q6 q7 q8 q9 q0 : Pos, T.ini = iniT (oA p1 p2) (oB q1 q2 q3 q4 q5 q6 q7 q8 q9 q0) oS ∧ (q3.endLine == q5.line) = true)
    (e : obsT T K = valT T) : Says T K := by
  have e1 : sayB T K = true := congrArg (fun z : AlT => z.1) e
  have e2 : (T.nms.map fun q => He.fnW K (T.fnm q.1, none)) = T.nms.map fun q => (T.dd q.1).val := congrArg (fun z : AlT => z.2.1) e
  have e3 : iniV K (He.ma K (He.ga K T.base) "__init__") = T.ini := congrArg (fun z : AlT => z.2.2) e
  unfold sayB at e1
  obtain ⟨c1, c⟩ := and2 e1
  obtain ⟨c2, c⟩ := and2 c
  obtain ⟨c3, c⟩ := and2 c
  obtain ⟨c4, c⟩ := and2 c
  obtain ⟨c5, c⟩ := and2 c
  obtain ⟨c6, c⟩ := and2 c
  obtain ⟨c8, c7⟩ := and2 c
  obtain ⟨p1, p2, q1, q2, q3, q4, q5, q6, q7, q8, q9, q0, hi, hl⟩ := hini
  refine ⟨fun q m => ?_, fun q m => ?_, fun x m => List.all_eq_true.mp c2 x m, fun c mc x mx => ?_, fun x m => of_decide_eq_true (List.all_eq_true.mp c4 x m), fun q m => gtB_ok (List.all_eq_true.mp c5 q m), c6, c8, offD_ok c7 (e3.trans hi) hl⟩
  · obtain ⟨i, hi2⟩ := List.mem_iff_getElem?.mp m
    have f : (T.nms.map fun q => He.fnW K (T.fnm q.1, none))[i]? = (T.nms.map fun q => (T.dd q.1).val)[i]? := by rw [e2]
    rw [List.getElem?_map, List.getElem?_map, hi2] at f
    exact He.DefD.funD (d := T.dd q.1) (Option.some.inj f) (and2 (List.all_eq_true.mp c1 q m)).1
  · exact of_decide_eq_true (and2 (List.all_eq_true.mp c1 q m)).2
  · obtain ⟨d1, d2⟩ := and2 (List.all_eq_true.mp (List.all_eq_true.mp c3 c mc) x mx)
    exact ⟨of_decide_eq_true d1, of_decide_eq_true d2⟩
def obsTG (T : Txt) (g : Addr → Option Obj) : AlT := obsT T (He.frG g (asK g))
def hookT (T : Txt) : PySem.W.Hook where
  α := AlT
  obs s := obsTG T s.heap.get?
  val _ := valT T
  says _ h := ∃ K : PySem.W.Frag, K.In h ∧ obsT T K = valT T
  of _ _ e := ⟨_, He.frG_in, e⟩
  keeps _ _ _ z k := z.elim fun K c => ⟨K, c.1.keeps k, c.2⟩
theorem obsTG_eq {T : Txt} {g : Addr → Option Obj} {s : Shared} (h : ∀ a, g a = s.heap.get? a) : obsTG T g = (hookT T).obs s := by
  rw [show g = s.heap.get? from funext h]
  rfl
end DL
set_option Elab.async false
set_option linter.all false
set_option maxRecDepth 100000
set_option maxHeartbeats 2000000
/-! DL, part fin: the law of a text, from what the evaluator tells of it. -/
namespace DL
open PySem PySem.Spec PyProof.Rows L2
theorem fd_one {K : PySem.W.Frag} {x q : Str} {A : Arguments} {b : List Stmt} {sc : Scope} {f : Addr} {fd fd' : FuncData} (F : FunD K x q A b sc [] [] f fd) (F' : FunD K x q A b sc [] [] f fd') : fd = fd' := by
  obtain ⟨_, _, _, _, _, _, _, _, _, _, _, lk, _⟩ := F.ex
  obtain ⟨_, _, _, _, _, _, _, _, _, _, _, lk', _⟩ := F'.ex
  rw [lk] at lk'
  cases lk'
  rfl
theorem look_in {a : Addr} {o : Obj} : ∀ {K : PySem.W.Frag}, K.lookup a = some o → (a, o) ∈ K
  | (b, u) :: r, h => by
    have h : (match a == b with | true => some u | false => List.lookup a r) = some o := h
    cases e : (a == b) with
    | true =>
      rw [e] at h
      cases h
      rw [eq_of_beq e]
      exact List.mem_cons_self
    | false =>
      rw [e] at h
      exact List.mem_cons_of_mem _ (look_in (K := r) h)
theorem ints_rp {F : Frg} {R : Hp} : ∀ ns : List Int, RpL F R (ns.map V.int) (ns.map PyData.int)
  | [] => .nil
  | n :: r => .cons (.int n) (ints_rp r)
/-- THE LAW: where the evaluator says True, it is so -/
theorem Txt.law {T : Txt} {l : PySem.W.OpenLaw} {q : Program} {loose : List Str} {d : DefRec} {g n : Nat} {N : List Str} {ar : Arg}
    (hP : T.P = l.prog) (hn : l.most = some 63) (hdf : d.params.defaults = []) (hname : T.fnm g = d.name) (hg : (g, N) ∈ T.nms) (hz : T.tabN.lookup g = none) (href : T.rf g = none) (hps : (T.find (T.fnm g)).1 = plainA [ar])
    (hini : ∃ p1 p2 q1 q2 q3 q4 q5 q6 q7 q8 q9 q0 : Pos, T.ini = iniT (oA p1 p2) (oB q1 q2 q3 q4 q5 q6 q7 q8 q9 q0) oS ∧ (q3.endLine == q5.line) = true)
    (hr0 : ∀ c ∈ T.rzs, c ∈ T.xs) (ok : ∀ φ, ∀ q ∈ T.nms, T.okD φ q = true) (hkw : KwHyp T) (hroom : Room n callerA)
    (plain : ∀ ns : List Int, ns.length ≤ 63 → (∀ k ∈ ns, Builtin.Int.intBits k ≤ 1048576) → ∃ o, T.Phi n g [.list (ns.map .int)] = .ok (.bool true, o)) :
    PySem.W.WalkO q loose (PySem.W.XL q []) (hookT T).says l.row.toRowW d [] (fun f vs => PySem.call f vs) := by
  refine Att.attach_callB hn hdf fun w s0 s1 mg mb fa o pm cd doc a vs ns G Y ho hd hcd hmg hobj hints hlen hbits hgen => ?_
  obtain ⟨K, KX, e⟩ := Y
  have S := says_of hini e
  obtain ⟨fd, FD⟩ := S.df _ hg
  have hga : He.ga K (T.fnm g) = fa := by
    have z := PySem.W.mg_of KX G.T.g (S.gl _ hg)
    dsimp only at z
    rw [hname, hmg] at z
    cases z
    rw [hname]
  rw [← hP]
  refine lcallG (x := ar.arg) (sp := spD ⟨K, w, clOf mg⟩ (clOf mg) none (T.Phi n g)) (fd := fd) KX G.T.g G.T.b G.T.builtins G.T.nolimit hgen hobj hints (Nat.le_trans hlen (by decide)) hroom (fun base inB nsB _ => ?_) (fun s u => ?_) (fun H sq only => ?_)
  · obtain ⟨fd', FD', _, p2⟩ := (Says.lev (w := w) S hr0 inB nsB ok hkw n).1 _ hg
    have e2 := fd_one FD FD'
    subst e2
    have p3 := p2 hz
    dsimp only at p3
    rw [hga, href, hps] at p3
    exact p3
  · have b := FD.bindsA (ps := [ar.arg]) (fun kV doc pm an cdv ct us hl => by
      dsimp only
      rw [hps]
      exact bind_plain (as := [ar]) _ _ _ _ _ _ _ _ _ _ (by simp) hl) s [u] rfl
    exact b
  · obtain ⟨o, hp⟩ := plain ns hlen hbits
    have nk : ∀ ob, K.lookup a = some ob → ob.cls ≠ .type "list" := fun ob z => by
      have q := List.all_eq_true.mp S.nol _ (look_in z)
      simpa using q
    have hH : Rd H a (.lst (ns.map V.int)) := by
      rcases sq with z | ⟨ob, its, k, z, hc, _⟩
      · exact z
      · exact absurd hc (nk ob z)
    refine ⟨upd (fun _ => none) a (.lst (ns.map V.int)), [.list (ns.map .int)], [], fun b u z => ?_, ⟨rfl, .cons (.lst upd_same (ints_rp ns)) .nil⟩, ?_⟩
    · by_cases hb : b = a
      · rw [hb, upd_same] at z
        cases z
        rw [hb]
        rcases hH with z | ⟨ob, z⟩
        · exact .inl z
        · exact .inr ⟨ob, _, rfl, z⟩
      · rw [upd_ne hb] at z
        cases z
    · rw [hp]
      exact fun v R' H' A rv _ => by
        cases rv
        rfl
end DL
set_option Elab.async false
set_option linter.all false
set_option maxRecDepth 100000
namespace DL
open PySem PySem.W
namespace Tx
def gt : List (Str × PyData) := [("SMALL", (.str "abcdefghijklmnopqrstuvwxyz")), ("FIGURES", (.str "0123456789")), ("MOST_NAME", (.int 8)), ("MOST_BOXES", (.int 300))]
def fnmL : List Str := (["is_whole", "is_count", "is_signs", "is_name", "ascends", "is_row_of_fields", "is_fields", "check_fields", "is_of_row", "is_thing_of", "check_thing", "value_key", "thing_key", "is_span", "are_parted", "is_lot_of", "is_side_of", "both_spans", "meet_sides", "whole_of", "is_bare", "first_in_span", "first_in_side", "has_value", "is_box_of", "is_region_of", "check_region", "whole_box", "cut_points", "cells_of"] : List Str) ++ (["in_side", "grid_of_boxes", "mask_of", "in_side_of", "masked_boxes", "low_key", "joined_spans", "side_of_mask", "boxes_of_masks", "mask_within", "bits_of", "greatest_few", "begun_state", "state_behind", "last_mask", "with_cell", "greatest_boxes", "all_greatest", "plain_of", "plain_less", "row_names", "is_price", "is_prices", "check_prices", "step_price", "change_price", "price_between", "nearest_in", "cheapest_value", "cheapest_in_box"] : List Str) ++ (["boxes_left_free", "cheapest_round", "check_priced", "cheapest_way", "prices_by_box", "_law_hash", "_law_random", "_law_cell", "_law_generator", "_law_same", "_law_pick", "_law_fields", "_law_number", "_law_value", "_law_thing", "_law_of_side", "_law_names", "_law_prices", "_law_cost", "_law_bad_prices", "_law_caught", "_law_refused", "_law_no_fields", "_law_right", "law"] : List Str)
def fnm : Nat → Str := fun i => (fnmL[i]?).getD ""
def N_law : List Str := ["script", "index", "fields"]
def D_law : Def := ⟨1, none, 3, [.for (.n 1) (.range1 (.k (.int 4))) [.ite (.not (.callT 83 68 [(.v 0), (.v 1)])) [.ret (.k (.bool false))] []], .asg 2 (.tup [(.k (.str "fields")), (.lst [(.tup [(.k (.str "colour")), (.lst [(.k (.str "blue")), (.k (.str "red"))])]), (.tup [(.k (.str "legs")), (.k .none)])])]), .ret (.call 69 [(.call 56 [(.v 2), (.dct [(.k (.str "colour")), (.tup [(.k (.int 5)), (.k (.int 0))]), (.k (.str "legs")), (.tup [(.k (.int 1)), (.k (.int 3))])]), (.tup [(.k (.str "blue")), (.k (.int 4))]), (.tup [(.k (.str "red")), (.k (.int 2))])]), (.k (.int 12))])]⟩
def N__law_generator : List Str := ["script", "index", "seed"]
def Dn__law_generator : Nat × List S × E := (2, [.asg 2 (.call 67 [(.v 0), (.v 1)])], (.lst [(.bin .mod (.b1 .int (.b2 .max (.bin .sub (.v 2) (.bin .pow (.k (.int 10)) (.k (.int 18)))) (.k (.int 0)))) (.bin .pow (.bin .pow (.k (.int 10)) (.k (.int 60))) (.k (.int 10)))), (.bin .mod (.b1 .int (.v 2)) (.k (.int 2147483647))), (.bin .mul (.k (.int 1000)) (.v 1))]))
def N__law_right : List Str := ["generator", "fields", "kept", "turned", "one", "prices", "things", "at", "value", "other", "shown", "due", "told", "turn"]
def D__law_right : Def := ⟨1, (some 0), 14, [.asg 1 (.call 71 [(.bor 0)]), .par [5, 6] [false, false] [(.call 77 [(.bor 0), (.v 1)]), (.lc [13] (.n 13) (.range1 (.k (.int 5))) none (.call 74 [(.bor 0), (.v 1), (.lst [])]))], .asg 2 (.b1 .repr (.lst [(.v 1), (.v 5), (.v 6)])), .asg 3 (.b1 .dictP (.rev (.b1 .itemsL (.v 5)))), .for (.t [7, 8]) (.enum (.bin .add (.lst [(.v 5), (.v 3)]) (.call 79 [(.v 1), (.v 5)]))) [.par [10, 11] [false, false] [(.b1 .repr (.v 8)), (.cmp .lt (.v 7) (.k (.int 2)))], .ite (.orL [(.not (.call 69 [(.lst [(.call 52 [(.v 1), (.v 8)]), (.callK 52 [1, 0] [(.v 8), (.v 1)])]), (.lst [(.v 11), (.v 11)])])), (.cmp .ne (.b1 .repr (.v 8)) (.v 10))]) [.ret (.k (.bool false))] []], .for (.n 4) (.e (.v 6)) [.for (.n 9) (.e (.v 6)) [.asg 11 (.call 78 [(.v 1), (.v 5), (.v 4), (.v 9)]), .asg 12 (.lst [(.call 56 [(.v 1), (.v 5), (.v 4), (.v 9)]), (.callK 56 [3, 2, 1, 0] [(.v 9), (.v 4), (.v 5), (.v 1)]), (.call 56 [(.v 1), (.v 5), (.v 9), (.v 4)])]), .ite (.not (.call 69 [(.bin .add (.v 12) (.lst [(.call 56 [(.v 1), (.v 3), (.v 4), (.v 9)])])), (.lst [(.v 11), (.v 11), (.v 11), (.v 11)])])) [.ret (.k (.bool false))] []]], .ret (.andL [(.call 81 [(.v 1), (.v 5), (.sub (.v 6) (.k (.int 0)))]), (.cmp .eq (.b1 .repr (.lst [(.v 1), (.v 5), (.v 6)])) (.v 2))])]⟩
def N__law_same : List Str := ["told", "due", "is_like", "one", "other"]
def D__law_same : Def := ⟨2, none, 5, [.ite (.isa ["list", "tuple"] (.v 1)) [.asg 2 (.andL [(.cmp .eq (.isa ["list"] (.v 0)) (.isa ["list"] (.v 1))), (.cmp .eq (.isa ["tuple"] (.v 0)) (.isa ["tuple"] (.v 1)))]), .ret (.andL [(.v 2), (.cmp .eq (.b1 .len (.v 0)) (.b1 .len (.v 1))), (.b1 .all (.lc [3, 4] (.t [3, 4]) (.zip2 (.v 0) (.v 1)) none (.call 69 [(.v 3), (.v 4)])))])] [], .ite (.orL [(.isa ["list", "tuple"] (.v 0)), (.cmp .ne (.isN false (.v 0)) (.isN false (.v 1)))]) [.ret (.k (.bool false))] [], .asg 2 (.andL [(.cmp .eq (.isa ["bool"] (.v 0)) (.isa ["bool"] (.v 1))), (.cmp .eq (.isa ["int"] (.v 0)) (.isa ["int"] (.v 1)))]), .ret (.andL [(.v 2), (.cmp .eq (.isa ["str"] (.v 0)) (.isa ["str"] (.v 1))), (.cmp .eq (.v 0) (.v 1))])]⟩
def N_price_between : List Str := ["fields", "prices", "one", "other"]
def D_price_between : Def := ⟨4, none, 4, [.ex (.call 53 [(.v 0), (.v 1)]), .ex (.call 10 [(.v 0), (.v 2)]), .ex (.call 10 [(.v 0), (.v 3)]), .ret (.call 55 [(.v 0), (.v 1), (.v 2), (.v 3)])]⟩
def N__law_cell : List Str := ["script", "index"]
def D__law_cell : Def := ⟨2, none, 2, [.ite (.cmp .lt (.v 1) (.b1 .len (.v 0))) [.ret (.sub (.v 0) (.v 1))] [], .ret (.bin .mod (.b1 .sum (.sl (.v 0) none (some (.k (.int 1))))) (.k (.int 1000003)))]⟩
def N__law_bad_prices : List Str := ["fields", "prices", "names", "found", "odd", "at", "name", "rest", "other"]
def D__law_bad_prices : Def := ⟨2, none, 9, [.asg 2 (.call 76 [(.v 0)]), .asg 3 (.lst [(.k .none), (.lst []), (.dct []), (.b1 .list (.v 1)), (.k (.str "prices")), (.k (.int 7)), (.tup []), (.b1 .dictP (.bin .add (.b1 .itemsL (.v 1)) (.lst [(.tup [(.k (.str "zz")), (.tup [(.k (.int 1)), (.k (.int 1))])])]))), (.b1 .dictP (.sl (.b1 .itemsL (.v 1)) (some (.k (.int 1))) none)), (.b1 .dictP (.bin .add (.b1 .itemsL (.v 1)) (.lst [(.tup [(.k (.int 7)), (.tup [(.k (.int 1)), (.k (.int 1))])])])))]), .for (.n 4) (.e (.lst [(.k .none), (.tup [(.k (.int 1))]), (.tup [(.k (.int 1)), (.k (.int 1)), (.k (.int 1))]), (.lst [(.k (.int 1)), (.k (.int 1))]), (.tup [(.bin .sub (.k (.int 0)) (.k (.int 1))), (.k (.int 1))]), (.tup [(.k (.int 1)), (.bin .sub (.k (.int 0)) (.k (.int 1)))]), (.tup [(.k (.bool true)), (.k (.int 1))]), (.tup [(.k (.int 1)), (.k .none)]), (.tup [(.k (.str "1")), (.k (.int 1))]), (.k (.int 1)), (.tup [(.k (.int 1)), (.k (.bool false))]), (.dct [])])) [.asg 3 (.bin .add (.v 3) (.lc [6] (.n 6) (.e (.v 2)) none (.b1 .dictP (.bin .add (.b1 .itemsL (.v 1)) (.lst [(.tup [(.v 6), (.v 4)])])))))], .for (.t [5, 6]) (.enum (.v 2)) [.asg 7 (.lc [8] (.n 8) (.e (.v 2)) (some (.cmp .ne (.v 8) (.v 6))) (.tup [(.v 8), (.sub (.v 1) (.v 8))])), .asg 3 (.bin .add (.v 3) (.lc [4] (.n 4) (.e (.lst [(.k (.str "zz")), (.k (.str "")), (.bin .add (.v 6) (.k (.str "0"))), (.b1 .upper (.v 6)), (.k .none), (.k (.int 7)), (.tup [(.v 6)])])) none (.b1 .dictP (.bin .add (.v 7) (.lst [(.tup [(.v 4), (.sub (.v 1) (.v 6))])])))))], .ret (.v 3)]⟩
def N__law_cost : List Str := ["fields", "prices", "one", "other", "found", "name", "early", "late", "far"]
def D__law_cost : Def := ⟨4, none, 9, [.asg 4 (.k (.int 0)), .for (.t [5, 6, 7]) (.zip3 (.call 76 [(.v 0)]) (.v 2) (.v 3)) [.ite (.cmp .ne (.v 6) (.v 7)) [.asg 8 (.ite (.orL [(.isa ["str"] (.v 6)), (.isa ["str"] (.v 7))]) (.k (.int 0)) (.bin .sub (.b2 .max (.v 6) (.v 7)) (.b2 .min (.v 6) (.v 7)))), .asg 4 (.bin .add (.bin .add (.v 4) (.sub (.sub (.v 1) (.v 5)) (.k (.int 0)))) (.bin .mul (.sub (.sub (.v 1) (.v 5)) (.k (.int 1))) (.v 8)))] []], .ret (.v 4)]⟩
def N__law_fields : List Str := ["generator", "rows", "some", "row"]
def D__law_fields : Def := ⟨1, (some 0), 4, [.asg 1 (.lst [(.tup [(.k (.str "a")), (.lst [(.k (.str "x")), (.k (.str "y"))])]), (.tup [(.k (.str "b")), (.k .none)]), (.tup [(.k (.str "c")), (.lst [(.k (.str "p")), (.k (.str "q")), (.k (.str "r"))])]), (.tup [(.k (.str "d")), (.k .none)])]), .asg 2 (.lc [3] (.n 3) (.e (.v 1)) (some (.cmp .gt (.call 66 [(.bor 0), (.k (.int 3))]) (.k (.int 0)))) (.v 3)), .ret (.tup [(.k (.str "fields")), (.ite (.cmp .ne (.v 2) (.lst [])) (.sl (.v 2) none (some (.k (.int 3)))) (.lst [(.call 70 [(.bor 0), (.v 1)])]))])]⟩
def N__law_prices : List Str := ["generator", "fields", "menu", "row"]
def D__law_prices : Def := ⟨2, (some 0), 4, [.asg 2 (.lst [(.k (.int 0)), (.k (.int 0)), (.k (.int 1)), (.k (.int 2)), (.k (.int 5)), (.bin .pow (.k (.int 10)) (.k (.int 11)))]), .ret (.b1 .dictP (.lc [3] (.n 3) (.e (.sub (.v 1) (.k (.int 1)))) none (.tup [(.sub (.v 3) (.k (.int 0))), (.tup [(.call 70 [(.bor 0), (.v 2)]), (.call 70 [(.bor 0), (.v 2)])])])))]⟩
def N__law_refused : List Str := ["fields", "prices", "thing", "rows", "bad", "door", "args", "kind"]
def D__law_refused : Def := ⟨3, none, 8, [.asg 3 (.lst []), .for (.n 4) (.e (.lst [(.k .none), (.tup [(.k (.str "fields")), (.lst [])]), (.b1 .list (.v 0)), (.dct [])])) [.asg 3 (.bin .add (.v 3) (.lst [(.tup [(.k (.int 0)), (.lst [(.v 4), (.k .none), (.k .none), (.k .none)]), (.k (.int 0)), (.v 4)]), (.tup [(.k (.int 1)), (.lst [(.v 4), (.k .none), (.k .none), (.k .none)]), (.k (.int 0)), (.v 4)]), (.tup [(.k (.int 2)), (.lst [(.v 4), (.k .none), (.k .none), (.k .none)]), (.k (.int 0)), (.v 4)])])), .ite (.cmp .isn (.call 82 [(.v 4), (.v 1)]) (.k (.bool true))) [.ret (.k (.bool false))] []], .for (.n 4) (.e (.call 79 [(.v 0), (.v 1)])) [.asg 3 (.bin .add (.v 3) (.lst [(.tup [(.k (.int 0)), (.lst [(.v 0), (.v 4), (.k .none), (.k .none)]), (.k (.int 2)), (.v 4)]), (.tup [(.k (.int 1)), (.lst [(.v 0), (.lst []), (.v 4), (.k .none)]), (.k (.int 2)), (.v 4)]), (.tup [(.k (.int 2)), (.lst [(.v 0), (.lst []), (.v 4), (.k .none)]), (.k (.int 2)), (.v 4)])]))], .for (.n 4) (.e (.lst [(.k .none), (.b1 .list (.v 2)), (.bin .add (.v 2) (.tup [(.k (.str ""))])), (.sl (.v 2) (some (.k (.int 1))) none), (.bin .add (.tup [(.k .none)]) (.sl (.v 2) (some (.k (.int 1))) none)), (.bin .add (.tup [(.k (.str "zz"))]) (.sl (.v 2) (some (.k (.int 1))) none)), (.bin .add (.tup [(.k (.bool true))]) (.sl (.v 2) (some (.k (.int 1))) none))])) [.asg 3 (.bin .add (.v 3) (.lst [(.tup [(.k (.int 0)), (.lst [(.v 0), (.v 1), (.v 4), (.k .none)]), (.k (.int 3)), (.v 4)]), (.tup [(.k (.int 0)), (.lst [(.v 0), (.v 1), (.v 2), (.v 4)]), (.k (.int 3)), (.v 4)]), (.tup [(.k (.int 1)), (.lst [(.v 0), (.lst []), (.v 1), (.v 4)]), (.k (.int 3)), (.v 4)]), (.tup [(.k (.int 2)), (.lst [(.v 0), (.lst []), (.v 1), (.v 4)]), (.k (.int 3)), (.v 4)])]))], .for (.n 4) (.e (.lst [(.k .none), (.tup []), (.lst [(.k .none)]), (.lst [(.lst [])]), (.lst [(.lst [(.k .none)])]), (.dct [])])) [.asg 3 (.bin .add (.v 3) (.lst [(.tup [(.k (.int 1)), (.lst [(.v 0), (.v 4), (.k .none), (.k .none)]), (.k (.int 1)), (.v 4)]), (.tup [(.k (.int 2)), (.lst [(.v 0), (.v 4), (.k .none), (.k .none)]), (.k (.int 1)), (.v 4)])]))], .ret (.cmp .eq (.lc [5, 6, 7, 4] (.t [5, 6, 7, 4]) (.e (.v 3)) (some (.cmp .ne (.call 80 [(.v 5), (.v 6)]) (.lst [(.lst [(.v 7)]), (.b1 .repr (.v 4))]))) (.k (.int 1))) (.lst []))]⟩
def N__law_thing : List Str := ["generator", "fields", "region", "row", "side"]
def D__law_thing : Def := ⟨3, (some 0), 5, [.ite (.andL [(.cmp .ne (.v 2) (.lst [])), (.cmp .gt (.call 66 [(.bor 0), (.k (.int 4))]) (.k (.int 0)))]) [.ret (.b1 .tuple (.lc [4] (.n 4) (.e (.call 70 [(.bor 0), (.v 2)])) none (.call 75 [(.bor 0), (.v 4)])))] [], .ret (.b1 .tuple (.lc [3] (.n 3) (.e (.sub (.v 1) (.k (.int 1)))) none (.call 73 [(.bor 0), (.sub (.v 3) (.k (.int 1)))])))]⟩
def N_is_prices : List Str := ["fields", "value", "known", "name"]
def D_is_prices : Def := ⟨2, none, 4, [.ex (.call 7 [(.v 0)]), .ite (.orL [(.not (.isa ["dict"] (.v 1))), (.cmp .ne (.b1 .len (.v 1)) (.b1 .len (.sub (.v 0) (.k (.int 1)))))]) [.ret (.k (.bool false))] [], .asg 2 (.call 50 [(.v 0)]), .ret (.b1 .all (.lc [3] (.n 3) (.e (.v 1)) none (.andL [(.isa ["str"] (.v 3)), (.cmp .inn (.v 3) (.v 2)), (.call 51 [(.sub (.v 1) (.v 3))])])))]⟩
def N_change_price : List Str := ["fields", "prices", "one", "other", "rows", "name", "early", "late"]
def Dz_change_price : Nat × Nat × E × E × E × List Nat × Tg × E := (4, 4, (.call 50 [(.v 0)]), (.v 2), (.v 3), [5, 6, 7], (.t [5, 6, 7]), (.call 54 [(.sub (.v 1) (.v 5)), (.v 6), (.v 7)]))
def N_check_prices : List Str := ["fields", "value"]
def D_check_prices : Def := ⟨2, none, 2, [.ite (.not (.call 52 [(.v 0), (.v 1)])) [.rai "InvalidPrices" (.v 1)] []]⟩
def N_check_thing : List Str := ["fields", "value"]
def D_check_thing : Def := ⟨2, none, 2, [.ite (.not (.call 9 [(.sub (.v 0) (.k (.int 1))), (.v 1)])) [.rai "InvalidThing" (.v 1)] []]⟩
def N__law_names : List Str := ["fields", "row"]
def D__law_names : Def := ⟨1, none, 2, [.ret (.lc [1] (.n 1) (.e (.sub (.v 0) (.k (.int 1)))) none (.sub (.v 1) (.k (.int 0))))]⟩
def N__law_pick : List Str := ["generator", "things"]
def D__law_pick : Def := ⟨2, (some 0), 2, [.ret (.sub (.v 1) (.call 66 [(.bor 0), (.b1 .len (.v 1))]))]⟩
def N__law_random : List Str := ["generator", "bound", "drawn", "turn"]
def D__law_random : Def := ⟨2, (some 0), 4, [.ite (.cmp .gt (.sub (.bor 0) (.k (.int 0))) (.k (.int 0))) [.asg 2 (.bin .mod (.b1 .int (.sub (.bor 0) (.k (.int 0)))) (.v 1)), .set 0 (.k (.int 0)) (.bin .fdiv (.sub (.bor 0) (.k (.int 0))) (.v 1)), .ret (.v 2)] [], .asg 2 (.k (.int 0)), .for (.n 3) (.range1 (.bin .add (.k (.int 1)) (.bin .fdiv (.b1 .bits (.v 1)) (.k (.int 30))))) [.set 0 (.k (.int 2)) (.bin .add (.sub (.bor 0) (.k (.int 2))) (.k (.int 1))), .asg 2 (.bin .add (.bin .mul (.v 2) (.k (.int 2147483587))) (.call 65 [(.sub (.bor 0) (.k (.int 1))), (.sub (.bor 0) (.k (.int 2)))]))], .ret (.bin .mod (.b1 .int (.v 2)) (.v 1))]⟩
def N__law_caught : List Str := ["door", "args", "caught", "error", "truths", "at", "truth"]
def D__law_caught : Def := ⟨2, none, 7, [.asg 2 (.k .none), .try (.ite (.cmp .eq (.v 0) (.k (.int 0))) (.call 56 [(.sub (.v 1) (.k (.int 0))), (.sub (.v 1) (.k (.int 1))), (.sub (.v 1) (.k (.int 2))), (.sub (.v 1) (.k (.int 3)))]) (.ite (.cmp .eq (.v 0) (.k (.int 1))) (.call 63 [(.sub (.v 1) (.k (.int 0))), (.sub (.v 1) (.k (.int 1))), (.sub (.v 1) (.k (.int 2))), (.sub (.v 1) (.k (.int 3)))]) (.call 64 [(.sub (.v 1) (.k (.int 0))), (.sub (.v 1) (.k (.int 1))), (.sub (.v 1) (.k (.int 2))), (.sub (.v 1) (.k (.int 3)))]))) "OfficeError" ["InvalidFields", "InvalidRegion", "InvalidPrices", "InvalidThing"] 3 2, .asg 4 (.lst [(.isX 2 "InvalidFields" ["InvalidFields", "InvalidRegion", "InvalidPrices", "InvalidThing"]), (.isX 2 "InvalidRegion" ["InvalidFields", "InvalidRegion", "InvalidPrices", "InvalidThing"]), (.isX 2 "InvalidPrices" ["InvalidFields", "InvalidRegion", "InvalidPrices", "InvalidThing"]), (.isX 2 "InvalidThing" ["InvalidFields", "InvalidRegion", "InvalidPrices", "InvalidThing"])]), .ret (.lst [(.lc [5, 6] (.t [5, 6]) (.enum (.v 4)) (some (.v 6)) (.v 5)), (.ite (.isNX false 2) (.k .none) (.b1 .repr (.valX 2 ["InvalidFields", "InvalidRegion", "InvalidPrices", "InvalidThing"])))])]⟩
def N__law_no_fields : List Str := ["bad", "prices", "caught", "error"]
def D__law_no_fields : Def := ⟨2, none, 4, [.asg 2 (.k .none), .try (.call 52 [(.v 0), (.v 1)]) "OfficeError" ["InvalidFields", "InvalidRegion", "InvalidPrices", "InvalidThing"] 3 2, .ret (.andL [(.isX 2 "InvalidFields" ["InvalidFields", "InvalidRegion", "InvalidPrices", "InvalidThing"]), (.cmp .eq (.b1 .repr (.valX 2 ["InvalidFields", "InvalidRegion", "InvalidPrices", "InvalidThing"])) (.b1 .repr (.v 0)))])]⟩
def N__law_of_side : List Str := ["generator", "side", "part", "ends", "end"]
def D__law_of_side : Def := ⟨2, (some 0), 5, [.ite (.orL [(.cmp .eq (.sub (.v 1) (.k (.int 1))) (.lst [])), (.andL [(.sub (.v 1) (.k (.int 0))), (.cmp .eq (.call 66 [(.bor 0), (.k (.int 3))]) (.k (.int 0)))])]) [.ret (.k (.str ""))] [], .asg 2 (.call 70 [(.bor 0), (.sub (.v 1) (.k (.int 1)))]), .ite (.isa ["str"] (.v 2)) [.ret (.v 2)] [], .asg 3 (.lc [4] (.n 4) (.e (.v 2)) (some (.isN true (.v 4))) (.v 4)), .ret (.ite (.cmp .ne (.v 3) (.lst [])) (.call 70 [(.bor 0), (.v 3)]) (.call 72 [(.bor 0)]))]⟩
def N__law_value : List Str := ["generator", "values"]
def D__law_value : Def := ⟨2, (some 0), 2, [.ite (.cmp .eq (.call 66 [(.bor 0), (.k (.int 5))]) (.k (.int 0))) [.ret (.k (.str ""))] [], .ret (.ite (.isN false (.v 1)) (.call 72 [(.bor 0)]) (.call 70 [(.bor 0), (.v 1)]))]⟩
def N_check_fields : List Str := ["value"]
def D_check_fields : Def := ⟨1, none, 1, [.ite (.not (.call 6 [(.v 0)])) [.rai "InvalidFields" (.v 0)] []]⟩
def N_is_price : List Str := ["value"]
def D_is_price : Def := ⟨1, none, 1, [.ret (.andL [(.isa ["tuple"] (.v 0)), (.cmp .eq (.b1 .len (.v 0)) (.k (.int 2))), (.call 1 [(.sub (.v 0) (.k (.int 0)))]), (.call 1 [(.sub (.v 0) (.k (.int 1)))])])]⟩
def N_row_names : List Str := ["fields", "row"]
def D_row_names : Def := ⟨1, none, 2, [.ret (.lc [1] (.n 1) (.e (.sub (.v 0) (.k (.int 1)))) none (.sub (.v 1) (.k (.int 0))))]⟩
def N_step_price : List Str := ["price", "one", "other", "far"]
def D_step_price : Def := ⟨3, none, 4, [.ite (.cmp .eq (.v 1) (.v 2)) [.ret (.k (.int 0))] [], .asg 3 (.ite (.andL [(.call 0 [(.v 1)]), (.call 0 [(.v 2)])]) (.b1 .abs (.bin .sub (.v 1) (.v 2))) (.k (.int 0))), .ret (.bin .add (.sub (.v 0) (.k (.int 0))) (.bin .mul (.sub (.v 0) (.k (.int 1))) (.v 3)))]⟩
def N_is_thing_of : List Str := ["rows", "value", "at", "one"]
def D_is_thing_of : Def := ⟨2, none, 4, [.ite (.orL [(.not (.isa ["tuple"] (.v 1))), (.cmp .ne (.b1 .len (.v 1)) (.b1 .len (.v 0)))]) [.ret (.k (.bool false))] [], .ret (.b1 .all (.lc [2, 3] (.t [2, 3]) (.enum (.v 1)) none (.call 8 [(.sub (.sub (.v 0) (.v 2)) (.k (.int 1))), (.v 3)])))]⟩
def N__law_hash : List Str := ["seed", "index", "mixed"]
def D__law_hash : Def := ⟨2, none, 3, [.asg 2 (.bin .mod (.b1 .int (.bin .add (.bin .add (.bin .add (.bin .mul (.v 0) (.k (.int 1140671))) (.bin .mul (.bin .mul (.k (.int 27644437)) (.v 1)) (.v 1))) (.bin .mul (.k (.int 131)) (.v 1))) (.k (.int 19)))) (.k (.int 2147483629))), .asg 2 (.bin .mod (.b1 .int (.bin .add (.bin .add (.bin .mul (.v 2) (.v 2)) (.bin .mul (.k (.int 62089)) (.v 1))) (.k (.int 32416187)))) (.k (.int 2147483587))), .ret (.bin .mod (.b1 .int (.bin .mul (.v 2) (.k (.int 48271)))) (.k (.int 2147483647)))]⟩
def N_cheapest_way : List Str := ["fields", "region", "prices", "thing"]
def D_cheapest_way : Def := ⟨4, none, 4, [.ex (.call 62 [(.v 0), (.v 1), (.v 2), (.v 3)]), .bot]⟩
def N_prices_by_box : List Str := ["fields", "region", "prices", "thing", "box"]
def D_prices_by_box : Def := ⟨4, none, 5, [.ex (.call 62 [(.v 0), (.v 1), (.v 2), (.v 3)]), .bot]⟩
def N__law_number : List Str := ["generator"]
def D__law_number : Def := ⟨1, (some 0), 1, [.ret (.bin .add (.bin .sub (.call 66 [(.bor 0), (.k (.int 9))]) (.k (.int 4))) (.sub (.lst [(.k (.int 0)), (.k (.int 0)), (.k (.int 0)), (.k (.int 0)), (.bin .pow (.k (.int 10)) (.k (.int 11)))]) (.call 66 [(.bor 0), (.k (.int 5))])))]⟩
def N_is_fields : List Str := ["value", "row"]
def D_is_fields : Def := ⟨1, none, 2, [.ite (.orL [(.not (.isa ["tuple"] (.v 0))), (.cmp .ne (.b1 .len (.v 0)) (.k (.int 2))), (.not (.isa ["str"] (.sub (.v 0) (.k (.int 0))))), (.cmp .ne (.sub (.v 0) (.k (.int 0))) (.k (.str "fields")))]) [.ret (.k (.bool false))] [], .ite (.orL [(.not (.isa ["list"] (.sub (.v 0) (.k (.int 1))))), (.cmp .eq (.b1 .len (.sub (.v 0) (.k (.int 1)))) (.k (.int 0)))]) [.ret (.k (.bool false))] [], .ret (.andL [(.b1 .all (.lc [1] (.n 1) (.e (.sub (.v 0) (.k (.int 1)))) none (.call 5 [(.v 1)]))), (.call 4 [(.lc [1] (.n 1) (.e (.sub (.v 0) (.k (.int 1)))) none (.sub (.v 1) (.k (.int 0))))])])]⟩
def N_is_count : List Str := ["value"]
def D_is_count : Def := ⟨1, none, 1, [.ret (.andL [(.call 0 [(.v 0)]), (.cmp .ge (.v 0) (.k (.int 0)))])]⟩
def N_is_whole : List Str := ["value"]
def D_is_whole : Def := ⟨1, none, 1, [.ret (.andL [(.isa ["int"] (.v 0)), (.not (.isa ["bool"] (.v 0)))])]⟩
def N_is_of_row : List Str := ["values", "value"]
def D_is_of_row : Def := ⟨2, none, 2, [.ite (.isa ["str"] (.v 1)) [.ret (.orL [(.cmp .eq (.v 1) (.k (.str ""))), (.andL [(.isN true (.v 0)), (.cmp .inn (.v 1) (.v 0))])])] [], .ret (.andL [(.isN false (.v 0)), (.call 0 [(.v 1)])])]⟩
def N_check_priced : List Str := ["fields", "region", "prices", "thing"]
def D_check_priced : Def := ⟨4, none, 4, [.ex (.call 7 [(.v 0)]), .ex (.call 26 [(.v 0), (.v 1)]), .ex (.call 53 [(.v 0), (.v 2)]), .ex (.call 10 [(.v 0), (.v 3)])]⟩
def N_ascends : List Str := ["items", "at"]
def D_ascends : Def := ⟨1, none, 2, [.ret (.cmp .eq (.lc [1] (.n 1) (.range2 (.k (.int 1)) (.b1 .len (.v 0))) (some (.cmp .ge (.sub (.v 0) (.bin .sub (.v 1) (.k (.int 1)))) (.sub (.v 0) (.v 1)))) (.v 1)) (.lst []))]⟩
def N_is_row_of_fields : List Str := ["value", "one"]
def D_is_row_of_fields : Def := ⟨1, none, 2, [.ite (.orL [(.not (.isa ["tuple"] (.v 0))), (.cmp .ne (.b1 .len (.v 0)) (.k (.int 2))), (.not (.call 3 [(.sub (.v 0) (.k (.int 0)))]))]) [.ret (.k (.bool false))] [], .ite (.isN false (.sub (.v 0) (.k (.int 1)))) [.ret (.k (.bool true))] [], .ite (.orL [(.not (.isa ["list"] (.sub (.v 0) (.k (.int 1))))), (.cmp .lt (.b1 .len (.sub (.v 0) (.k (.int 1)))) (.k (.int 2)))]) [.ret (.k (.bool false))] [], .ret (.andL [(.b1 .all (.lc [1] (.n 1) (.e (.sub (.v 0) (.k (.int 1)))) none (.call 3 [(.v 1)]))), (.call 4 [(.sub (.v 0) (.k (.int 1)))])])]⟩
def N_check_region : List Str := ["fields", "value"]
def D_check_region : Def := ⟨2, none, 2, [.ite (.not (.call 25 [(.sub (.v 0) (.k (.int 1))), (.v 1)])) [.rai "InvalidRegion" (.v 1)] []]⟩
def N_is_name : List Str := ["value"]
def D_is_name : Def := ⟨1, none, 1, [.ret (.andL [(.call 2 [(.v 0), (.bin .add (.g 0) (.g 1))]), (.chain .lt .le (.k (.int 0)) (.b1 .len (.v 0)) (.g 2)), (.cmp .inn (.sub (.v 0) (.k (.int 0))) (.g 0))])]⟩
def N_is_region_of : List Str := ["rows", "value", "box"]
def D_is_region_of : Def := ⟨2, none, 3, [.ret (.andL [(.isa ["list"] (.v 1)), (.b1 .all (.lc [2] (.n 2) (.e (.v 1)) none (.call 24 [(.v 0), (.v 2)])))])]⟩
def N_is_signs : List Str := ["value", "signs", "sign"]
def D_is_signs : Def := ⟨2, none, 3, [.ret (.andL [(.isa ["str"] (.v 0)), (.cmp .eq (.lc [2] (.n 2) (.e (.v 0)) (some (.cmp .nin (.v 2) (.v 1))) (.v 2)) (.lst []))])]⟩
def N_is_box_of : List Str := ["rows", "value", "at", "side"]
def D_is_box_of : Def := ⟨2, none, 4, [.ite (.orL [(.not (.isa ["list"] (.v 1))), (.cmp .ne (.b1 .len (.v 1)) (.b1 .len (.v 0)))]) [.ret (.k (.bool false))] [], .ret (.b1 .all (.lc [2, 3] (.t [2, 3]) (.enum (.v 1)) none (.andL [(.call 16 [(.sub (.sub (.v 0) (.v 2)) (.k (.int 1))), (.v 3)]), (.not (.call 20 [(.v 3)]))])))]⟩
def N_is_bare : List Str := ["side"]
def D_is_bare : Def := ⟨1, none, 1, [.ret (.andL [(.not (.sub (.v 0) (.k (.int 0)))), (.cmp .eq (.sub (.v 0) (.k (.int 1))) (.lst []))])]⟩
def N_is_side_of : List Str := ["values", "value"]
def D_is_side_of : Def := ⟨2, none, 2, [.ite (.orL [(.not (.isa ["tuple"] (.v 1))), (.cmp .ne (.b1 .len (.v 1)) (.k (.int 2))), (.not (.isa ["bool"] (.sub (.v 1) (.k (.int 0)))))]) [.ret (.k (.bool false))] [], .ret (.call 15 [(.v 0), (.sub (.v 1) (.k (.int 1)))])]⟩
def N_is_lot_of : List Str := ["values", "lot", "are_spans", "one", "at"]
def D_is_lot_of : Def := ⟨2, none, 5, [.ite (.not (.isa ["list"] (.v 1))) [.ret (.k (.bool false))] [], .ite (.isN false (.v 0)) [.asg 2 (.b1 .all (.lc [3] (.n 3) (.e (.v 1)) none (.call 13 [(.v 3)]))), .ret (.andL [(.v 2), (.b1 .all (.lc [4] (.n 4) (.range1 (.bin .sub (.b1 .len (.v 1)) (.k (.int 1)))) none (.call 14 [(.sub (.v 1) (.v 4)), (.sub (.v 1) (.bin .add (.v 4) (.k (.int 1))))])))])] [], .ret (.andL [(.b1 .all (.lc [3] (.n 3) (.e (.v 1)) none (.andL [(.isa ["str"] (.v 3)), (.cmp .inn (.v 3) (.v 0))]))), (.call 4 [(.v 1)])])]⟩
def N_are_parted : List Str := ["one", "other"]
def D_are_parted : Def := ⟨2, none, 2, [.ret (.andL [(.isN true (.sub (.v 0) (.k (.int 1)))), (.isN true (.sub (.v 1) (.k (.int 0)))), (.cmp .lt (.bin .add (.sub (.v 0) (.k (.int 1))) (.k (.int 1))) (.sub (.v 1) (.k (.int 0))))])]⟩
def N_is_span : List Str := ["value", "low", "high"]
def D_is_span : Def := ⟨1, none, 3, [.ite (.orL [(.not (.isa ["tuple"] (.v 0))), (.cmp .ne (.b1 .len (.v 0)) (.k (.int 2)))]) [.ret (.k (.bool false))] [], .asgT [1, 2] (.v 0), .ite (.orL [(.not (.orL [(.isN false (.v 1)), (.call 0 [(.v 1)])])), (.not (.orL [(.isN false (.v 2)), (.call 0 [(.v 2)])]))]) [.ret (.k (.bool false))] [], .ret (.orL [(.isN false (.v 1)), (.isN false (.v 2)), (.cmp .le (.v 1) (.v 2))])]⟩
def tab : List (Nat × Def) := [(84, D_law), (83, D__law_right), (69, D__law_same), (56, D_price_between), (67, D__law_cell), (79, D__law_bad_prices), (78, D__law_cost), (71, D__law_fields), (77, D__law_prices), (81, D__law_refused), (74, D__law_thing), (52, D_is_prices), (53, D_check_prices), (10, D_check_thing), (76, D__law_names), (70, D__law_pick), (66, D__law_random), (80, D__law_caught), (82, D__law_no_fields), (75, D__law_of_side), (73, D__law_value), (7, D_check_fields), (51, D_is_price), (50, D_row_names), (54, D_step_price), (9, D_is_thing_of), (65, D__law_hash), (63, D_cheapest_way), (64, D_prices_by_box), (72, D__law_number), (6, D_is_fields), (1, D_is_count), (0, D_is_whole), (8, D_is_of_row), (62, D_check_priced), (4, D_ascends), (5, D_is_row_of_fields), (26, D_check_region), (3, D_is_name), (25, D_is_region_of), (2, D_is_signs), (24, D_is_box_of), (20, D_is_bare), (16, D_is_side_of), (15, D_is_lot_of), (14, D_are_parted), (13, D_is_span)]
def nms : List (Nat × List Str) := [(84, N_law), (83, N__law_right), (69, N__law_same), (56, N_price_between), (67, N__law_cell), (79, N__law_bad_prices), (78, N__law_cost), (71, N__law_fields), (77, N__law_prices), (81, N__law_refused), (74, N__law_thing), (52, N_is_prices), (53, N_check_prices), (10, N_check_thing), (76, N__law_names), (70, N__law_pick), (66, N__law_random), (80, N__law_caught), (82, N__law_no_fields), (75, N__law_of_side), (73, N__law_value), (7, N_check_fields), (51, N_is_price), (50, N_row_names), (54, N_step_price), (9, N_is_thing_of), (65, N__law_hash), (63, N_cheapest_way), (64, N_prices_by_box), (72, N__law_number), (6, N_is_fields), (1, N_is_count), (0, N_is_whole), (8, N_is_of_row), (62, N_check_priced), (4, N_ascends), (5, N_is_row_of_fields), (26, N_check_region), (3, N_is_name), (25, N_is_region_of), (2, N_is_signs), (24, N_is_box_of), (20, N_is_bare), (16, N_is_side_of), (15, N_is_lot_of), (14, N_are_parted), (13, N_is_span), (68, N__law_generator), (55, N_change_price)]
def tabN : List (Nat × (Nat × List S × E)) := [(68, Dn__law_generator)]
def tabZ : List (Nat × (Nat × Nat × E × E × E × List Nat × Tg × E)) := [(55, Dz_change_price)]
def rfL : List (Option Nat) := [none, none, none, none, none, none, none, none, none, none, none, none, none, none, none, none, none, none, none, none, none, none, none, none, none, none, none, none, none, none, none, none, none, none, none, none, none, none, none, none, none, none, none, none, none, none, some 2, none, none, none, none, none, none, none, none, none, none, none, none, none, none, none, none, none, none, none, some 0, none, none, none, some 0, some 0, some 0, some 0, some 0, some 0, none, some 0, none, none, none, none, none, some 0, none]
def rf : Refs := fun i => (rfL[i]?).getD none
def kwUsed : List (Nat × List Nat × List Str) := [(52, [1, 0], ["value", "fields"]), (56, [3, 2, 1, 0], ["other", "one", "prices", "fields"])]
def kk (f : Nat) (ks : List Nat) : Option (List Str) := (kwUsed.find? fun q => q.1 == f && q.2.1 == ks).map (·.2.2)
def kp (_ : Nat) (ks : List Nat) : List Nat := (List.range ks.length).map fun i => ks.idxOf i
abbrev PG : Program := PySem.Challenge.pw_waysround_k77_prices_of_changes
abbrev RG : PySem.W.OpenLaw := PySem.Challenge.rw_waysround_k77_prices_of_changes
def tx : Txt := { P := PG, gt := gt, tab := tab, tabZ := tabZ, tabN := tabN, nms := nms, fnm := fnm, rf := rf, kp := kp, kk := kk, xs := ["InvalidFields", "InvalidPrices", "InvalidRegion", "InvalidThing", "OfficeError"], base := "OfficeError", rzs := ["InvalidFields", "InvalidPrices", "InvalidRegion", "InvalidThing"] }
def lawAt : Nat := 105
def lawG : Nat := 84
def loose : List Str := (["OfficeError", "TooMany", "InvalidFields", "InvalidRegion", "InvalidThing", "InvalidPrices", "SMALL", "FIGURES", "MOST_NAME", "is_whole", "is_count", "is_signs", "is_name", "ascends", "is_row_of_fields", "is_fields", "check_fields", "is_of_row", "is_thing_of", "check_thing", "value_key", "thing_key", "is_span", "are_parted", "is_lot_of", "is_side_of", "both_spans", "meet_sides", "whole_of", "is_bare"] : List Str) ++ (["first_in_span", "first_in_side", "has_value", "is_box_of", "is_region_of", "check_region", "whole_box", "cut_points", "cells_of", "in_side", "MOST_BOXES", "grid_of_boxes", "mask_of", "in_side_of", "masked_boxes", "low_key", "joined_spans", "side_of_mask", "boxes_of_masks", "mask_within", "bits_of", "greatest_few", "begun_state", "state_behind", "last_mask", "with_cell", "greatest_boxes", "all_greatest", "plain_of", "plain_less"] : List Str) ++ (["row_names", "is_price", "is_prices", "check_prices", "step_price", "change_price", "price_between", "nearest_in", "cheapest_value", "cheapest_in_box", "boxes_left_free", "cheapest_round", "check_priced", "cheapest_way", "prices_by_box", "_law_hash", "_law_random", "_law_cell", "_law_generator", "_law_same", "_law_pick", "_law_fields", "_law_number", "_law_value", "_law_thing", "_law_of_side", "_law_names", "_law_prices", "_law_cost", "_law_bad_prices"] : List Str) ++ (["_law_caught", "_law_refused", "_law_no_fields", "_law_right"] : List Str)
end Tx
end DL
set_option Elab.async false
set_option linter.all false
set_option maxRecDepth 100000
set_option maxHeartbeats 0
namespace DL.Tx
open PySem PySem.W PySem.Calls PyProof.Rows
theorem oks (φ : Nat → Fun) : (tx.nms.all (tx.okD φ)) = true := by kernel_rfl
end DL.Tx
set_option Elab.async false
set_option linter.all false
set_option maxRecDepth 100000
set_option maxHeartbeats 0
namespace DL.Tx
open PySem PySem.W PySem.Calls PyProof.Rows
abbrev R : PySem.W.OpenRow := PySem.W.OpenLaw.row RG
def ob (s : PySem.W.SharedT) : AlT := obsTG tx (HandSHeadRun.getT s)
theorem ob_eq (s : PySem.W.SharedT) : ob s = (hookT tx).obs s.abs := obsTG_eq (HandSHeadRun.getT_eq s)
theorem run (w : World) : HandSHeadRun.RunEq R (PySem.W.view R.prog [lawAt]) (hookT tx) ob 8000 loose w := by
  intro os
  kernel_rfl
end DL.Tx
set_option Elab.async false
set_option linter.all false
set_option maxRecDepth 100000
set_option maxHeartbeats 0
namespace DL.Tx
open PySem PySem.W PySem.Calls PyProof.Rows
theorem kk_of {f : Nat} {ks : List Nat} {ns : List Str} (h : kk f ks = some ns) : (f, ks, ns) ∈ kwUsed := by
  unfold kk at h
  obtain ⟨q, e, rfl⟩ := Option.map_eq_some_iff.mp h
  have m := List.mem_of_find?_eq_some e
  have p := List.find?_some e
  simp only [Bool.and_eq_true, beq_iff_eq] at p
  obtain ⟨rfl, rfl⟩ := p
  exact m
theorem kw : KwHyp tx := fun f ks ns h => by
  have m := kk_of h
  unfold kwUsed at m
  simp only [List.mem_cons, Prod.mk.injEq, List.not_mem_nil, or_false] at m
  rcases m with ⟨rfl, rfl, rfl⟩ | ⟨rfl, rfl, rfl⟩
  · refine ⟨by decide +kernel, by decide +kernel, fun kV doc pm an cdv ct ws hl => ?_⟩
    match ws, hl with
    | a :: b :: r, _ => kernel_rfl
    | [_], hl => cases hl
    | [], hl => cases hl
  · refine ⟨by decide +kernel, by decide +kernel, fun kV doc pm an cdv ct ws hl => ?_⟩
    match ws, hl with
    | a :: b :: c :: d :: r, _ => kernel_rfl
    | [_, _, _], hl => cases hl
    | [_, _], hl => cases hl
    | [_], hl => cases hl
    | [], hl => cases hl
theorem ini_ok : ∃ p1 p2 q1 q2 q3 q4 q5 q6 q7 q8 q9 q0 : Pos, tx.ini = iniT (oA p1 p2) (oB q1 q2 q3 q4 q5 q6 q7 q8 q9 q0) oS ∧ (q3.endLine == q5.line) = true := ⟨_, _, _, _, _, _, _, _, _, _, _, _, rfl, rfl⟩
end DL.Tx
set_option Elab.async false
set_option linter.all false
set_option maxRecDepth 100000
set_option maxHeartbeats 0
open PySem PySem.W PySem.Calls PyProof.Rows DL DL.Tx in
theorem law_holds (plain : ∀ ns : List Int, ns.length ≤ 63 → (∀ k ∈ ns, Builtin.Int.intBits k ≤ 1048576) → ∃ o, tx.Phi 30 lawG [.list (ns.map .int)] = .ok (.bool true, o)) : PySem.Challenge.rw_waysround_k77_prices_of_changes.Holds := by
  w_on; o_law
  refine HandSHeadRun.head_any (r := OpenLaw.row PySem.Challenge.rw_waysround_k77_prices_of_changes) (q := view (OpenLaw.row PySem.Challenge.rw_waysround_k77_prices_of_changes).prog [lawAt]) (H := hookT tx) (ob := ob) (M := 8000) (loose := loose) (d := HandSHeadRun.topDef (OpenLaw.row PySem.Challenge.rw_waysround_k77_prices_of_changes).prog lawAt) (kwd := []) ob_eq
    (by kernel_rfl) (fun s => by kernel_rfl) DL.Tx.run (by kernel_rfl) (by kernel_rfl) (by kernel_rfl) (by rfl) (by first | assumption | decide +kernel) (by decide +kernel) ⟨rfl, rfl, rfl, rfl, rfl, by decide +kernel⟩ ?hw ?hc
  case hw => w_witness2
  case hc =>
    refine Txt.law (T := tx) (n := 30) (g := lawG) (N := N_law) (ar := (tx.find (tx.fnm lawG)).1.args.headD ⟨"", none, ⟨0, 0, 0, 0⟩⟩) rfl (by kernel_rfl) (by kernel_rfl) (by kernel_rfl) (look_mem (by kernel_rfl)) (by kernel_rfl) (by kernel_rfl) (by kernel_rfl) ini_ok (by decide +kernel) (fun φ q m => List.all_eq_true.mp (oks φ) q m) kw ⟨rfl, by decide +kernel, by decide +kernel⟩ plain
set_option Elab.async false
set_option linter.all false
set_option maxRecDepth 100000
set_option maxHeartbeats 4000000
/-! the evaluator, step by step, by simp -/
namespace DL
open PySem PySem.W
theorem Out.bind_c {α β : Type} {o o' : Out α} {f : α → Out β} (h : o = o') : Out.bind o f = Out.bind o' f := by rw [h]
theorem Fl.of_c {o o' : OV} {f : PyData → DEnv → Fl} (h : o = o') : Fl.of o f = Fl.of o' f := by rw [h]
theorem ite_c {α : Type} {c c' : Prop} [i : Decidable c] [j : Decidable c'] {a b : α} (h : c = c') : ite c a b = ite c' a b := by
  subst h
  congr
theorem ok_bind {α β : Type} {a : α} {f : α → Out β} : Out.bind (.ok a) f = f a := rfl
theorem exc_bind {α β : Type} {c : Str} {d : PyData} {f : α → Out β} : Out.bind (.exc c d) f = .exc c d := rfl
theorem fl_ok {x : PyData × DEnv} {f : PyData → DEnv → Fl} : Fl.of (.ok x) f = f x.1 x.2 := rfl
theorem fl_exc {c : Str} {d : PyData} {f : PyData → DEnv → Fl} : Fl.of (.exc c d) f = .exc c d := rfl
theorem opt_some {α β : Type} {a : α} {b : β} : Out.ofOpt (some a) b = .ok (a, b) := rfl
theorem obind_some {α β : Type} {a : α} {f : α → Option β} : (some a).bind f = f a := rfl
theorem omap_some {α β : Type} {a : α} {f : α → β} : (some a).map f = some (f a) := rfl
theorem noExc_ok {α : Type} {a : α} : noExc (.ok a) = .ok a := rfl
theorem tru_ok {e : E} {d : PyData} {ρ : DEnv} (h : isBor e = none) : tru e (.ok (d, ρ)) = .ok (d.truthy, ρ) := by
  show Out.ofOpt ((opd e d ρ).map _) ρ = _
  rw [opd_plain h]
  rfl
theorem opd_v {ρ : DEnv} {d : PyData} (i : Nat) : opd (.v i) d ρ = some d := rfl
theorem truS_v {ρ : DEnv} {d : PyData} (i : Nat) : tru (.v i) (.ok (d, ρ)) = .ok (d.truthy, ρ) := rfl
theorem isBor_v (i : Nat) : isBor (.v i) = none := rfl
theorem opd_k {ρ : DEnv} {d : PyData} (d0 : PyData) : opd (.k d0) d ρ = some d := rfl
theorem truS_k {ρ : DEnv} {d : PyData} (d0 : PyData) : tru (.k d0) (.ok (d, ρ)) = .ok (d.truthy, ρ) := rfl
theorem isBor_k (d0 : PyData) : isBor (.k d0) = none := rfl
theorem opd_g {ρ : DEnv} {d : PyData} (j : Nat) : opd (.g j) d ρ = some d := rfl
theorem truS_g {ρ : DEnv} {d : PyData} (j : Nat) : tru (.g j) (.ok (d, ρ)) = .ok (d.truthy, ρ) := rfl
theorem isBor_g (j : Nat) : isBor (.g j) = none := rfl
theorem opd_bin {ρ : DEnv} {d : PyData} (o : BinO) (a b : E) : opd (.bin o a b) d ρ = some d := rfl
theorem truS_bin {ρ : DEnv} {d : PyData} (o : BinO) (a b : E) : tru (.bin o a b) (.ok (d, ρ)) = .ok (d.truthy, ρ) := rfl
theorem isBor_bin (o : BinO) (a b : E) : isBor (.bin o a b) = none := rfl
theorem opd_cmp {ρ : DEnv} {d : PyData} (o : CmpO) (a b : E) : opd (.cmp o a b) d ρ = some d := rfl
theorem truS_cmp {ρ : DEnv} {d : PyData} (o : CmpO) (a b : E) : tru (.cmp o a b) (.ok (d, ρ)) = .ok (d.truthy, ρ) := rfl
theorem isBor_cmp (o : CmpO) (a b : E) : isBor (.cmp o a b) = none := rfl
theorem opd_isN {ρ : DEnv} {d : PyData} (n : Bool) (a : E) : opd (.isN n a) d ρ = some d := rfl
theorem truS_isN {ρ : DEnv} {d : PyData} (n : Bool) (a : E) : tru (.isN n a) (.ok (d, ρ)) = .ok (d.truthy, ρ) := rfl
theorem isBor_isN (n : Bool) (a : E) : isBor (.isN n a) = none := rfl
theorem opd_chain {ρ : DEnv} {d : PyData} (o1 o2 : CmpO) (a b c : E) : opd (.chain o1 o2 a b c) d ρ = some d := rfl
theorem truS_chain {ρ : DEnv} {d : PyData} (o1 o2 : CmpO) (a b c : E) : tru (.chain o1 o2 a b c) (.ok (d, ρ)) = .ok (d.truthy, ρ) := rfl
theorem isBor_chain (o1 o2 : CmpO) (a b c : E) : isBor (.chain o1 o2 a b c) = none := rfl
theorem opd_andL {ρ : DEnv} {d : PyData} (es : List E) : opd (.andL es) d ρ = some d := rfl
theorem truS_andL {ρ : DEnv} {d : PyData} (es : List E) : tru (.andL es) (.ok (d, ρ)) = .ok (d.truthy, ρ) := rfl
theorem isBor_andL (es : List E) : isBor (.andL es) = none := rfl
theorem opd_orL {ρ : DEnv} {d : PyData} (es : List E) : opd (.orL es) d ρ = some d := rfl
theorem truS_orL {ρ : DEnv} {d : PyData} (es : List E) : tru (.orL es) (.ok (d, ρ)) = .ok (d.truthy, ρ) := rfl
theorem isBor_orL (es : List E) : isBor (.orL es) = none := rfl
theorem opd_not {ρ : DEnv} {d : PyData} (a : E) : opd (.not a) d ρ = some d := rfl
theorem truS_not {ρ : DEnv} {d : PyData} (a : E) : tru (.not a) (.ok (d, ρ)) = .ok (d.truthy, ρ) := rfl
theorem isBor_not (a : E) : isBor (.not a) = none := rfl
theorem opd_ite {ρ : DEnv} {d : PyData} (c a b : E) : opd (.ite c a b) d ρ = some d := rfl
theorem truS_ite {ρ : DEnv} {d : PyData} (c a b : E) : tru (.ite c a b) (.ok (d, ρ)) = .ok (d.truthy, ρ) := rfl
theorem isBor_ite (c a b : E) : isBor (.ite c a b) = none := rfl
theorem opd_tup {ρ : DEnv} {d : PyData} (es : List E) : opd (.tup es) d ρ = some d := rfl
theorem truS_tup {ρ : DEnv} {d : PyData} (es : List E) : tru (.tup es) (.ok (d, ρ)) = .ok (d.truthy, ρ) := rfl
theorem isBor_tup (es : List E) : isBor (.tup es) = none := rfl
theorem opd_lst {ρ : DEnv} {d : PyData} (es : List E) : opd (.lst es) d ρ = some d := rfl
theorem truS_lst {ρ : DEnv} {d : PyData} (es : List E) : tru (.lst es) (.ok (d, ρ)) = .ok (d.truthy, ρ) := rfl
theorem isBor_lst (es : List E) : isBor (.lst es) = none := rfl
theorem opd_dct {ρ : DEnv} {d : PyData} (es : List E) : opd (.dct es) d ρ = some d := rfl
theorem truS_dct {ρ : DEnv} {d : PyData} (es : List E) : tru (.dct es) (.ok (d, ρ)) = .ok (d.truthy, ρ) := rfl
theorem isBor_dct (es : List E) : isBor (.dct es) = none := rfl
theorem opd_sub {ρ : DEnv} {d : PyData} (a i : E) : opd (.sub a i) d ρ = some d := rfl
theorem truS_sub {ρ : DEnv} {d : PyData} (a i : E) : tru (.sub a i) (.ok (d, ρ)) = .ok (d.truthy, ρ) := rfl
theorem isBor_sub (a i : E) : isBor (.sub a i) = none := rfl
theorem opd_sl {ρ : DEnv} {d : PyData} (a : E) (lo hi : Option E) : opd (.sl a lo hi) d ρ = some d := rfl
theorem truS_sl {ρ : DEnv} {d : PyData} (a : E) (lo hi : Option E) : tru (.sl a lo hi) (.ok (d, ρ)) = .ok (d.truthy, ρ) := rfl
theorem isBor_sl (a : E) (lo hi : Option E) : isBor (.sl a lo hi) = none := rfl
theorem opd_rev {ρ : DEnv} {d : PyData} (a : E) : opd (.rev a) d ρ = some d := rfl
theorem truS_rev {ρ : DEnv} {d : PyData} (a : E) : tru (.rev a) (.ok (d, ρ)) = .ok (d.truthy, ρ) := rfl
theorem isBor_rev (a : E) : isBor (.rev a) = none := rfl
theorem opd_call {ρ : DEnv} {d : PyData} (f : Nat) (es : List E) : opd (.call f es) d ρ = some d := rfl
theorem truS_call {ρ : DEnv} {d : PyData} (f : Nat) (es : List E) : tru (.call f es) (.ok (d, ρ)) = .ok (d.truthy, ρ) := rfl
theorem isBor_call (f : Nat) (es : List E) : isBor (.call f es) = none := rfl
theorem opd_callK {ρ : DEnv} {d : PyData} (f : Nat) (ks : List Nat) (es : List E) : opd (.callK f ks es) d ρ = some d := rfl
theorem truS_callK {ρ : DEnv} {d : PyData} (f : Nat) (ks : List Nat) (es : List E) : tru (.callK f ks es) (.ok (d, ρ)) = .ok (d.truthy, ρ) := rfl
theorem isBor_callK (f : Nat) (ks : List Nat) (es : List E) : isBor (.callK f ks es) = none := rfl
theorem opd_b1 {ρ : DEnv} {d : PyData} (f : B1) (a : E) : opd (.b1 f a) d ρ = some d := rfl
theorem truS_b1 {ρ : DEnv} {d : PyData} (f : B1) (a : E) : tru (.b1 f a) (.ok (d, ρ)) = .ok (d.truthy, ρ) := rfl
theorem isBor_b1 (f : B1) (a : E) : isBor (.b1 f a) = none := rfl
theorem opd_b2 {ρ : DEnv} {d : PyData} (f : B2) (a b : E) : opd (.b2 f a b) d ρ = some d := rfl
theorem truS_b2 {ρ : DEnv} {d : PyData} (f : B2) (a b : E) : tru (.b2 f a b) (.ok (d, ρ)) = .ok (d.truthy, ρ) := rfl
theorem isBor_b2 (f : B2) (a b : E) : isBor (.b2 f a b) = none := rfl
theorem opd_isa {ρ : DEnv} {d : PyData} (ts : List String) (a : E) : opd (.isa ts a) d ρ = some d := rfl
theorem truS_isa {ρ : DEnv} {d : PyData} (ts : List String) (a : E) : tru (.isa ts a) (.ok (d, ρ)) = .ok (d.truthy, ρ) := rfl
theorem isBor_isa (ts : List String) (a : E) : isBor (.isa ts a) = none := rfl
theorem opd_popA {ρ : DEnv} {d : PyData} (i : Nat) (a : E) : opd (.popA i a) d ρ = some d := rfl
theorem truS_popA {ρ : DEnv} {d : PyData} (i : Nat) (a : E) : tru (.popA i a) (.ok (d, ρ)) = .ok (d.truthy, ρ) := rfl
theorem isBor_popA (i : Nat) (a : E) : isBor (.popA i a) = none := rfl
theorem opd_isX {ρ : DEnv} {d : PyData} (i : Nat) (x : Str) (cs : List Str) : opd (.isX i x cs) d ρ = some d := rfl
theorem truS_isX {ρ : DEnv} {d : PyData} (i : Nat) (x : Str) (cs : List Str) : tru (.isX i x cs) (.ok (d, ρ)) = .ok (d.truthy, ρ) := rfl
theorem isBor_isX (i : Nat) (x : Str) (cs : List Str) : isBor (.isX i x cs) = none := rfl
theorem opd_isNX {ρ : DEnv} {d : PyData} (n : Bool) (i : Nat) : opd (.isNX n i) d ρ = some d := rfl
theorem truS_isNX {ρ : DEnv} {d : PyData} (n : Bool) (i : Nat) : tru (.isNX n i) (.ok (d, ρ)) = .ok (d.truthy, ρ) := rfl
theorem isBor_isNX (n : Bool) (i : Nat) : isBor (.isNX n i) = none := rfl
theorem opd_valX {ρ : DEnv} {d : PyData} (i : Nat) (cs : List Str) : opd (.valX i cs) d ρ = some d := rfl
theorem truS_valX {ρ : DEnv} {d : PyData} (i : Nat) (cs : List Str) : tru (.valX i cs) (.ok (d, ρ)) = .ok (d.truthy, ρ) := rfl
theorem isBor_valX (i : Nat) (cs : List Str) : isBor (.valX i cs) = none := rfl
theorem opd_callN {ρ : DEnv} {d : PyData} (g : Nat) (es : List E) : opd (.callN g es) d ρ = some d := rfl
theorem truS_callN {ρ : DEnv} {d : PyData} (g : Nat) (es : List E) : tru (.callN g es) (.ok (d, ρ)) = .ok (d.truthy, ρ) := rfl
theorem isBor_callN (g : Nat) (es : List E) : isBor (.callN g es) = none := rfl
theorem opd_callT {ρ : DEnv} {d : PyData} (f g : Nat) (es : List E) : opd (.callT f g es) d ρ = some d := rfl
theorem truS_callT {ρ : DEnv} {d : PyData} (f g : Nat) (es : List E) : tru (.callT f g es) (.ok (d, ρ)) = .ok (d.truthy, ρ) := rfl
theorem isBor_callT (f g : Nat) (es : List E) : isBor (.callT f g es) = none := rfl
theorem opd_lc {ρ : DEnv} {d : PyData} (own : List Nat) (tg : Tg) (it : It) (test : Option E) (elt : E) : opd (.lc own tg it test elt) d ρ = some d := rfl
theorem truS_lc {ρ : DEnv} {d : PyData} (own : List Nat) (tg : Tg) (it : It) (test : Option E) (elt : E) : tru (.lc own tg it test elt) (.ok (d, ρ)) = .ok (d.truthy, ρ) := rfl
theorem isBor_lc (own : List Nat) (tg : Tg) (it : It) (test : Option E) (elt : E) : isBor (.lc own tg it test elt) = none := rfl
theorem isBor_bor (i : Nat) : isBor (.bor i) = some i := rfl
theorem opd_bor {ρ : DEnv} {d : PyData} (i : Nat) : opd (.bor i) d ρ = (match ρ[i]? with
    | some (.own _ l) => some (.list l)
    | some (.ownD _ kvs) => some (.dict kvs)
    | _ => none) := rfl
theorem execs_nil {GT : List (Str × PyData)} {PhU : Nat → Fun} {RF : Refs} {KP : Nat → List Nat → List Nat} {fu : Nat} {ρ : DEnv} : execs GT PhU RF KP fu [] ρ = .nx ρ := rfl
/-- one statement, then the rest -/
def thenF (r : Fl) (k : DEnv → Fl) : Fl := match r with
  | .nx ρ' => k ρ'
  | r => r
theorem thenF_c {r r' : Fl} {k : DEnv → Fl} (h : r = r') : thenF r k = thenF r' k := by rw [h]
theorem thenF_nx {ρ : DEnv} {k : DEnv → Fl} : thenF (.nx ρ) k = k ρ := rfl
theorem thenF_rt {ρ : DEnv} {d : PyData} {k : DEnv → Fl} : thenF (.rt d ρ) k = .rt d ρ := rfl
theorem thenF_bk {ρ : DEnv} {k : DEnv → Fl} : thenF (.bk ρ) k = .bk ρ := rfl
theorem thenF_ct {ρ : DEnv} {k : DEnv → Fl} : thenF (.ct ρ) k = .ct ρ := rfl
theorem thenF_exc {c : Str} {d : PyData} {k : DEnv → Fl} : thenF (.exc c d) k = .exc c d := rfl
theorem execs_cons {GT : List (Str × PyData)} {PhU : Nat → Fun} {RF : Refs} {KP : Nat → List Nat → List Nat} {fu : Nat} {ρ : DEnv} {s : S} {ss : List S} : execs GT PhU RF KP fu (s :: ss) ρ = thenF (exec GT PhU RF KP fu s ρ) (execs GT PhU RF KP fu ss) := rfl
/-- a def's end -/
def endF (r : Fl) (ref : Option Nat) : Out (PyData × PyData) := match r with
  | .rt d ρ' => (match outD ρ' ref with
    | some o => .ok (d, o)
    | none => .bad)
  | .nx ρ' => (match outD ρ' ref with
    | some o => .ok (.none, o)
    | none => .bad)
  | .exc c d => .exc c d
  | _ => .bad
theorem runD_eq {GT : List (Str × PyData)} {PhU : Nat → Fun} {RF : Refs} {KP : Nat → List Nat → List Nat} {fu : Nat} {D : Def} {ds : List PyData} (h : ds.length = D.pn) {ρ : DEnv} (h2 : startD D.ref ds = some ρ) : runD GT PhU RF KP fu D ds = endF (execs GT PhU RF KP fu D.body (ρ ++ List.replicate (D.nn - D.pn) .no)) D.ref := by
  unfold runD
  rw [if_pos h, h2]
  dsimp only
  cases execs GT PhU RF KP fu D.body (ρ ++ List.replicate (D.nn - D.pn) .no) with
  | rt d ρ' => rfl
  | _ => rfl
theorem end_rt0 {d : PyData} {ρ : DEnv} : endF (.rt d ρ) none = .ok (d, .none) := rfl
theorem end_nx0 {ρ : DEnv} : endF (.nx ρ) none = .ok (.none, .none) := rfl
theorem end_exc {c : Str} {d : PyData} {r : Option Nat} : endF (.exc c d) r = .exc c d := rfl
/-- a test -/
def iteF (o : Out (Bool × DEnv)) (a b : DEnv → Fl) : Fl := match o with
  | .ok x => if x.1 then a x.2 else b x.2
  | .exc c d => .exc c d
  | .bad => .bad
theorem iteF_c {o o' : Out (Bool × DEnv)} {a b : DEnv → Fl} (h : o = o') : iteF o a b = iteF o' a b := by rw [h]
theorem iteF_t {ρ : DEnv} {a b : DEnv → Fl} : iteF (.ok (true, ρ)) a b = a ρ := rfl
theorem iteF_f {ρ : DEnv} {a b : DEnv → Fl} : iteF (.ok (false, ρ)) a b = b ρ := rfl
theorem exec_ite {GT : List (Str × PyData)} {PhU : Nat → Fun} {RF : Refs} {KP : Nat → List Nat → List Nat} {fu : Nat} {ρ : DEnv} {c : E} {a b : List S} : exec GT PhU RF KP fu (.ite c a b) ρ = iteF (tru c (ev GT PhU RF KP c ρ)) (execs GT PhU RF KP fu a) (execs GT PhU RF KP fu b) := rfl
theorem tru_c {e : E} {o o' : OV} (h : o = o') : tru e o = tru e o' := by rw [h]
theorem exec_asg {GT : List (Str × PyData)} {PhU : Nat → Fun} {RF : Refs} {KP : Nat → List Nat → List Nat} {fu : Nat} {ρ : DEnv} {i : Nat} {e : E} : exec GT PhU RF KP fu (.asg i e) ρ = Fl.of (ev GT PhU RF KP e ρ) fun d ρ' => .nx (ρ'.set i (.val d)) := rfl
theorem exec_asgO {GT : List (Str × PyData)} {PhU : Nat → Fun} {RF : Refs} {KP : Nat → List Nat → List Nat} {fu : Nat} {ρ : DEnv} {i : Nat} {e : E} : exec GT PhU RF KP fu (.asgO i e) ρ = Fl.of (ev GT PhU RF KP e ρ) fun d ρ' => (match ownOf d with
    | some s => .nx (ρ'.set i s)
    | none => .bad) := rfl
theorem exec_asgT {GT : List (Str × PyData)} {PhU : Nat → Fun} {RF : Refs} {KP : Nat → List Nat → List Nat} {fu : Nat} {ρ : DEnv} {is : List Nat} {e : E} : exec GT PhU RF KP fu (.asgT is e) ρ = Fl.of (ev GT PhU RF KP e ρ) fun d ρ' => (match bindT (.t is) d ρ' with
    | some ρ2 => .nx ρ2
    | none => .bad) := rfl
theorem exec_ex {GT : List (Str × PyData)} {PhU : Nat → Fun} {RF : Refs} {KP : Nat → List Nat → List Nat} {fu : Nat} {ρ : DEnv} {e : E} : exec GT PhU RF KP fu (.ex e) ρ = Fl.of (ev GT PhU RF KP e ρ) fun _ ρ' => .nx ρ' := rfl
theorem exec_ret {GT : List (Str × PyData)} {PhU : Nat → Fun} {RF : Refs} {KP : Nat → List Nat → List Nat} {fu : Nat} {ρ : DEnv} {e : E} : exec GT PhU RF KP fu (.ret e) ρ = Fl.of (ev GT PhU RF KP e ρ) fun d ρ' => .rt d ρ' := rfl
theorem exec_rai {GT : List (Str × PyData)} {PhU : Nat → Fun} {RF : Refs} {KP : Nat → List Nat → List Nat} {fu : Nat} {ρ : DEnv} {c : Str} {e : E} : exec GT PhU RF KP fu (.rai c e) ρ = Fl.of (ev GT PhU RF KP e ρ) fun d _ => .exc c d := rfl
theorem exec_bot {GT : List (Str × PyData)} {PhU : Nat → Fun} {RF : Refs} {KP : Nat → List Nat → List Nat} {fu : Nat} {ρ : DEnv} : exec GT PhU RF KP fu .bot ρ = .bad := rfl
theorem exec_pas {GT : List (Str × PyData)} {PhU : Nat → Fun} {RF : Refs} {KP : Nat → List Nat → List Nat} {fu : Nat} {ρ : DEnv} : exec GT PhU RF KP fu .pas ρ = .nx ρ := rfl
def forF (o : Out (List PyData × DEnv)) (h : Option Nat) (step : PyData → DEnv → Fl) : Fl := match o with
  | .ok x => (match h with
    | some _ => .bad
    | none => forLoop step x.1 x.2)
  | .exc c d => .exc c d
  | .bad => .bad
def bodyF (GT : List (Str × PyData)) (PhU : Nat → Fun) (RF : Refs) (KP : Nat → List Nat → List Nat) (fu : Nat) (tg : Tg) (body : List S) : PyData → DEnv → Fl := fun d ρ1 => match bindT tg d ρ1 with
  | some ρ2 => execs GT PhU RF KP fu body ρ2
  | none => .bad
theorem exec_for {GT : List (Str × PyData)} {PhU : Nat → Fun} {RF : Refs} {KP : Nat → List Nat → List Nat} {fu : Nat} {ρ : DEnv} {tg : Tg} {it : It} {body : List S} : exec GT PhU RF KP fu (.for tg it body) ρ = forF (evi GT PhU RF KP it ρ) (holdOf it) (bodyF GT PhU RF KP fu tg body) := rfl
def parF (o : Out (List PyData × DEnv)) (is : List Nat) (os : List Bool) : Fl := match o with
  | .ok x => (match parSet is os x.1 x.2 with
    | some ρ2 => .nx ρ2
    | none => .bad)
  | .exc c d => .exc c d
  | .bad => .bad
theorem exec_par {GT : List (Str × PyData)} {PhU : Nat → Fun} {RF : Refs} {KP : Nat → List Nat → List Nat} {fu : Nat} {ρ : DEnv} {is : List Nat} {os : List Bool} {es : List E} : exec GT PhU RF KP fu (.par is os es) ρ = parF (evPs GT PhU RF KP os es ρ) is os := rfl
theorem exec_set {GT : List (Str × PyData)} {PhU : Nat → Fun} {RF : Refs} {KP : Nat → List Nat → List Nat} {fu : Nat} {ρ : DEnv} {i : Nat} {ie e : E} : exec GT PhU RF KP fu (.set i ie e) ρ = (match ρ[i]? with
    | some .no => .bad
    | none => .bad
    | _ => Fl.of (ev GT PhU RF KP e ρ) fun d ρ' => Fl.of (ev GT PhU RF KP ie ρ') fun j ρ2 => setAt i j d ρ2) := rfl
def tryF (o : Out Unit) (ρ : DEnv) (c : Str) (cs : List Str) (n i : Nat) : Fl := match o with
  | .ok _ => .nx ρ
  | .exc c' d => if c' ∉ cs then .bad else if subC c' c then .nx ((ρ.set i (.exc c' d)).set n .no) else .exc c' d
  | .bad => .bad
theorem exec_try {GT : List (Str × PyData)} {PhU : Nat → Fun} {RF : Refs} {KP : Nat → List Nat → List Nat} {fu : Nat} {ρ : DEnv} {b : TB} {c : Str} {cs : List Str} {n i : Nat} : exec GT PhU RF KP fu (.try b c cs n i) ρ = tryF (evT GT PhU RF KP b ρ) ρ c cs n i := rfl
theorem ev_v {GT : List (Str × PyData)} {PhU : Nat → Fun} {RF : Refs} {KP : Nat → List Nat → List Nat} {ρ : DEnv} (i : Nat) : ev GT PhU RF KP (.v i) ρ = (getV i ρ : OV) := rfl
theorem ev_bor {GT : List (Str × PyData)} {PhU : Nat → Fun} {RF : Refs} {KP : Nat → List Nat → List Nat} {ρ : DEnv} (i : Nat) : ev GT PhU RF KP (.bor i) ρ = (getB i ρ : OV) := rfl
theorem ev_k {GT : List (Str × PyData)} {PhU : Nat → Fun} {RF : Refs} {KP : Nat → List Nat → List Nat} {ρ : DEnv} (d : PyData) : ev GT PhU RF KP (.k d) ρ = (.ok (d, ρ) : OV) := rfl
theorem ev_g {GT : List (Str × PyData)} {PhU : Nat → Fun} {RF : Refs} {KP : Nat → List Nat → List Nat} {ρ : DEnv} (j : Nat) : ev GT PhU RF KP (.g j) ρ = ((match GT[j]? with
    | some q => .ok (q.2, ρ)
    | none => .bad) : OV) := rfl
theorem ev_bin {GT : List (Str × PyData)} {PhU : Nat → Fun} {RF : Refs} {KP : Nat → List Nat → List Nat} {ρ : DEnv} (o : BinO) (a b : E) : ev GT PhU RF KP (.bin o a b) ρ = ((ev GT PhU RF KP a ρ).bind fun x => (ev GT PhU RF KP b x.2).bind fun y => Out.ofOpt (two (binD o) a b x.1 y.1 y.2) y.2 : OV) := rfl
theorem ev_cmp {GT : List (Str × PyData)} {PhU : Nat → Fun} {RF : Refs} {KP : Nat → List Nat → List Nat} {ρ : DEnv} (o : CmpO) (a b : E) : ev GT PhU RF KP (.cmp o a b) ρ = ((ev GT PhU RF KP a ρ).bind fun x => (ev GT PhU RF KP b x.2).bind fun y => Out.ofOpt (two (fun u v => (cmpD o u v).map .bool) a b x.1 y.1 y.2) y.2 : OV) := rfl
theorem ev_isN {GT : List (Str × PyData)} {PhU : Nat → Fun} {RF : Refs} {KP : Nat → List Nat → List Nat} {ρ : DEnv} (neg : Bool) (a : E) : ev GT PhU RF KP (.isN neg a) ρ = ((ev GT PhU RF KP a ρ).bind fun x => .ok (.bool (match x.1 with | .none => !neg | _ => neg), x.2) : OV) := rfl
theorem ev_chain {GT : List (Str × PyData)} {PhU : Nat → Fun} {RF : Refs} {KP : Nat → List Nat → List Nat} {ρ : DEnv} (o1 o2 : CmpO) (a b c : E) : ev GT PhU RF KP (.chain o1 o2 a b c) ρ = ((ev GT PhU RF KP a ρ).bind fun x => (ev GT PhU RF KP b x.2).bind fun y => (match cmpD o1 x.1 y.1 with
    | some true => (ev GT PhU RF KP c y.2).bind fun z => Out.ofOpt ((cmpD o2 y.1 z.1).map .bool) z.2
    | some false => .ok (.bool false, y.2)
    | none => .bad) : OV) := rfl
theorem ev_andL {GT : List (Str × PyData)} {PhU : Nat → Fun} {RF : Refs} {KP : Nat → List Nat → List Nat} {ρ : DEnv} (es : List E) : ev GT PhU RF KP (.andL es) ρ = (evAnd GT PhU RF KP es ρ : OV) := rfl
theorem ev_orL {GT : List (Str × PyData)} {PhU : Nat → Fun} {RF : Refs} {KP : Nat → List Nat → List Nat} {ρ : DEnv} (es : List E) : ev GT PhU RF KP (.orL es) ρ = (evOr GT PhU RF KP es ρ : OV) := rfl
theorem ev_not {GT : List (Str × PyData)} {PhU : Nat → Fun} {RF : Refs} {KP : Nat → List Nat → List Nat} {ρ : DEnv} (a : E) : ev GT PhU RF KP (.not a) ρ = ((ev GT PhU RF KP a ρ).bind fun x => Out.ofOpt ((opd a x.1 x.2).map fun d => .bool (!d.truthy)) x.2 : OV) := rfl
theorem ev_ite {GT : List (Str × PyData)} {PhU : Nat → Fun} {RF : Refs} {KP : Nat → List Nat → List Nat} {ρ : DEnv} (c a b : E) : ev GT PhU RF KP (.ite c a b) ρ = ((tru c (ev GT PhU RF KP c ρ)).bind fun x => if x.1 then ev GT PhU RF KP a x.2 else ev GT PhU RF KP b x.2 : OV) := rfl
theorem ev_tup {GT : List (Str × PyData)} {PhU : Nat → Fun} {RF : Refs} {KP : Nat → List Nat → List Nat} {ρ : DEnv} (es : List E) : ev GT PhU RF KP (.tup es) ρ = ((evs GT PhU RF KP es ρ).bind fun x => .ok (.tuple x.1, x.2) : OV) := rfl
theorem ev_lst {GT : List (Str × PyData)} {PhU : Nat → Fun} {RF : Refs} {KP : Nat → List Nat → List Nat} {ρ : DEnv} (es : List E) : ev GT PhU RF KP (.lst es) ρ = ((evs GT PhU RF KP es ρ).bind fun x => .ok (.list x.1, x.2) : OV) := rfl
theorem ev_dct {GT : List (Str × PyData)} {PhU : Nat → Fun} {RF : Refs} {KP : Nat → List Nat → List Nat} {ρ : DEnv} (es : List E) : ev GT PhU RF KP (.dct es) ρ = ((evs GT PhU RF KP es ρ).bind fun x => Out.ofOpt ((dictOf x.1 []).map .dict) x.2 : OV) := rfl
theorem ev_sub {GT : List (Str × PyData)} {PhU : Nat → Fun} {RF : Refs} {KP : Nat → List Nat → List Nat} {ρ : DEnv} (a i : E) : ev GT PhU RF KP (.sub a i) ρ = ((ev GT PhU RF KP a ρ).bind fun x => (ev GT PhU RF KP i x.2).bind fun y => Out.ofOpt (two subD a i x.1 y.1 y.2) y.2 : OV) := rfl
theorem ev_sl {GT : List (Str × PyData)} {PhU : Nat → Fun} {RF : Refs} {KP : Nat → List Nat → List Nat} {ρ : DEnv} (a : E) (lo hi : Option E) : ev GT PhU RF KP (.sl a lo hi) ρ = ((ev GT PhU RF KP a ρ).bind fun x => (evo GT PhU RF KP lo x.2).bind fun y => (evo GT PhU RF KP hi y.2).bind fun z => Out.ofOpt ((opd a x.1 z.2).bind fun x1 => slD x1 y.1 z.1) z.2 : OV) := rfl
theorem ev_rev {GT : List (Str × PyData)} {PhU : Nat → Fun} {RF : Refs} {KP : Nat → List Nat → List Nat} {ρ : DEnv} (a : E) : ev GT PhU RF KP (.rev a) ρ = ((ev GT PhU RF KP a ρ).bind fun x => (match x.1 with
    | .list l => .ok (.list l.reverse, x.2)
    | _ => .bad) : OV) := rfl
theorem ev_call {GT : List (Str × PyData)} {PhU : Nat → Fun} {RF : Refs} {KP : Nat → List Nat → List Nat} {ρ : DEnv} (f : Nat) (es : List E) : ev GT PhU RF KP (.call f es) ρ = ((evs GT PhU RF KP es ρ).bind fun x => doCall PhU RF f es x.1 x.2 : OV) := rfl
theorem ev_callK {GT : List (Str × PyData)} {PhU : Nat → Fun} {RF : Refs} {KP : Nat → List Nat → List Nat} {ρ : DEnv} (f : Nat) (ks : List Nat) (es : List E) : ev GT PhU RF KP (.callK f ks es) ρ = ((evs GT PhU RF KP es ρ).bind fun x => (PhU f ((KP f ks).filterMap fun j => x.1[j]?)).bind fun r => .ok (r.1, x.2) : OV) := rfl
theorem ev_b1 {GT : List (Str × PyData)} {PhU : Nat → Fun} {RF : Refs} {KP : Nat → List Nat → List Nat} {ρ : DEnv} (f : B1) (a : E) : ev GT PhU RF KP (.b1 f a) ρ = ((ev GT PhU RF KP a ρ).bind fun x => Out.ofOpt ((opd a x.1 x.2).bind (b1X f)) x.2 : OV) := rfl
theorem ev_b2 {GT : List (Str × PyData)} {PhU : Nat → Fun} {RF : Refs} {KP : Nat → List Nat → List Nat} {ρ : DEnv} (f : B2) (a b : E) : ev GT PhU RF KP (.b2 f a b) ρ = ((ev GT PhU RF KP a ρ).bind fun x => (ev GT PhU RF KP b x.2).bind fun y => Out.ofOpt (two (b2D f) a b x.1 y.1 y.2) y.2 : OV) := rfl
theorem ev_isa {GT : List (Str × PyData)} {PhU : Nat → Fun} {RF : Refs} {KP : Nat → List Nat → List Nat} {ρ : DEnv} (ts : List String) (a : E) : ev GT PhU RF KP (.isa ts a) ρ = ((ev GT PhU RF KP a ρ).bind fun x => .ok (.bool (ts.any fun t => isT t x.1), x.2) : OV) := rfl
theorem ev_isX {GT : List (Str × PyData)} {PhU : Nat → Fun} {RF : Refs} {KP : Nat → List Nat → List Nat} {ρ : DEnv} (i : Nat) (x : Str) (cs : List Str) : ev GT PhU RF KP (.isX i x cs) ρ = ((match ρ[i]? with
    | some (.exc c _) => if c ∈ cs then .ok (.bool (subC c x), ρ) else .bad
    | some (.val .none) => .ok (.bool false, ρ)
    | _ => .bad) : OV) := rfl
theorem ev_isNX {GT : List (Str × PyData)} {PhU : Nat → Fun} {RF : Refs} {KP : Nat → List Nat → List Nat} {ρ : DEnv} (neg : Bool) (i : Nat) : ev GT PhU RF KP (.isNX neg i) ρ = ((match ρ[i]? with
    | some (.exc _ _) => .ok (.bool neg, ρ)
    | some (.val .none) => .ok (.bool !neg, ρ)
    | _ => .bad) : OV) := rfl
theorem ev_valX {GT : List (Str × PyData)} {PhU : Nat → Fun} {RF : Refs} {KP : Nat → List Nat → List Nat} {ρ : DEnv} (i : Nat) (cs : List Str) : ev GT PhU RF KP (.valX i cs) ρ = ((match ρ[i]? with
    | some (.exc c d) => if c ∈ cs then .ok (d, ρ) else .bad
    | _ => .bad) : OV) := rfl
theorem ev_callN {GT : List (Str × PyData)} {PhU : Nat → Fun} {RF : Refs} {KP : Nat → List Nat → List Nat} {ρ : DEnv} (g : Nat) (es : List E) : ev GT PhU RF KP (.callN g es) ρ = ((evs GT PhU RF KP es ρ).bind fun x => (PhU g x.1).bind fun r => (match r.1 with
    | .list l => .ok (.list l, x.2)
    | _ => .bad) : OV) := rfl
theorem ev_callT {GT : List (Str × PyData)} {PhU : Nat → Fun} {RF : Refs} {KP : Nat → List Nat → List Nat} {ρ : DEnv} (f g : Nat) (es : List E) : ev GT PhU RF KP (.callT f g es) ρ = ((evs GT PhU RF KP es ρ).bind fun x => (PhU g x.1).bind fun r => (match r.1 with
    | .list l => (PhU f [.list l]).bind fun q => .ok (q.1, x.2)
    | _ => .bad) : OV) := rfl
theorem ev_bot {GT : List (Str × PyData)} {PhU : Nat → Fun} {RF : Refs} {KP : Nat → List Nat → List Nat} {ρ : DEnv}  : ev GT PhU RF KP (.bot) ρ = (.bad : OV) := rfl
theorem cmp_eq_int (a b : Int) : cmpD .eq (.int a) (.int b) = some (decide (a = b)) := by
  show (if ((PyData.int a).plain && (PyData.int b).plain && decide (min (PyData.int a).depth (PyData.int b).depth ≤ 60)) = true then some (PyData.eqv (.int a) (.int b)) else none) = _
  rw [if_pos (by simp [PyData.plain, PyData.depth])]
  simp [PyData.eqv, Bool.beq_eq_decide_eq]
theorem cmp_ne_int (a b : Int) : cmpD .ne (.int a) (.int b) = some (!decide (a = b)) := by
  show (if ((PyData.int a).plain && (PyData.int b).plain && decide (min (PyData.int a).depth (PyData.int b).depth ≤ 60)) = true then some (!PyData.eqv (.int a) (.int b)) else none) = _
  rw [if_pos (by simp [PyData.plain, PyData.depth])]
  simp [PyData.eqv, Bool.beq_eq_decide_eq]
theorem cmp_eq_str (a b : Str) : cmpD .eq (.str a) (.str b) = some (decide (a = b)) := by
  show (if ((PyData.str a).plain && (PyData.str b).plain && decide (min (PyData.str a).depth (PyData.str b).depth ≤ 60)) = true then some (PyData.eqv (.str a) (.str b)) else none) = _
  rw [if_pos (by simp [PyData.plain, PyData.depth])]
  simp [PyData.eqv, Bool.beq_eq_decide_eq]
theorem cmp_ne_str (a b : Str) : cmpD .ne (.str a) (.str b) = some (!decide (a = b)) := by
  show (if ((PyData.str a).plain && (PyData.str b).plain && decide (min (PyData.str a).depth (PyData.str b).depth ≤ 60)) = true then some (!PyData.eqv (.str a) (.str b)) else none) = _
  rw [if_pos (by simp [PyData.plain, PyData.depth])]
  simp [PyData.eqv, Bool.beq_eq_decide_eq]
theorem cmp_lt_int (a b : Int) : cmpD .lt (.int a) (.int b) = some (decide (a < b)) := rfl
theorem cmp_le_int (a b : Int) : cmpD .le (.int a) (.int b) = some (decide (a ≤ b)) := rfl
theorem cmp_gt_int (a b : Int) : cmpD .gt (.int a) (.int b) = some (decide (b < a)) := rfl
theorem cmp_ge_int (a b : Int) : cmpD .ge (.int a) (.int b) = some (decide (b ≤ a)) := rfl
theorem cmp_is_b (a b : Bool) : cmpD .is (.bool a) (.bool b) = some (decide (a = b)) := rfl
theorem cmp_isn_b (a b : Bool) : cmpD .isn (.bool a) (.bool b) = some (!decide (a = b)) := rfl
theorem len_l (l : List PyData) : b1X .len (.list l) = some (.int l.length) := rfl
theorem len_t (l : List PyData) : b1X .len (.tuple l) = some (.int l.length) := rfl
theorem len_d (l : List (PyData × PyData)) : b1X .len (.dict l) = some (.int l.length) := rfl
theorem len_s (x : Str) : b1X .len (.str x) = some (.int x.length) := rfl
theorem int_i (i : Int) : b1X .int (.int i) = some (.int i) := rfl
theorem int_b (b : Bool) : b1X .int (.bool b) = some (.int (if b then 1 else 0)) := rfl
theorem list_l (l : List PyData) : b1X .list (.list l) = some (.list l) := rfl
theorem list_t (l : List PyData) : b1X .list (.tuple l) = some (.list l) := rfl
theorem tup_l (l : List PyData) : b1X .tuple (.list l) = some (.tuple l) := rfl
theorem tup_t (l : List PyData) : b1X .tuple (.tuple l) = some (.tuple l) := rfl
theorem items_d (l : List (PyData × PyData)) : b1X .itemsL (.dict l) = if plainKeys l = true then some (.list (l.map fun q => .tuple [q.1, q.2])) else none := rfl
theorem sum_l (l : List PyData) : b1X .sum (.list l) = (sumI l).map .int := rfl
theorem all_l (l : List PyData) : b1X .all (.list l) = if PyData.plainAll l = true then some (.bool (l.all PyData.truthy)) else none := rfl
theorem any_l (l : List PyData) : b1X .any (.list l) = if PyData.plainAll l = true then some (.bool (l.any PyData.truthy)) else none := rfl
theorem abs_i (i : Int) : b1X .abs (.int i) = some (.int (if i < 0 then -i else i)) := rfl
theorem neg_i (i : Int) : b1X .neg (.int i) = some (.int (-i)) := rfl
theorem max_i (a b : Int) : b2D .max (.int a) (.int b) = some (.int (if b > a then b else a)) := rfl
theorem min_i (a b : Int) : b2D .min (.int a) (.int b) = some (.int (if b < a then b else a)) := rfl
theorem bin_ai (a b : Int) : binD .add (.int a) (.int b) = some (.int (a + b)) := rfl
theorem bin_si (a b : Int) : binD .sub (.int a) (.int b) = some (.int (a - b)) := rfl
theorem seqIx_nat {n j : Nat} (h : j < n) : seqIx n (j : Int) = some j := by
  unfold seqIx
  rw [if_pos (by omega), if_pos (by omega)]
  simp
theorem sub_tn {l : List PyData} {j : Nat} {x : PyData} (h : l[j]? = some x) : subD (.tuple l) (.int (j : Int)) = some x := by
  show (seqIx l.length (j : Int)).bind (fun j => l[j]?) = some x
  rw [seqIx_nat (List.getElem?_eq_some_iff.mp h).1]
  exact h
theorem sub_ln {l : List PyData} {j : Nat} {x : PyData} (h : l[j]? = some x) : subD (.list l) (.int (j : Int)) = some x := by
  show (seqIx l.length (j : Int)).bind (fun j => l[j]?) = some x
  rw [seqIx_nat (List.getElem?_eq_some_iff.mp h).1]
  exact h
theorem sub_t0 (a : PyData) (l : List PyData) : subD (.tuple (a :: l)) (.int 0) = some a := sub_tn (j := 0) rfl
theorem sub_t1 (a b : PyData) (l : List PyData) : subD (.tuple (a :: b :: l)) (.int 1) = some b := sub_tn (j := 1) rfl
theorem sub_t2 (a b c : PyData) (l : List PyData) : subD (.tuple (a :: b :: c :: l)) (.int 2) = some c := sub_tn (j := 2) rfl
theorem sub_t3 (a b c d : PyData) (l : List PyData) : subD (.tuple (a :: b :: c :: d :: l)) (.int 3) = some d := sub_tn (j := 3) rfl
theorem sub_l0 (a : PyData) (l : List PyData) : subD (.list (a :: l)) (.int 0) = some a := sub_ln (j := 0) rfl
theorem sub_l1 (a b : PyData) (l : List PyData) : subD (.list (a :: b :: l)) (.int 1) = some b := sub_ln (j := 1) rfl
theorem sub_l2 (a b c : PyData) (l : List PyData) : subD (.list (a :: b :: c :: l)) (.int 2) = some c := sub_ln (j := 2) rfl
theorem sub_l3 (a b c d : PyData) (l : List PyData) : subD (.list (a :: b :: c :: d :: l)) (.int 3) = some d := sub_ln (j := 3) rfl
theorem sub_d (kvs : List (PyData × PyData)) (k : PyData) : subD (.dict kvs) k = if isKey k = true then look k kvs else none := by
  cases k <;> rfl
theorem tru_exc {e : E} {c : Str} {d : PyData} : tru e (.exc c d) = .exc c d := rfl
theorem iteF_e {c : Str} {d : PyData} {a b : DEnv → Fl} : iteF (.exc c d) a b = .exc c d := rfl
/-! continuations that simp leaves alone -/
inductive Tk {α : Sort u} (a : α) : Type
  | t : Tk a
def bnd {α β : Type} (o : Out α) (f : α → Out β) (_ : Tk f) : Out β := Out.bind o f
theorem bndE {α β : Type} {o : Out α} {f : α → Out β} : Out.bind o f = bnd o f .t := rfl
theorem ok_bnd {α β : Type} {a : α} {f : α → Out β} {t : Tk f} : bnd (.ok a) f t = f a := rfl
theorem exc_bnd {α β : Type} {c : Str} {d : PyData} {f : α → Out β} {t : Tk f} : bnd (.exc c d) f t = .exc c d := rfl
def flo (o : OV) (f : PyData → DEnv → Fl) (_ : Tk f) : Fl := Fl.of o f
theorem floE {o : OV} {f : PyData → DEnv → Fl} : Fl.of o f = flo o f .t := rfl
theorem ok_flo {x : PyData × DEnv} {f : PyData → DEnv → Fl} {t : Tk f} : flo (.ok x) f t = f x.1 x.2 := rfl
theorem exc_flo {c : Str} {d : PyData} {f : PyData → DEnv → Fl} {t : Tk f} : flo (.exc c d) f t = .exc c d := rfl
def thenK (r : Fl) (k : DEnv → Fl) (_ : Tk k) : Fl := thenF r k
theorem thenKE {r : Fl} {k : DEnv → Fl} : thenF r k = thenK r k .t := rfl
theorem thenK_nx {ρ : DEnv} {k : DEnv → Fl} {t : Tk k} : thenK (.nx ρ) k t = k ρ := rfl
theorem thenK_rt {ρ : DEnv} {d : PyData} {k : DEnv → Fl} {t : Tk k} : thenK (.rt d ρ) k t = .rt d ρ := rfl
theorem thenK_bk {ρ : DEnv} {k : DEnv → Fl} {t : Tk k} : thenK (.bk ρ) k t = .bk ρ := rfl
theorem thenK_ct {ρ : DEnv} {k : DEnv → Fl} {t : Tk k} : thenK (.ct ρ) k t = .ct ρ := rfl
theorem thenK_exc {c : Str} {d : PyData} {k : DEnv → Fl} {t : Tk k} : thenK (.exc c d) k t = .exc c d := rfl
def iteK (o : Out (Bool × DEnv)) (a b : DEnv → Fl) (_ : Tk a) (_ : Tk b) : Fl := iteF o a b
theorem iteKE {o : Out (Bool × DEnv)} {a b : DEnv → Fl} : iteF o a b = iteK o a b .t .t := rfl
theorem iteK_t {ρ : DEnv} {a b : DEnv → Fl} {t : Tk a} {u : Tk b} : iteK (.ok (true, ρ)) a b t u = a ρ := rfl
theorem iteK_f {ρ : DEnv} {a b : DEnv → Fl} {t : Tk a} {u : Tk b} : iteK (.ok (false, ρ)) a b t u = b ρ := rfl
theorem iteK_e {c : Str} {d : PyData} {a b : DEnv → Fl} {t : Tk a} {u : Tk b} : iteK (.exc c d) a b t u = .exc c d := rfl
def truK (e : E) (o : OV) (_ : Tk e) : Out (Bool × DEnv) := tru e o
theorem truKE {e : E} {o : OV} : tru e o = truK e o .t := rfl
theorem truK_exc {e : E} {c : Str} {d : PyData} {t : Tk e} : truK e (.exc c d) t = .exc c d := rfl
theorem truK_v {ρ : DEnv} {d : PyData} (i : Nat) {t : Tk ((.v i) : E)} : truK (.v i) (.ok (d, ρ)) t = .ok (d.truthy, ρ) := rfl
theorem truK_k {ρ : DEnv} {d : PyData} (d0 : PyData) {t : Tk ((.k d0) : E)} : truK (.k d0) (.ok (d, ρ)) t = .ok (d.truthy, ρ) := rfl
theorem truK_g {ρ : DEnv} {d : PyData} (j : Nat) {t : Tk ((.g j) : E)} : truK (.g j) (.ok (d, ρ)) t = .ok (d.truthy, ρ) := rfl
theorem truK_bin {ρ : DEnv} {d : PyData} (o : BinO) (a b : E) {t : Tk ((.bin o a b) : E)} : truK (.bin o a b) (.ok (d, ρ)) t = .ok (d.truthy, ρ) := rfl
theorem truK_cmp {ρ : DEnv} {d : PyData} (o : CmpO) (a b : E) {t : Tk ((.cmp o a b) : E)} : truK (.cmp o a b) (.ok (d, ρ)) t = .ok (d.truthy, ρ) := rfl
theorem truK_isN {ρ : DEnv} {d : PyData} (n : Bool) (a : E) {t : Tk ((.isN n a) : E)} : truK (.isN n a) (.ok (d, ρ)) t = .ok (d.truthy, ρ) := rfl
theorem truK_chain {ρ : DEnv} {d : PyData} (o1 o2 : CmpO) (a b c : E) {t : Tk ((.chain o1 o2 a b c) : E)} : truK (.chain o1 o2 a b c) (.ok (d, ρ)) t = .ok (d.truthy, ρ) := rfl
theorem truK_andL {ρ : DEnv} {d : PyData} (es : List E) {t : Tk ((.andL es) : E)} : truK (.andL es) (.ok (d, ρ)) t = .ok (d.truthy, ρ) := rfl
theorem truK_orL {ρ : DEnv} {d : PyData} (es : List E) {t : Tk ((.orL es) : E)} : truK (.orL es) (.ok (d, ρ)) t = .ok (d.truthy, ρ) := rfl
theorem truK_not {ρ : DEnv} {d : PyData} (a : E) {t : Tk ((.not a) : E)} : truK (.not a) (.ok (d, ρ)) t = .ok (d.truthy, ρ) := rfl
theorem truK_ite {ρ : DEnv} {d : PyData} (c a b : E) {t : Tk ((.ite c a b) : E)} : truK (.ite c a b) (.ok (d, ρ)) t = .ok (d.truthy, ρ) := rfl
theorem truK_tup {ρ : DEnv} {d : PyData} (es : List E) {t : Tk ((.tup es) : E)} : truK (.tup es) (.ok (d, ρ)) t = .ok (d.truthy, ρ) := rfl
theorem truK_lst {ρ : DEnv} {d : PyData} (es : List E) {t : Tk ((.lst es) : E)} : truK (.lst es) (.ok (d, ρ)) t = .ok (d.truthy, ρ) := rfl
theorem truK_dct {ρ : DEnv} {d : PyData} (es : List E) {t : Tk ((.dct es) : E)} : truK (.dct es) (.ok (d, ρ)) t = .ok (d.truthy, ρ) := rfl
theorem truK_sub {ρ : DEnv} {d : PyData} (a i : E) {t : Tk ((.sub a i) : E)} : truK (.sub a i) (.ok (d, ρ)) t = .ok (d.truthy, ρ) := rfl
theorem truK_sl {ρ : DEnv} {d : PyData} (a : E) (lo hi : Option E) {t : Tk ((.sl a lo hi) : E)} : truK (.sl a lo hi) (.ok (d, ρ)) t = .ok (d.truthy, ρ) := rfl
theorem truK_rev {ρ : DEnv} {d : PyData} (a : E) {t : Tk ((.rev a) : E)} : truK (.rev a) (.ok (d, ρ)) t = .ok (d.truthy, ρ) := rfl
theorem truK_call {ρ : DEnv} {d : PyData} (f : Nat) (es : List E) {t : Tk ((.call f es) : E)} : truK (.call f es) (.ok (d, ρ)) t = .ok (d.truthy, ρ) := rfl
theorem truK_callK {ρ : DEnv} {d : PyData} (f : Nat) (ks : List Nat) (es : List E) {t : Tk ((.callK f ks es) : E)} : truK (.callK f ks es) (.ok (d, ρ)) t = .ok (d.truthy, ρ) := rfl
theorem truK_b1 {ρ : DEnv} {d : PyData} (f : B1) (a : E) {t : Tk ((.b1 f a) : E)} : truK (.b1 f a) (.ok (d, ρ)) t = .ok (d.truthy, ρ) := rfl
theorem truK_b2 {ρ : DEnv} {d : PyData} (f : B2) (a b : E) {t : Tk ((.b2 f a b) : E)} : truK (.b2 f a b) (.ok (d, ρ)) t = .ok (d.truthy, ρ) := rfl
theorem truK_isa {ρ : DEnv} {d : PyData} (ts : List String) (a : E) {t : Tk ((.isa ts a) : E)} : truK (.isa ts a) (.ok (d, ρ)) t = .ok (d.truthy, ρ) := rfl
theorem truK_popA {ρ : DEnv} {d : PyData} (i : Nat) (a : E) {t : Tk ((.popA i a) : E)} : truK (.popA i a) (.ok (d, ρ)) t = .ok (d.truthy, ρ) := rfl
theorem truK_isX {ρ : DEnv} {d : PyData} (i : Nat) (x : Str) (cs : List Str) {t : Tk ((.isX i x cs) : E)} : truK (.isX i x cs) (.ok (d, ρ)) t = .ok (d.truthy, ρ) := rfl
theorem truK_isNX {ρ : DEnv} {d : PyData} (n : Bool) (i : Nat) {t : Tk ((.isNX n i) : E)} : truK (.isNX n i) (.ok (d, ρ)) t = .ok (d.truthy, ρ) := rfl
theorem truK_valX {ρ : DEnv} {d : PyData} (i : Nat) (cs : List Str) {t : Tk ((.valX i cs) : E)} : truK (.valX i cs) (.ok (d, ρ)) t = .ok (d.truthy, ρ) := rfl
theorem truK_callN {ρ : DEnv} {d : PyData} (g : Nat) (es : List E) {t : Tk ((.callN g es) : E)} : truK (.callN g es) (.ok (d, ρ)) t = .ok (d.truthy, ρ) := rfl
theorem truK_callT {ρ : DEnv} {d : PyData} (f g : Nat) (es : List E) {t : Tk ((.callT f g es) : E)} : truK (.callT f g es) (.ok (d, ρ)) t = .ok (d.truthy, ρ) := rfl
theorem truK_lc {ρ : DEnv} {d : PyData} (own : List Nat) (tg : Tg) (it : It) (test : Option E) (elt : E) {t : Tk ((.lc own tg it test elt) : E)} : truK (.lc own tg it test elt) (.ok (d, ρ)) t = .ok (d.truthy, ρ) := rfl
/-! ### comprehensions whose elements are told -/
theorem lc_pure {own : List Nat} {step : PyData → DEnv → Out (Option PyData × DEnv)} {w : DEnv} {f : PyData → Option PyData} : ∀ {xs acc : List PyData} {ρ : DEnv}, wipeD ρ own = w → (∀ x ∈ xs, ∃ ρ', step x w = .ok (f x, ρ') ∧ wipeD ρ' own = w) → ∃ ρ', lcLoop own step xs acc ρ = .ok (acc ++ xs.filterMap f, ρ') ∧ wipeD ρ' own = w
  | [], acc, ρ, hw, _ => ⟨ρ, by simp [lcLoop], hw⟩
  | x :: xs, acc, ρ, hw, h => by
    unfold lcLoop
    obtain ⟨ρ1, h1, h2⟩ := h x List.mem_cons_self
    rw [hw, h1]
    obtain ⟨ρ2, h3, h4⟩ := lc_pure (acc := (match f x with | some y => acc ++ [y] | none => acc)) h2 fun y m => h y (List.mem_cons_of_mem _ m)
    refine ⟨ρ2, ?_, h4⟩
    show lcLoop own step xs (match f x with | some y => acc ++ [y] | none => acc) ρ1 = _
    rw [h3, List.filterMap_cons]
    cases f x <;> simp
section
variable {GT : List (Str × PyData)} {PhU : Nat → Fun} {RF : Refs} {KP : Nat → List Nat → List Nat}
theorem lcF_pure {own : List Nat} {tg : Tg} {it : It} {fi : DEnv → Out (List PyData × DEnv)} {ft : DEnv → Out (Bool × DEnv)} {fe : DEnv → OV} {ρ ρ1 : DEnv} {xs : List PyData} (f : PyData → Option PyData) (hi : fi ρ = .ok (xs, ρ1)) (hno : own.any (fun i => (ρ1.getD i .no).isOwn) = false) (hl : xs.length ≤ PySem.sizeLine) (hold : holdOf it = none)
    (hb : backD ρ1 (wipeD ρ1 own) own = ρ1) (h : ∀ x ∈ xs, ∃ ρ', stepD tg ft fe x (wipeD ρ1 own) = .ok (f x, ρ') ∧ wipeD ρ' own = wipeD ρ1 own) :
    lcF own tg it fi ft fe ρ = .ok (.list (xs.filterMap f), ρ1) := by
  unfold lcF
  rw [hi]
  obtain ⟨ρ2, h1, h2⟩ := lc_pure (acc := []) (ρ := ρ1) rfl h
  show (if own.any (fun i => (ρ1.getD i .no).isOwn) || decide (PySem.sizeLine < xs.length) then .bad else (lcLoop own (stepD tg ft fe) xs [] ρ1).bind fun y => (Out.ok (PyData.list y.1, unholdD (holdOf it) ρ (backD ρ1 (wipeD y.2 own) own)) : OV)) = _
  rw [hno, h1, if_neg (by simp; omega)]
  show Out.ok (PyData.list ([] ++ xs.filterMap f), unholdD (holdOf it) ρ (backD ρ1 (wipeD ρ2 own) own)) = _
  rw [h2, hb, hold]
  rfl
theorem ev_lc {own : List Nat} {tg : Tg} {it : It} {test : Option E} {elt : E} {ρ ρ1 : DEnv} {xs : List PyData} (f : PyData → Option PyData) (hi : evi GT PhU RF KP it ρ = .ok (xs, ρ1)) (hno : own.any (fun i => (ρ1.getD i .no).isOwn) = false) (hl : xs.length ≤ PySem.sizeLine) (hold : holdOf it = none)
    (hb : backD ρ1 (wipeD ρ1 own) own = ρ1) (h : ∀ x ∈ xs, ∃ ρ', stepD tg (evq GT PhU RF KP test) (ev GT PhU RF KP elt) x (wipeD ρ1 own) = .ok (f x, ρ') ∧ wipeD ρ' own = wipeD ρ1 own) :
    ev GT PhU RF KP (.lc own tg it test elt) ρ = .ok (.list (xs.filterMap f), ρ1) :=
  lcF_pure (fi := evi GT PhU RF KP it) (ft := evq GT PhU RF KP test) (fe := ev GT PhU RF KP elt) f hi hno hl hold hb h
end
end DL
set_option Elab.async false
set_option linter.all false
set_option maxRecDepth 100000
set_option maxHeartbeats 4000000
namespace DL.Tx
open PySem PySem.W
abbrev PhU (n : Nat) : Nat → Fun := tx.Phi n
theorem rf_0 : rf 0 = none := rfl
theorem rf_1 : rf 1 = none := rfl
theorem rf_2 : rf 2 = none := rfl
theorem rf_3 : rf 3 = none := rfl
theorem rf_4 : rf 4 = none := rfl
theorem rf_5 : rf 5 = none := rfl
theorem rf_6 : rf 6 = none := rfl
theorem rf_7 : rf 7 = none := rfl
theorem rf_8 : rf 8 = none := rfl
theorem rf_9 : rf 9 = none := rfl
theorem rf_10 : rf 10 = none := rfl
theorem rf_13 : rf 13 = none := rfl
theorem rf_14 : rf 14 = none := rfl
theorem rf_15 : rf 15 = none := rfl
theorem rf_16 : rf 16 = none := rfl
theorem rf_20 : rf 20 = none := rfl
theorem rf_24 : rf 24 = none := rfl
theorem rf_25 : rf 25 = none := rfl
theorem rf_26 : rf 26 = none := rfl
theorem rf_50 : rf 50 = none := rfl
theorem rf_51 : rf 51 = none := rfl
theorem rf_52 : rf 52 = none := rfl
theorem rf_53 : rf 53 = none := rfl
theorem rf_54 : rf 54 = none := rfl
theorem rf_55 : rf 55 = none := rfl
theorem rf_56 : rf 56 = none := rfl
theorem rf_62 : rf 62 = none := rfl
theorem rf_63 : rf 63 = none := rfl
theorem rf_64 : rf 64 = none := rfl
theorem rf_65 : rf 65 = none := rfl
theorem rf_66 : rf 66 = some 0 := rfl
theorem rf_67 : rf 67 = none := rfl
theorem rf_68 : rf 68 = none := rfl
theorem rf_69 : rf 69 = none := rfl
theorem rf_70 : rf 70 = some 0 := rfl
theorem rf_71 : rf 71 = some 0 := rfl
theorem rf_72 : rf 72 = some 0 := rfl
theorem rf_73 : rf 73 = some 0 := rfl
theorem rf_74 : rf 74 = some 0 := rfl
theorem rf_75 : rf 75 = some 0 := rfl
theorem rf_76 : rf 76 = none := rfl
theorem rf_77 : rf 77 = some 0 := rfl
theorem rf_78 : rf 78 = none := rfl
theorem rf_79 : rf 79 = none := rfl
theorem rf_80 : rf 80 = none := rfl
theorem rf_81 : rf 81 = none := rfl
theorem rf_82 : rf 82 = none := rfl
theorem rf_83 : rf 83 = some 0 := rfl
theorem rf_84 : rf 84 = none := rfl
local macro_rules | `(tactic| simp_arith [$ls,*]) => `(tactic| simp [execs_nil, execs_cons, ↓thenKE, thenK_nx, thenK_rt, thenK_bk, thenK_ct, thenK_exc, end_rt0, end_nx0, end_exc, ↓iteKE, iteK_t, iteK_f, iteK_e, ↓truKE, truK_exc, exec_ite, exec_asg, exec_asgO, exec_asgT, exec_ex, exec_ret, exec_rai, exec_bot, exec_for, exec_par, exec_set, exec_pas, exec_try, ev_v, ev_bor, ev_k, ev_g, ev_bin, ev_cmp, ev_isN, ev_chain, ev_andL, ev_orL, ev_not, ev_ite, ev_tup, ev_lst, ev_dct, ev_sub, ev_sl, ev_rev, ev_call, ev_callK, ev_b1, ev_b2, ev_isa, ev_isX, ev_isNX, ev_valX, ev_callN, ev_callT, ev_bot, evs, evAnd, evOr, evo, evq, evi, ↓bndE, ok_bnd, exc_bnd, ↓floE, ok_flo, exc_flo, opt_some, obind_some, omap_some, noExc_ok, getV, getB, two, doCall, opds, isT, isNoneD, PyData.truthy, opd_v, isBor_v, truK_v, opd_k, isBor_k, truK_k, opd_g, isBor_g, truK_g, opd_bin, isBor_bin, truK_bin, opd_cmp, isBor_cmp, truK_cmp, opd_isN, isBor_isN, truK_isN, opd_chain, isBor_chain, truK_chain, opd_andL, isBor_andL, truK_andL, opd_orL, isBor_orL, truK_orL, opd_not, isBor_not, truK_not, opd_ite, isBor_ite, truK_ite, opd_tup, isBor_tup, truK_tup, opd_lst, isBor_lst, truK_lst, opd_dct, isBor_dct, truK_dct, opd_sub, isBor_sub, truK_sub, opd_sl, isBor_sl, truK_sl, opd_rev, isBor_rev, truK_rev, opd_call, isBor_call, truK_call, opd_callK, isBor_callK, truK_callK, opd_b1, isBor_b1, truK_b1, opd_b2, isBor_b2, truK_b2, opd_isa, isBor_isa, truK_isa, opd_popA, isBor_popA, truK_popA, opd_isX, isBor_isX, truK_isX, opd_isNX, isBor_isNX, truK_isNX, opd_valX, isBor_valX, truK_valX, opd_callN, isBor_callN, truK_callN, opd_callT, isBor_callT, truK_callT, opd_lc, isBor_lc, truK_lc, isBor_bor, opd_bor, Option.isNone_none, Option.isNone_some,
  List.length_cons, List.length_nil, List.map_cons, List.map_nil, List.nil_append, List.cons_append, List.all_cons, List.all_nil, List.any_cons, List.any_nil, List.getElem?_cons_zero, List.getElem?_cons_succ, List.set_cons_zero, List.set_cons_succ, List.replicate, List.getD, Bool.and_true, Bool.true_and, Bool.and_false, Bool.false_and, Bool.or_false, Bool.or_true, Bool.false_or, Bool.true_or, Bool.not_true, Bool.not_false, if_true, if_false, Bool.false_eq_true, reduceIte, beq_self_eq_true, String.reduceBEq, Nat.reduceSub, Nat.reduceAdd, cmp_eq_int, cmp_ne_int, cmp_lt_int, cmp_le_int, cmp_gt_int, cmp_ge_int, cmp_eq_str, cmp_ne_str, cmp_is_b, cmp_isn_b, len_l, len_t, len_d, len_s, int_i, int_b, list_l, list_t, tup_l, tup_t, items_d, sum_l, all_l, any_l, bin_ai, bin_si, sub_t0, sub_t1, sub_t2, sub_t3, sub_l0, sub_l1, sub_l2, sub_l3, sub_d, max_i, min_i, abs_i, neg_i, rf_0, rf_1, rf_2, rf_3, rf_4, rf_5, rf_6, rf_7, rf_8, rf_9, rf_10, rf_13, rf_14, rf_15, rf_16, rf_20, rf_24, rf_25, rf_26, rf_50, rf_51, rf_52, rf_53, rf_54, rf_55, rf_56, rf_62, rf_63, rf_64, rf_65, rf_66, rf_67, rf_68, rf_69, rf_70, rf_71, rf_72, rf_73, rf_74, rf_75, rf_76, rf_77, rf_78, rf_79, rf_80, rf_81, rf_82, rf_83, rf_84, $ls,*])
def isW : PyData → Bool
  | .int _ => true
  | _ => false
def isC : PyData → Bool
  | .int i => decide (0 ≤ i)
  | _ => false
def isP : PyData → Bool
  | .tuple [x, y] => isC x && isC y
  | _ => false
theorem f_whole (n : Nat) (d : PyData) : PhU (n + 1) 0 [d] = .ok (.bool (isW d), .none) := by
  cases d <;> rfl
theorem f_count (n : Nat) (d : PyData) : PhU (n + 2) 1 [d] = .ok (.bool (isC d), .none) := by
  cases d <;> rfl
theorem f_price (n : Nat) (d : PyData) : PhU (n + 3) 51 [d] = .ok (.bool (isP d), .none) := by
  show runD gt (PhU (n + 2)) rf kp 0 D_is_price [d] = _
  rw [runD_eq rfl rfl]
  cases d with
  | tuple l =>
    match l with
    | [] => rfl
    | [x] => rfl
    | [x, y] =>
      simp_arith [D_is_price, f_count]
      cases hx : isC x <;> cases hy : isC y <;> simp [isP, hx, hy, ok_flo, thenK_rt, end_rt0]
    | x :: y :: z :: r =>
      simp_arith [D_is_price, f_count]
      have h : ¬ ((r.length : Int) + 1 + 1 + 1 = 2) := by omega
      simp [h, isP, ok_flo, thenK_rt, end_rt0]
  | _ => rfl
/-- a book of fields, as far as it is known -/
structure Bk (bk : PyData) (ns : List Str) (rows : List PyData) : Prop where
  eq : bk = .tuple [.str "fields", .list rows]
  len : rows.length = ns.length
  few : ns.length ≤ 3
  chk : ∀ n, PhU (n + 8) 7 [bk] = .ok (.none, .none)
  nam : ∀ n, PhU (n + 2) 50 [bk] = .ok (.list (ns.map .str), .none)
  nam2 : ∀ n, PhU (n + 2) 76 [bk] = .ok (.list (ns.map .str), .none)
def keyOk (ns : List Str) (kvs : List (PyData × PyData)) : PyData → Bool
  | .str x => decide (x ∈ ns) && (match look (.str x) kvs with
    | some v => isP v
    | none => false)
  | _ => false
def ipB (ns : List Str) (kvs : List (PyData × PyData)) : Bool := decide (kvs.length = ns.length) && (kvs.map (·.1)).all (keyOk ns kvs)
theorem eqv_str (x y : Str) : PyData.eqv (.str x) (.str y) = decide (x = y) := by
  first | rfl | simp [PyData.eqv]
theorem any_str (ns : List Str) (x : Str) : ((ns.map PyData.str).any fun z => PyData.eqv z (.str x)) = decide (x ∈ ns) := by
  induction ns with
  | nil => rfl
  | cons a r ih =>
    rw [List.map_cons, List.any_cons, ih, eqv_str]
    by_cases h : a = x
    · simp [h]
    · have h2 : x ≠ a := fun z => h z.symm
      simp [h, h2]
theorem plain_str (ns : List Str) : PyData.plainAll (ns.map PyData.str) = true := by
  induction ns with
  | nil => rfl
  | cons a r ih => simp [PyData.plainAll, PyData.plain, ih]
theorem inn_strs (ns : List Str) (x : Str) : cmpD .inn (.str x) (.list (ns.map PyData.str)) = some (decide (x ∈ ns)) := by
  show (if ((PyData.str x).plain && PyData.plainAll (ns.map PyData.str) && decide ((PyData.str x).depth ≤ 60)) = true then some ((ns.map PyData.str).any fun z => PyData.eqv z (.str x)) else none) = _
  rw [if_pos (by simp [plain_str, PyData.plain, PyData.depth]), any_str]
theorem plain_bl {α : Type} {g : α → Option PyData} (h : ∀ x, ∃ b, g x = some (.bool b)) : ∀ {l : List α}, PyData.plainAll (l.filterMap g) = true
  | [] => rfl
  | x :: l => by
    obtain ⟨b, e⟩ := h x
    rw [List.filterMap_cons, e]
    simp [PyData.plainAll, PyData.plain, plain_bl h]
theorem plain_map {α : Type} (f : α → Bool) (l : List α) : PyData.plainAll (l.map fun x => .bool (f x)) = true := by
  induction l with
  | nil => rfl
  | cons x l ih => simp [PyData.plainAll, PyData.plain, ih]
theorem look_some {kvs : List (PyData × PyData)} {x : Str} (h : PyData.str x ∈ kvs.map (·.1)) : ∃ v, look (.str x) kvs = some v := by
  obtain ⟨q, m, e⟩ := List.mem_map.mp h
  unfold look
  cases e2 : kvs.find? fun q => keyEq q.1 (.str x) with
  | some z => exact ⟨_, rfl⟩
  | none =>
    have := List.find?_eq_none.mp e2 q m
    rw [e] at this
    simp [keyEq] at this
theorem f_prices {bk : PyData} {ns : List Str} {rows : List PyData} (B : Bk bk ns rows) (n : Nat) (kvs : List (PyData × PyData)) (hs : kvs.length ≤ sizeLine) : PhU (n + 10) 52 [bk, .dict kvs] = .ok (.bool (ipB ns kvs), .none) := by
  show runD gt (PhU (n + 9)) rf kp 0 D_is_prices [bk, .dict kvs] = _
  rw [runD_eq rfl rfl]
  have hc := B.chk (n + 1)
  have hn := B.nam (n + 7)
  have e := B.eq
  subst e
  by_cases hl : kvs.length = ns.length
  · have key : ev gt (PhU (n + 9)) rf kp (.lc [3] (.n 3) (.e (.v 1)) none (.andL [(.isa ["str"] (.v 3)), (.cmp .inn (.v 3) (.v 2)), (.call 51 [(.sub (.v 1) (.v 3))])])) [.val (.tuple [.str "fields", .list rows]), .val (.dict kvs), .val (.list (ns.map .str)), .no] = .ok (.list ((kvs.map (·.1)).filterMap fun k => some (.bool (keyOk ns kvs k))), [.val (.tuple [.str "fields", .list rows]), .val (.dict kvs), .val (.list (ns.map .str)), .no]) := by
      refine ev_lc _ rfl rfl (by simpa using hs) rfl rfl fun k hk => ?_
      cases k with
      | str x =>
        obtain ⟨v, hv⟩ := look_some hk
        refine ⟨[.val (.tuple [.str "fields", .list rows]), .val (.dict kvs), .val (.list (ns.map .str)), .val (.str x)], ?_, rfl⟩
        simp_arith [stepD, bindT, wipeD, inn_strs, hv, isKey, f_price, keyOk]
        by_cases hx : x ∈ ns
        · simp_arith [hx, hv, isKey, f_price]
        · simp_arith [hx]
      | _ => exact ⟨[.val (.tuple [.str "fields", .list rows]), .val (.dict kvs), .val (.list (ns.map .str)), .val _], rfl, rfl⟩
    simp_arith [D_is_prices, hc, hn, hl, B.len, key, plain_map, ipB, Function.comp_def]
  · have h2 : ¬ ((kvs.length : Int) = (ns.length : Int)) := by omega
    simp_arith [D_is_prices, hc, h2, B.len, ipB, hl]
theorem f_prices_no {bk : PyData} {ns : List Str} {rows : List PyData} (B : Bk bk ns rows) (n : Nat) (v : PyData) (hv : ∀ kvs, v ≠ .dict kvs) : PhU (n + 10) 52 [bk, v] = .ok (.bool false, .none) := by
  show runD gt (PhU (n + 9)) rf kp 0 D_is_prices [bk, v] = _
  rw [runD_eq rfl rfl]
  have hc := B.chk (n + 1)
  have e := B.eq
  subst e
  cases v <;> first | exact absurd rfl (hv _) | simp_arith [D_is_prices, hc]
set_option Elab.async false
set_option linter.all false
set_option maxRecDepth 100000
set_option maxHeartbeats 4000000
open PySem PySem.W PyProof.Rows
/-! ### things -/
def vD : Option (List Str) → PyData
  | none => .none
  | some l => .list (l.map .str)
def rowD (r : Str × Option (List Str)) : PyData := .tuple [.str r.1, vD r.2]
def ofRow (vs : Option (List Str)) : PyData → Bool
  | .str x => decide (x = "") || (match vs with
    | some l => decide (x ∈ l)
    | none => false)
  | .int _ => vs.isNone
  | _ => false
theorem f_of_row (n : Nat) (vs : Option (List Str)) (v : PyData) : PhU (n + 3) 8 [vD vs, v] = .ok (.bool (ofRow vs v), .none) := by
  show runD gt (PhU (n + 2)) rf kp 0 D_is_of_row [vD vs, v] = _
  rw [runD_eq rfl rfl]
  cases v with
  | str x =>
    cases vs with
    | none =>
      by_cases hx : x = ""
      · simp_arith [D_is_of_row, vD, ofRow, hx]
      · simp_arith [D_is_of_row, vD, ofRow, hx]
    | some l =>
      by_cases hx : x = ""
      · simp_arith [D_is_of_row, vD, ofRow, hx]
      · simp_arith [D_is_of_row, vD, ofRow, hx, inn_strs]
  | _ => cases vs <;> first | rfl | simp_arith [D_is_of_row, vD, ofRow, f_whole, isW]
/-- a thing's value at the place i -/
def gRow (rs : List (Str × Option (List Str))) : PyData → Bool
  | .tuple [.int i, x] => (match rs[i.toNat]? with
    | some r => ofRow r.2 x
    | none => false)
  | _ => false
def thB (rs : List (Str × Option (List Str))) (vs : List PyData) : Bool := decide (vs.length = rs.length) && (enumD 0 vs).all (gRow rs)
theorem f_thing_of (n : Nat) (rs : List (Str × Option (List Str))) (vs : List PyData) (hs : vs.length ≤ sizeLine) : PhU (n + 5) 9 [.list (rs.map rowD), .tuple vs] = .ok (.bool (thB rs vs), .none) := by
  show runD gt (PhU (n + 4)) rf kp 0 D_is_thing_of [.list (rs.map rowD), .tuple vs] = _
  rw [runD_eq rfl rfl]
  by_cases hl : vs.length = rs.length
  · have key : ev gt (PhU (n + 4)) rf kp (.lc [2, 3] (.t [2, 3]) (.enum (.v 1)) none (.call 8 [(.sub (.sub (.v 0) (.v 2)) (.k (.int 1))), (.v 3)])) [.val (.list (rs.map rowD)), .val (.tuple vs), .no, .no] = .ok (.list ((enumD 0 vs).filterMap fun d => some (.bool (gRow rs d))), [.val (.list (rs.map rowD)), .val (.tuple vs), .no, .no]) := by
      refine ev_lc _ rfl rfl (by rw [enumD_len]; exact hs) rfl rfl fun d hd => ?_
      obtain ⟨i, hi⟩ := List.mem_iff_getElem?.mp hd
      obtain ⟨y, h1, rfl⟩ := enumD_at hi
      rw [Nat.zero_add]
      have hi2 : i < rs.length := by
        rw [← hl]
        exact (List.getElem?_eq_some_iff.mp h1).1
      have hr : (rs.map rowD)[i]? = some (rowD rs[i]) := by
        rw [List.getElem?_map, List.getElem?_eq_getElem hi2]
        rfl
      refine ⟨[.val (.list (rs.map rowD)), .val (.tuple vs), .val (.int (i : Nat)), .val y], ?_, rfl⟩
      have h3 : rs[i]? = some rs[i] := List.getElem?_eq_getElem hi2
      have hsub := sub_ln hr
      have hf := f_of_row (n + 1) rs[i].2 y
      simp_arith [stepD, bindT, bindL, wipeD, hsub, rowD, hf, gRow, h3]
    simp_arith [D_is_thing_of, hl, key, plain_map, thB, Function.comp_def]
  · have h2 : ¬ ((vs.length : Int) = (rs.length : Int)) := by omega
    simp_arith [D_is_thing_of, h2, thB, hl]
theorem f_thing_no (n : Nat) (rows v : PyData) (hv : ∀ vs, v ≠ .tuple vs) : PhU (n + 5) 9 [rows, v] = .ok (.bool false, .none) := by
  show runD gt (PhU (n + 4)) rf kp 0 D_is_thing_of [rows, v] = _
  rw [runD_eq rfl rfl]
  cases v <;> first | exact absurd rfl (hv _) | simp_arith [D_is_thing_of]
/-! ### prices of steps -/
def prD (p : Int × Int) : PyData := .tuple [.int p.1, .int p.2]
def sp (p : Int × Int) : PyData → PyData → Int
  | .str x, .str y => if x = y then 0 else p.1
  | .int i, .int j => if i = j then 0 else p.1 + p.2 * (if i - j < 0 then -(i - j) else i - j)
  | _, _ => p.1
def isV : PyData → Bool
  | .str _ => true
  | .int _ => true
  | _ => false
theorem cmp_eq_is (x : Str) (i : Int) : cmpD .eq (.str x) (.int i) = some false ∧ cmpD .eq (.int i) (.str x) = some false ∧ cmpD .ne (.str x) (.int i) = some true ∧ cmpD .ne (.int i) (.str x) = some true := ⟨rfl, rfl, rfl, rfl⟩
theorem mul_ok {a b : Int} (h : a.natAbs < 2 ^ 64) : binD .mul (.int a) (.int b) = some (.int (a * b)) := if_pos (.inl h)
theorem f_step (n : Nat) (p : Int × Int) (hp : p.2.natAbs < 2 ^ 64) (x y : PyData) (hx : isV x = true) (hy : isV y = true) : PhU (n + 3) 54 [prD p, x, y] = .ok (.int (sp p x y), .none) := by
  show runD gt (PhU (n + 2)) rf kp 0 D_step_price [prD p, x, y] = _
  rw [runD_eq rfl rfl]
  cases x <;> first | cases hx | skip
  all_goals cases y <;> first | cases hy | skip
  · rename_i i j
    by_cases h : i = j
    · simp_arith [D_step_price, prD, sp, h]
    · simp_arith [D_step_price, prD, sp, h, f_whole, isW, mul_ok hp]
  · simp_arith [D_step_price, prD, sp, (cmp_eq_is _ _).2.1, f_whole, isW, mul_ok hp]
  · simp_arith [D_step_price, prD, sp, (cmp_eq_is _ _).1, f_whole, isW, mul_ok hp]
  · rename_i i j
    by_cases h : i = j
    · simp_arith [D_step_price, prD, sp, h]
    · simp_arith [D_step_price, prD, sp, h, f_whole, isW, mul_ok hp]
/-- a change, feature by feature: name, price, from, to -/
abbrev Ch : Type := Str × (Int × Int) × PyData × PyData
def cost (L : List Ch) : Int := (L.map fun q => sp q.2.1 q.2.2.1 q.2.2.2).sum
theorem zip3_ch : ∀ L : List Ch, zip3D (L.map fun q => .str q.1) (L.map (·.2.2.1)) (L.map (·.2.2.2)) = L.map fun q => .tuple [.str q.1, q.2.2.1, q.2.2.2]
  | [] => rfl
  | q :: L => by
    rw [List.map_cons, List.map_cons, List.map_cons, List.map_cons, ← zip3_ch L]
    rfl
def elC (kvs : List (PyData × PyData)) : PyData → Option PyData
  | .tuple [k, x, y] => (match look k kvs with
    | some (.tuple [.int a, .int b]) => some (.int (sp (a, b) x y))
    | _ => none)
  | _ => none
theorem sum_ch (kvs : List (PyData × PyData)) : ∀ (L : List Ch), (∀ q ∈ L, look (.str q.1) kvs = some (prD q.2.1)) → sumI ((L.map fun q => PyData.tuple [.str q.1, q.2.2.1, q.2.2.2]).filterMap (elC kvs)) = some (cost L)
  | [], _ => rfl
  | q :: L, h => by
    have e : elC kvs (.tuple [.str q.1, q.2.2.1, q.2.2.2]) = some (.int (sp q.2.1 q.2.2.1 q.2.2.2)) := by
      unfold elC
      dsimp only
      rw [h q List.mem_cons_self]
      rfl
    rw [List.map_cons, List.filterMap_cons, e]
    show (sumI _).map _ = _
    rw [sum_ch kvs L fun z m => h z (List.mem_cons_of_mem _ m)]
    rfl
/-- what is asked of a change -/
structure ChOk (kvs : List (PyData × PyData)) (L : List Ch) : Prop where
  look : ∀ q ∈ L, DL.look (.str q.1) kvs = some (prD q.2.1)
  sm : ∀ q ∈ L, q.2.1.2.natAbs < 2 ^ 64
  v1 : ∀ q ∈ L, isV q.2.2.1 = true
  v2 : ∀ q ∈ L, isV q.2.2.2 = true
  few : L.length ≤ 3
theorem f_change {bk : PyData} {ns : List Str} {rows : List PyData} (B : Bk bk ns rows) (n : Nat) (kvs : List (PyData × PyData)) (L : List Ch) (hn : L.map (·.1) = ns) (O : ChOk kvs L) :
    PhU (n + 10) 55 [bk, .dict kvs, .tuple (L.map (·.2.2.1)), .tuple (L.map (·.2.2.2))] = .ok (.int (cost L), .none) := by
  have hb := B.nam (n + 7)
  have hz : evi gt (PhU (n + 9)) rf kp (.zip3 (.call 50 [.v 0]) (.v 2) (.v 3)) [.val bk, .val (.dict kvs), .val (.tuple (L.map (·.2.2.1))), .val (.tuple (L.map (·.2.2.2))), .no, .no, .no, .no] = .ok (L.map fun q => PyData.tuple [.str q.1, q.2.2.1, q.2.2.2], [.val bk, .val (.dict kvs), .val (.tuple (L.map (·.2.2.1))), .val (.tuple (L.map (·.2.2.2))), .no, .no, .no, .no]) := by
    simp_arith [hb, seqD, ← hn, Function.comp_def, zip3_ch]
  have key : lcF [5, 6, 7] (.t [5, 6, 7]) (.e .bot) (fun ρ => .ok (L.map fun q => PyData.tuple [.str q.1, q.2.2.1, q.2.2.2], ρ)) (evq gt (PhU (n + 9)) rf kp none) (ev gt (PhU (n + 9)) rf kp (.call 54 [(.sub (.v 1) (.v 5)), (.v 6), (.v 7)])) [.val bk, .val (.dict kvs), .val (.tuple (L.map (·.2.2.1))), .val (.tuple (L.map (·.2.2.2))), .no, .no, .no, .no] = .ok (.list ((L.map fun q => PyData.tuple [.str q.1, q.2.2.1, q.2.2.2]).filterMap (elC kvs)), [.val bk, .val (.dict kvs), .val (.tuple (L.map (·.2.2.1))), .val (.tuple (L.map (·.2.2.2))), .no, .no, .no, .no]) := by
    refine lcF_pure _ rfl rfl ?_ rfl rfl fun d hd => ?_
    · rw [List.length_map]
      have := O.few
      rw [sizeLine_eq]
      omega
    · obtain ⟨q, m, rfl⟩ := List.mem_map.mp hd
      refine ⟨[.val bk, .val (.dict kvs), .val (.tuple (L.map (·.2.2.1))), .val (.tuple (L.map (·.2.2.2))), .no, .val (.str q.1), .val q.2.2.1, .val q.2.2.2], ?_, rfl⟩
      have hf := f_step (n + 6) q.2.1 (O.sm q m) q.2.2.1 q.2.2.2 (O.v1 q m) (O.v2 q m)
      have hl := O.look q m
      simp_arith [stepD, bindT, bindL, wipeD, hl, isKey, hf, elC]
      rfl
  show runZ gt (PhU (n + 9)) rf kp 4 8 4 (.call 50 [.v 0]) (.v 2) (.v 3) [5, 6, 7] (.t [5, 6, 7]) (.call 54 [(.sub (.v 1) (.v 5)), (.v 6), (.v 7)]) [bk, .dict kvs, .tuple (L.map (·.2.2.1)), .tuple (L.map (·.2.2.2))] = _
  have core : coreZ gt (PhU (n + 9)) rf kp 4 (.call 50 [.v 0]) (.v 2) (.v 3) [5, 6, 7] (.t [5, 6, 7]) (.call 54 [(.sub (.v 1) (.v 5)), (.v 6), (.v 7)]) [.val bk, .val (.dict kvs), .val (.tuple (L.map (·.2.2.1))), .val (.tuple (L.map (·.2.2.2))), .no, .no, .no, .no] = .ok (.int (cost L), [.val bk, .val (.dict kvs), .val (.tuple (L.map (·.2.2.1))), .val (.tuple (L.map (·.2.2.2))), .no, .no, .no, .no]) := by
    unfold coreZ
    rw [hz]
    show (lcF [5, 6, 7] (.t [5, 6, 7]) (.e .bot) (fun ρ => .ok (L.map fun q => PyData.tuple [.str q.1, q.2.2.1, q.2.2.2], ρ)) (evq gt (PhU (n + 9)) rf kp none) (ev gt (PhU (n + 9)) rf kp (.call 54 [(.sub (.v 1) (.v 5)), (.v 6), (.v 7)])) [.val bk, .val (.dict kvs), .val (.tuple (L.map (·.2.2.1))), .val (.tuple (L.map (·.2.2.2))), .no, .no, .no, .no]).bind _ = _
    rw [key]
    show Out.ofOpt ((sumI _).map PyData.int) _ = _
    rw [sum_ch kvs L O.look]
    rfl
  show (match coreZ gt (PhU (n + 9)) rf kp 4 (.call 50 [.v 0]) (.v 2) (.v 3) [5, 6, 7] (.t [5, 6, 7]) (.call 54 [(.sub (.v 1) (.v 5)), (.v 6), (.v 7)]) [.val bk, .val (.dict kvs), .val (.tuple (L.map (·.2.2.1))), .val (.tuple (L.map (·.2.2.2))), .no, .no, .no, .no] with
    | .ok x => (Out.ok (x.1, PyData.none) : Out (PyData × PyData))
    | .exc c d => .exc c d
    | .bad => .bad) = _
  rw [core]
set_option Elab.async false
set_option linter.all false
set_option maxRecDepth 100000
set_option maxHeartbeats 4000000
open PySem PySem.W PyProof.Rows
abbrev costB : List S := [.ite (.cmp .ne (.v 6) (.v 7)) [.asg 8 (.ite (.orL [(.isa ["str"] (.v 6)), (.isa ["str"] (.v 7))]) (.k (.int 0)) (.bin .sub (.b2 .max (.v 6) (.v 7)) (.b2 .min (.v 6) (.v 7)))), .asg 4 (.bin .add (.bin .add (.v 4) (.sub (.sub (.v 1) (.v 5)) (.k (.int 0)))) (.bin .mul (.sub (.sub (.v 1) (.v 5)) (.k (.int 1))) (.v 8)))] []]
theorem far_eq {i j : Int} (h : ¬ i = j) : (if j > i then j else i) - (if j < i then j else i) = if i - j < 0 then -(i - j) else i - j := by
  by_cases h1 : j > i
  · rw [if_pos h1, if_neg (by omega), if_pos (by omega)]
    omega
  · rw [if_neg h1, if_pos (by omega), if_neg (by omega)]
theorem cost_step (n : Nat) (bk one other : PyData) (kvs : List (PyData × PyData)) (q : Ch) (hl : look (.str q.1) kvs = some (prD q.2.1)) (hp : q.2.1.2.natAbs < 2 ^ 64) (h1 : isV q.2.2.1 = true) (h2 : isV q.2.2.2 = true) (acc : Int) (j5 j6 j7 j8 : Slot) :
    ∃ j, bodyF gt (PhU n) rf kp 0 (.t [5, 6, 7]) costB (.tuple [.str q.1, q.2.2.1, q.2.2.2]) [.val bk, .val (.dict kvs), .val one, .val other, .val (.int acc), j5, j6, j7, j8] = .nx [.val bk, .val (.dict kvs), .val one, .val other, .val (.int (acc + sp q.2.1 q.2.2.1 q.2.2.2)), .val (.str q.1), .val q.2.2.1, .val q.2.2.2, j] := by
  obtain ⟨nm, ⟨a, b⟩, x, y⟩ := q
  dsimp only at hl hp h1 h2 ⊢
  cases x <;> first | cases h1 | skip
  all_goals cases y <;> first | cases h2 | skip
  · rename_i i j
    by_cases h : i = j
    · refine ⟨j8, ?_⟩
      simp_arith [bodyF, bindT, bindL, h, sp]
    · refine ⟨.val (.int (if i - j < 0 then -(i - j) else i - j)), ?_⟩
      simp_arith [bodyF, bindT, bindL, h, sp, hl, isKey, prD, mul_ok hp, far_eq h]
      exact Int.add_assoc _ _ _
  · refine ⟨.val (.int 0), ?_⟩
    simp_arith [bodyF, bindT, bindL, sp, (cmp_eq_is _ _).2.2.2, hl, isKey, prD, mul_ok hp]
  · refine ⟨.val (.int 0), ?_⟩
    simp_arith [bodyF, bindT, bindL, sp, (cmp_eq_is _ _).2.2.1, hl, isKey, prD, mul_ok hp]
  · rename_i i j
    by_cases h : i = j
    · refine ⟨j8, ?_⟩
      simp_arith [bodyF, bindT, bindL, h, sp]
    · refine ⟨.val (.int 0), ?_⟩
      simp_arith [bodyF, bindT, bindL, h, sp, hl, isKey, prD, mul_ok hp]
theorem cost_loop (n : Nat) (bk one other : PyData) (kvs : List (PyData × PyData)) : ∀ (L : List Ch), (∀ q ∈ L, look (.str q.1) kvs = some (prD q.2.1)) → (∀ q ∈ L, q.2.1.2.natAbs < 2 ^ 64) → (∀ q ∈ L, isV q.2.2.1 = true) → (∀ q ∈ L, isV q.2.2.2 = true) → ∀ (acc : Int) (j5 j6 j7 j8 : Slot),
    ∃ k5 k6 k7 k8, forLoop (bodyF gt (PhU n) rf kp 0 (.t [5, 6, 7]) costB) (L.map fun q => PyData.tuple [.str q.1, q.2.2.1, q.2.2.2]) [.val bk, .val (.dict kvs), .val one, .val other, .val (.int acc), j5, j6, j7, j8] = .nx [.val bk, .val (.dict kvs), .val one, .val other, .val (.int (acc + cost L)), k5, k6, k7, k8]
  | [], _, _, _, _, acc, j5, j6, j7, j8 => ⟨j5, j6, j7, j8, by simp [forLoop, cost]⟩
  | q :: L, h1, h2, h3, h4, acc, j5, j6, j7, j8 => by
    obtain ⟨j, e⟩ := cost_step n bk one other kvs q (h1 q List.mem_cons_self) (h2 q List.mem_cons_self) (h3 q List.mem_cons_self) (h4 q List.mem_cons_self) acc j5 j6 j7 j8
    obtain ⟨k5, k6, k7, k8, e2⟩ := cost_loop n bk one other kvs L (fun z m => h1 z (List.mem_cons_of_mem _ m)) (fun z m => h2 z (List.mem_cons_of_mem _ m)) (fun z m => h3 z (List.mem_cons_of_mem _ m)) (fun z m => h4 z (List.mem_cons_of_mem _ m)) (acc + sp q.2.1 q.2.2.1 q.2.2.2) (.val (.str q.1)) (.val q.2.2.1) (.val q.2.2.2) j
    refine ⟨k5, k6, k7, k8, ?_⟩
    rw [List.map_cons]
    unfold forLoop
    rw [e]
    dsimp only
    rw [e2]
    simp [cost, Int.add_assoc]
theorem f_cost {bk : PyData} {ns : List Str} {rows : List PyData} (B : Bk bk ns rows) (n : Nat) (kvs : List (PyData × PyData)) (L : List Ch) (hn : L.map (·.1) = ns) (O : ChOk kvs L) :
    PhU (n + 10) 78 [bk, .dict kvs, .tuple (L.map (·.2.2.1)), .tuple (L.map (·.2.2.2))] = .ok (.int (cost L), .none) := by
  show runD gt (PhU (n + 9)) rf kp 0 D__law_cost [bk, .dict kvs, .tuple (L.map (·.2.2.1)), .tuple (L.map (·.2.2.2))] = _
  rw [runD_eq rfl rfl]
  have hb := B.nam2 (n + 7)
  obtain ⟨k5, k6, k7, k8, e⟩ := cost_loop (n + 9) bk (.tuple (L.map (·.2.2.1))) (.tuple (L.map (·.2.2.2))) kvs L O.look O.sm O.v1 O.v2 0 .no .no .no .no
  rw [Int.zero_add] at e
  simp_arith [D__law_cost, hb, seqD, ← hn, Function.comp_def, zip3_ch, forF, holdOf, e]
/-! ### the checks -/
theorem f_chkp {bk : PyData} {ns : List Str} {rows : List PyData} (B : Bk bk ns rows) (n : Nat) (v : PyData) (b : Bool) (h : PhU (n + 10) 52 [bk, v] = .ok (.bool b, .none)) : PhU (n + 11) 53 [bk, v] = if b then .ok (.none, .none) else .exc "InvalidPrices" v := by
  show runD gt (PhU (n + 10)) rf kp 0 D_check_prices [bk, v] = _
  rw [runD_eq rfl rfl]
  cases b <;> simp_arith [D_check_prices, h]
theorem f_chkt (n : Nat) (t rows v : PyData) (b : Bool) (h : PhU (n + 5) 9 [rows, v] = .ok (.bool b, .none)) : PhU (n + 6) 10 [.tuple [t, rows], v] = if b then .ok (.none, .none) else .exc "InvalidThing" v := by
  show runD gt (PhU (n + 5)) rf kp 0 D_check_thing [.tuple [t, rows], v] = _
  rw [runD_eq rfl rfl]
  cases b <;> simp_arith [D_check_thing, h]
set_option Elab.async false
set_option linter.all false
set_option maxRecDepth 100000
set_option maxHeartbeats 4000000
open PySem PySem.W PyProof.Rows
/-- the four classes, as the law numbers them -/
inductive Kd where
  | f | r | p | t
def Kd.c : Kd → Str
  | .f => "InvalidFields"
  | .r => "InvalidRegion"
  | .p => "InvalidPrices"
  | .t => "InvalidThing"
def Kd.i : Kd → Int
  | .f => 0
  | .r => 1
  | .p => 2
  | .t => 3
def Kd.ts : Kd → List PyData
  | .f => [.bool true, .bool false, .bool false, .bool false]
  | .r => [.bool false, .bool true, .bool false, .bool false]
  | .p => [.bool false, .bool false, .bool true, .bool false]
  | .t => [.bool false, .bool false, .bool false, .bool true]
abbrev cs4 : List Str := ["InvalidFields", "InvalidRegion", "InvalidPrices", "InvalidThing"]
theorem kd_mem (k : Kd) : k.c ∈ cs4 := by cases k <;> decide
theorem kd_sub (k : Kd) : subC k.c "OfficeError" = true := by cases k <;> decide
abbrev truE : E := .lst [(.isX 2 "InvalidFields" cs4), (.isX 2 "InvalidRegion" cs4), (.isX 2 "InvalidPrices" cs4), (.isX 2 "InvalidThing" cs4)]
theorem truE_ok (n : Nat) (k : Kd) (v a b : PyData) : ev gt (PhU n) rf kp truE [.val a, .val b, .exc k.c v, .no, .no, .no, .no] = .ok (.list k.ts, [.val a, .val b, .exc k.c v, .no, .no, .no, .no]) := by
  cases k <;> kernel_rfl
theorem ats_ok (n : Nat) (k : Kd) (v a b : PyData) : ev gt (PhU n) rf kp (.lc [5, 6] (.t [5, 6]) (.enum (.v 4)) (some (.v 6)) (.v 5)) [.val a, .val b, .exc k.c v, .no, .val (.list k.ts), .no, .no] = .ok (.list [.int k.i], [.val a, .val b, .exc k.c v, .no, .val (.list k.ts), .no, .no]) := by
  cases k <;> kernel_rfl
theorem nx_ok (n : Nat) (k : Kd) (v a b c : PyData) : ev gt (PhU n) rf kp (.isNX false 2) [.val a, .val b, .exc k.c v, .no, .val c, .no, .no] = .ok (.bool false, [.val a, .val b, .exc k.c v, .no, .val c, .no, .no]) := by kernel_rfl
theorem vx_ok (n : Nat) (k : Kd) (v a b c : PyData) : ev gt (PhU n) rf kp (.valX 2 cs4) [.val a, .val b, .exc k.c v, .no, .val c, .no, .no] = .ok (v, [.val a, .val b, .exc k.c v, .no, .val c, .no, .no]) := by
  cases k <;> kernel_rfl
theorem tryF_hold {c' c : Str} {cs : List Str} {d : PyData} {ρ : DEnv} {n i : Nat} (hm : c' ∈ cs) (hs : subC c' c = true) : tryF (.exc c' d) ρ c cs n i = .nx ((ρ.set i (.exc c' d)).set n .no) := by
  show (if c' ∉ cs then Fl.bad else if subC c' c then .nx ((ρ.set i (.exc c' d)).set n .no) else .exc c' d) = _
  rw [if_neg (fun z => z hm), if_pos hs]
/-- what repr tells -/
structure Sh (v : PyData) : Prop where
  a : v.showable = true
  b : v.depth ≤ 60
  c : v.shown.length ≤ sizeLine
theorem repr_ok {v : PyData} (h : Sh v) : b1X .repr v = some (.str v.shown) := by
  have e : b1X .repr v = if v.showable && decide (v.depth ≤ 60) && decide (v.shown.length ≤ sizeLine) then some (.str v.shown) else none := by cases v <;> rfl
  rw [e, if_pos (by simp [h.a, h.b, h.c])]
def doorG : Nat → Nat
  | 0 => 56
  | 1 => 63
  | _ => 64
theorem f_caught (n : Nat) (door : Nat) (hd : door < 3) (a0 a1 a2 a3 v : PyData) (k : Kd) (hs : Sh v) (h : PhU n (doorG door) [a0, a1, a2, a3] = .exc k.c v) : PhU (n + 1) 80 [.int door, .list [a0, a1, a2, a3]] = .ok (.list [.list [.int k.i], .str v.shown], .none) := by
  show runD gt (PhU n) rf kp 0 D__law_caught [.int door, .list [a0, a1, a2, a3]] = _
  rw [runD_eq rfl rfl]
  have ht : evT gt (PhU n) rf kp (.ite (.cmp .eq (.v 0) (.k (.int 0))) (.call 56 [(.sub (.v 1) (.k (.int 0))), (.sub (.v 1) (.k (.int 1))), (.sub (.v 1) (.k (.int 2))), (.sub (.v 1) (.k (.int 3)))]) (.ite (.cmp .eq (.v 0) (.k (.int 1))) (.call 63 [(.sub (.v 1) (.k (.int 0))), (.sub (.v 1) (.k (.int 1))), (.sub (.v 1) (.k (.int 2))), (.sub (.v 1) (.k (.int 3)))]) (.call 64 [(.sub (.v 1) (.k (.int 0))), (.sub (.v 1) (.k (.int 1))), (.sub (.v 1) (.k (.int 2))), (.sub (.v 1) (.k (.int 3)))]))) [.val (.int door), .val (.list [a0, a1, a2, a3]), .val .none, .no, .no, .no, .no] = .exc k.c v := by
    have hh : ∀ s t u w : Slot, hideD [.val (.int door), .val (.list [a0, a1, a2, a3]), .val .none, .no, .no, .no, .no] = [.val (.int door), .val (.list [a0, a1, a2, a3]), .val .none, .no, .no, .no, .no] := fun _ _ _ _ => rfl
    match door, hd with
    | 0, _ =>
      have h : PhU n 56 [a0, a1, a2, a3] = .exc k.c v := h
      simp_arith [evT_ite, evT_call, hideD, Slot.isOwn, h]
    | 1, _ =>
      have h : PhU n 63 [a0, a1, a2, a3] = .exc k.c v := h
      simp_arith [evT_ite, evT_call, hideD, Slot.isOwn, h]
    | 2, _ =>
      have h : PhU n 64 [a0, a1, a2, a3] = .exc k.c v := h
      simp_arith [evT_ite, evT_call, hideD, Slot.isOwn, h]
  have hm := kd_mem k
  have hsb := kd_sub k
  have e1 := tryF_hold (d := v) (ρ := [.val (.int door), .val (.list [a0, a1, a2, a3]), .val .none, .no, .no, .no, .no]) (n := 3) (i := 2) hm hsb
  have e2 := truE_ok n k v (.int door) (.list [a0, a1, a2, a3])
  have e3 := ats_ok n k v (.int door) (.list [a0, a1, a2, a3])
  have e4 := nx_ok n k v (.int door) (.list [a0, a1, a2, a3]) (.list k.ts)
  have e5 := vx_ok n k v (.int door) (.list [a0, a1, a2, a3]) (.list k.ts)
  have e6 := repr_ok hs
  rw [D__law_caught]
  simp only [execs_cons, exec_asg, exec_try, ev_k, fl_ok, thenF_nx, List.map_cons, List.map_nil, List.cons_append, List.nil_append, List.replicate, List.set_cons_zero, List.set_cons_succ, ht, e1, e2]
  simp only [exec_ret, ev_lst, evs, e3, ok_bind, ev_ite, e4, truS_isNX, PyData.truthy, ev_b1, e5, opd_valX, obind_some, e6, opt_some, fl_ok, thenF_rt, end_rt0, Bool.false_eq_true, if_false]
set_option Elab.async false
set_option linter.all false
set_option maxRecDepth 100000
set_option maxHeartbeats 4000000
open PySem PySem.W PyProof.Rows
theorem f_fields_bad (n : Nat) (v : PyData) (h : PhU (n + 7) 6 [v] = .ok (.bool false, .none)) : PhU (n + 8) 7 [v] = .exc "InvalidFields" v := by
  show runD gt (PhU (n + 7)) rf kp 0 D_check_fields [v] = _
  rw [runD_eq rfl rfl]
  simp_arith [D_check_fields, h]
theorem f_prices_exc (n : Nat) (v p : PyData) (h : PhU (n + 9) 7 [v] = .exc "InvalidFields" v) : PhU (n + 10) 52 [v, p] = .exc "InvalidFields" v := by
  show runD gt (PhU (n + 9)) rf kp 0 D_is_prices [v, p] = _
  rw [runD_eq rfl rfl]
  simp_arith [D_is_prices, h]
theorem f_chkp_exc (n : Nat) (v p : PyData) (h : PhU (n + 10) 52 [v, p] = .exc "InvalidFields" v) : PhU (n + 11) 53 [v, p] = .exc "InvalidFields" v := by
  show runD gt (PhU (n + 10)) rf kp 0 D_check_prices [v, p] = _
  rw [runD_eq rfl rfl]
  simp_arith [D_check_prices, h]
/-! ### the doors -/
theorem f_btw_p (n : Nat) (a0 a1 a2 a3 v : PyData) (c : Str) (h : PhU (n + 11) 53 [a0, a1] = .exc c v) : PhU (n + 12) 56 [a0, a1, a2, a3] = .exc c v := by
  show runD gt (PhU (n + 11)) rf kp 0 D_price_between [a0, a1, a2, a3] = _
  rw [runD_eq rfl rfl]
  simp_arith [D_price_between, h]
theorem f_btw_1 (n : Nat) (a0 a1 a2 a3 v : PyData) (c : Str) (h1 : PhU (n + 11) 53 [a0, a1] = .ok (.none, .none)) (h : PhU (n + 11) 10 [a0, a2] = .exc c v) : PhU (n + 12) 56 [a0, a1, a2, a3] = .exc c v := by
  show runD gt (PhU (n + 11)) rf kp 0 D_price_between [a0, a1, a2, a3] = _
  rw [runD_eq rfl rfl]
  simp_arith [D_price_between, h1, h]
theorem f_btw_2 (n : Nat) (a0 a1 a2 a3 v : PyData) (c : Str) (h1 : PhU (n + 11) 53 [a0, a1] = .ok (.none, .none)) (h2 : PhU (n + 11) 10 [a0, a2] = .ok (.none, .none)) (h : PhU (n + 11) 10 [a0, a3] = .exc c v) : PhU (n + 12) 56 [a0, a1, a2, a3] = .exc c v := by
  show runD gt (PhU (n + 11)) rf kp 0 D_price_between [a0, a1, a2, a3] = _
  rw [runD_eq rfl rfl]
  simp_arith [D_price_between, h1, h2, h]
theorem f_btw (n : Nat) (a0 a1 a2 a3 : PyData) (r : PyData) (h1 : PhU (n + 11) 53 [a0, a1] = .ok (.none, .none)) (h2 : PhU (n + 11) 10 [a0, a2] = .ok (.none, .none)) (h3 : PhU (n + 11) 10 [a0, a3] = .ok (.none, .none)) (h : PhU (n + 11) 55 [a0, a1, a2, a3] = .ok (r, .none)) : PhU (n + 12) 56 [a0, a1, a2, a3] = .ok (r, .none) := by
  show runD gt (PhU (n + 11)) rf kp 0 D_price_between [a0, a1, a2, a3] = _
  rw [runD_eq rfl rfl]
  simp_arith [D_price_between, h1, h2, h3, h]
/-- what check_priced tells -/
theorem f_priced (n : Nat) (a0 a1 a2 a3 v : PyData) (c : Str)
    (h : PhU (n + 11) 7 [a0] = .exc c v ∨ (PhU (n + 11) 7 [a0] = .ok (.none, .none) ∧ (PhU (n + 11) 26 [a0, a1] = .exc c v ∨ (PhU (n + 11) 26 [a0, a1] = .ok (.none, .none) ∧ (PhU (n + 11) 53 [a0, a2] = .exc c v ∨ (PhU (n + 11) 53 [a0, a2] = .ok (.none, .none) ∧ PhU (n + 11) 10 [a0, a3] = .exc c v)))))) : PhU (n + 12) 62 [a0, a1, a2, a3] = .exc c v := by
  show runD gt (PhU (n + 11)) rf kp 0 D_check_priced [a0, a1, a2, a3] = _
  rw [runD_eq rfl rfl]
  rcases h with h | ⟨h1, h | ⟨h2, h | ⟨h3, h⟩⟩⟩
  · simp_arith [D_check_priced, h]
  · simp_arith [D_check_priced, h1, h]
  · simp_arith [D_check_priced, h1, h2, h]
  · simp_arith [D_check_priced, h1, h2, h3, h]
theorem f_way (n : Nat) (a0 a1 a2 a3 v : PyData) (c : Str) (h : PhU (n + 12) 62 [a0, a1, a2, a3] = .exc c v) : PhU (n + 13) 63 [a0, a1, a2, a3] = .exc c v ∧ PhU (n + 13) 64 [a0, a1, a2, a3] = .exc c v := by
  constructor
  · show runD gt (PhU (n + 12)) rf kp 0 D_cheapest_way [a0, a1, a2, a3] = _
    rw [runD_eq rfl rfl]
    simp_arith [D_cheapest_way, h]
  · show runD gt (PhU (n + 12)) rf kp 0 D_prices_by_box [a0, a1, a2, a3] = _
    rw [runD_eq rfl rfl]
    simp_arith [D_prices_by_box, h]
/-- no fields: refused as such -/
theorem f_nofields (n : Nat) (v p : PyData) (hs : Sh v) (h : PhU n 52 [v, p] = .exc "InvalidFields" v) : PhU (n + 1) 82 [v, p] = .ok (.bool true, .none) := by
  show runD gt (PhU n) rf kp 0 D__law_no_fields [v, p] = _
  rw [runD_eq rfl rfl]
  have ht : evT gt (PhU n) rf kp (.call 52 [(.v 0), (.v 1)]) [.val v, .val p, .val .none, .no] = .exc "InvalidFields" v := by
    simp_arith [evT_call, hideD, Slot.isOwn, h]
  have e1 := tryF_hold (d := v) (ρ := [.val v, .val p, .val .none, .no]) (n := 3) (i := 2) (kd_mem .f) (kd_sub .f)
  have e2 : ev gt (PhU n) rf kp (.isX 2 "InvalidFields" cs4) [.val v, .val p, .exc "InvalidFields" v, .no] = .ok (.bool true, [.val v, .val p, .exc "InvalidFields" v, .no]) := by kernel_rfl
  have e3 : ev gt (PhU n) rf kp (.valX 2 cs4) [.val v, .val p, .exc "InvalidFields" v, .no] = .ok (v, [.val v, .val p, .exc "InvalidFields" v, .no]) := by kernel_rfl
  have e4 := repr_ok hs
  rw [D__law_no_fields]
  simp only [execs_cons, exec_asg, exec_try, ev_k, fl_ok, thenF_nx, List.map_cons, List.map_nil, List.cons_append, List.nil_append, List.replicate, List.set_cons_zero, List.set_cons_succ, ht]
  rw [show tryF (.exc "InvalidFields" v) [.val v, .val p, .val .none, .no] "OfficeError" cs4 3 2 = .nx [.val v, .val p, .exc "InvalidFields" v, .no] from e1]
  simp only [thenF_nx, execs_cons, exec_ret, ev_andL, evAnd, e2, ok_bind, PyData.truthy, if_true, ev_cmp, ev_b1, e3, opd_valX, obind_some, e4, opt_some, ev_v, getV, List.getElem?_cons_zero, opd_v, two, opd_b1, cmp_eq_str, omap_some, fl_ok, thenF_rt, end_rt0, decide_true, eq_self_iff_true]
set_option Elab.async false
set_option linter.all false
set_option maxRecDepth 100000
set_option maxHeartbeats 4000000
open PySem PySem.W PyProof.Rows
abbrev Rw : Type := Str × Option (List Str)
def rA : Rw := ("a", some ["x", "y"])
def rB : Rw := ("b", none)
def rC : Rw := ("c", some ["p", "q", "r"])
def rD : Rw := ("d", none)
def bookD (rs : List Rw) : PyData := .tuple [.str "fields", .list (rs.map rowD)]
def books : List (List Rw) := [[rA], [rB], [rC], [rD], [rA, rB], [rA, rC], [rA, rD], [rB, rC], [rB, rD], [rC, rD], [rA, rB, rC], [rA, rB, rD], [rA, rC, rD], [rB, rC, rD]]
theorem bk_chk (n : Nat) : (books.map fun rs => PhU (n + 8) 7 [bookD rs]) = books.map fun _ => .ok (.none, .none) := by kernel_rfl
theorem bk_nam (n : Nat) : (books.map fun rs => PhU (n + 2) 50 [bookD rs]) = books.map fun rs => .ok (.list ((rs.map (·.1)).map .str), .none) := by kernel_rfl
theorem bk_nam2 (n : Nat) : (books.map fun rs => PhU (n + 2) 76 [bookD rs]) = books.map fun rs => .ok (.list ((rs.map (·.1)).map .str), .none) := by kernel_rfl
theorem map_at {α β : Type} {f g : α → β} : ∀ {l : List α}, l.map f = l.map g → ∀ x ∈ l, f x = g x
  | y :: l, h, x, m => by
    rw [List.map_cons, List.map_cons] at h
    obtain ⟨h1, h2⟩ := List.cons.inj h
    rcases List.mem_cons.mp m with rfl | m
    · exact h1
    · exact map_at h2 x m
theorem bk_ok {rs : List Rw} (m : rs ∈ books) : Bk (bookD rs) (rs.map (·.1)) (rs.map rowD) where
  eq := rfl
  len := by simp
  few := by
    have h : books.all (fun rs => decide ((rs.map (·.1)).length ≤ 3)) = true := by decide +kernel
    exact of_decide_eq_true (List.all_eq_true.mp h rs m)
  chk n := map_at (bk_chk n) rs m
  nam n := map_at (bk_nam n) rs m
  nam2 n := map_at (bk_nam2 n) rs m
/-- prices of a book: a pair of whole numbers from 0 for each name -/
abbrev Pp : Type := List (Nat × Nat)
def kvsD (rs : List Rw) (ps : Pp) : List (PyData × PyData) := (rs.zip ps).map fun q => (.str q.1.1, .tuple [.int (Int.ofNat q.2.1), .int (Int.ofNat q.2.2)])
set_option Elab.async false
set_option linter.all false
set_option maxRecDepth 100000
set_option maxHeartbeats 4000000
open PySem PySem.W PyProof.Rows
def dd (l : List PyData) : PyData := match pairsX l with
  | some o => .dict o
  | none => .none
def one1 : PyData := .tuple [.int 1, .int 1]
def odds : List PyData := [.none, .tuple [.int 1], .tuple [.int 1, .int 1, .int 1], .list [.int 1, .int 1], .tuple [.int (0 - 1), .int 1], .tuple [.int 1, .int (0 - 1)], .tuple [.bool true, .int 1], .tuple [.int 1, .none], .tuple [.str "1", .int 1], .int 1, .tuple [.int 1, .bool false], .dict []]
def badN (nm : Str) : List PyData := [.str "zz", .str "", .str (nm ++ "0"), .str (Txt.upper nm), .none, .int 7, .tuple [.str nm]]
def itsL (kvs : List (PyData × PyData)) : List PyData := kvs.map fun q => .tuple [q.1, q.2]
def priceOf (kvs : List (PyData × PyData)) (nm : Str) : PyData := (look (.str nm) kvs).getD .none
def badsL (ns : List Str) (kvs : List (PyData × PyData)) : List PyData :=
  [.none, .list [], .dict [], .list (kvs.map (·.1)), .str "prices", .int 7, .tuple [], dd (itsL kvs ++ [.tuple [.str "zz", one1]]), dd ((itsL kvs).drop 1), dd (itsL kvs ++ [.tuple [.int 7, one1]])] ++
  (odds.flatMap fun odd => ns.map fun nm => dd (itsL kvs ++ [.tuple [.str nm, odd]])) ++
  ns.flatMap fun nm => (badN nm).map fun odd => dd (((ns.filter fun o => decide (o ≠ nm)).map fun o => .tuple [.str o, priceOf kvs o]) ++ [.tuple [odd, priceOf kvs nm]])
def nsD (rs : List Rw) : List Str := rs.map (·.1)
def books1 : List (List Rw) := books.take 4
def books2 : List (List Rw) := (books.drop 4).take 6
def books3 : List (List Rw) := books.drop 10
theorem bads1 (n a b : Nat) : (books1.map fun rs => PhU (n + 5) 79 [bookD rs, .dict (kvsD rs [(a, b)])]) = books1.map fun rs => .ok (.list (badsL (nsD rs) (kvsD rs [(a, b)])), .none) := by kernel_rfl
theorem bads2 (n a b c d : Nat) : (books2.map fun rs => PhU (n + 5) 79 [bookD rs, .dict (kvsD rs [(a, b), (c, d)])]) = books2.map fun rs => .ok (.list (badsL (nsD rs) (kvsD rs [(a, b), (c, d)])), .none) := by kernel_rfl
theorem bads3 (n a b c d e f : Nat) : (books3.map fun rs => PhU (n + 5) 79 [bookD rs, .dict (kvsD rs [(a, b), (c, d), (e, f)])]) = books3.map fun rs => .ok (.list (badsL (nsD rs) (kvsD rs [(a, b), (c, d), (e, f)])), .none) := by kernel_rfl
/-- no prices, by their look -/
def noP (ns : List Str) : PyData → Bool
  | .dict k => !ipB ns k && decide (k.length ≤ 100)
  | _ => true
theorem nop1 (a b : Nat) : (books1.all fun rs => (badsL (nsD rs) (kvsD rs [(a, b)])).all (noP (nsD rs))) = true := by kernel_rfl
theorem nop2 (a b c d : Nat) : (books2.all fun rs => (badsL (nsD rs) (kvsD rs [(a, b), (c, d)])).all (noP (nsD rs))) = true := by kernel_rfl
theorem nop3 (a b c d e f : Nat) : (books3.all fun rs => (badsL (nsD rs) (kvsD rs [(a, b), (c, d), (e, f)])).all (noP (nsD rs))) = true := by kernel_rfl
set_option Elab.async false
set_option linter.all false
set_option maxRecDepth 100000
set_option maxHeartbeats 4000000
open PySem PySem.W PyProof.Rows
def LS (v : PyData) : Prop := v.leavesShort 13 = true ∧ v.showable = true
theorem ls_allA : ∀ {l : List PyData}, PyData.leavesShortAll 13 l = true ↔ ∀ x ∈ l, x.leavesShort 13 = true
  | [] => by simp [PyData.leavesShortAll]
  | x :: l => by rw [PyData.leavesShortAll, Bool.and_eq_true, ls_allA, List.forall_mem_cons]
theorem ls_kvA : ∀ {l : List (PyData × PyData)}, PyData.leavesShortKv 13 l = true ↔ ∀ q ∈ l, q.1.leavesShort 13 = true ∧ q.2.leavesShort 13 = true
  | [] => by simp [PyData.leavesShortKv]
  | (k, v) :: l => by rw [PyData.leavesShortKv, Bool.and_eq_true, Bool.and_eq_true, ls_kvA, List.forall_mem_cons]
theorem ls_allB : ∀ {l : List PyData}, PyData.showableAll l = true ↔ ∀ x ∈ l, x.showable = true
  | [] => by simp [PyData.showableAll]
  | x :: l => by rw [PyData.showableAll, Bool.and_eq_true, ls_allB, List.forall_mem_cons]
theorem ls_kvB : ∀ {l : List (PyData × PyData)}, PyData.showableKv l = true ↔ ∀ q ∈ l, q.1.showable = true ∧ q.2.showable = true
  | [] => by simp [PyData.showableKv]
  | (k, v) :: l => by rw [PyData.showableKv, Bool.and_eq_true, Bool.and_eq_true, ls_kvB, List.forall_mem_cons]
theorem ls_list {l : List PyData} : LS (.list l) ↔ ∀ x ∈ l, LS x := by
  show (PyData.leavesShortAll 13 l = true ∧ PyData.showableAll l = true) ↔ _
  rw [ls_allA, ls_allB]
  exact ⟨fun h x m => ⟨h.1 x m, h.2 x m⟩, fun h => ⟨fun x m => (h x m).1, fun x m => (h x m).2⟩⟩
theorem ls_tup {l : List PyData} : LS (.tuple l) ↔ ∀ x ∈ l, LS x := ls_list
theorem ls_dict {l : List (PyData × PyData)} : LS (.dict l) ↔ ∀ q ∈ l, LS q.1 ∧ LS q.2 := by
  show (PyData.leavesShortKv 13 l = true ∧ PyData.showableKv l = true) ↔ _
  rw [ls_kvA, ls_kvB]
  exact ⟨fun h x m => ⟨⟨(h.1 x m).1, (h.2 x m).1⟩, (h.1 x m).2, (h.2 x m).2⟩, fun h => ⟨fun x m => ⟨(h x m).1.1, (h x m).2.1⟩, fun x m => ⟨(h x m).1.2, (h x m).2.2⟩⟩⟩
theorem ls_pair {k v : PyData} : LS (.tuple [k, v]) ↔ LS k ∧ LS v := by
  rw [ls_tup]
  simp
theorem ls_put {k v : PyData} {l : List (PyData × PyData)} (hk : LS k) (hv : LS v) (h : ∀ q ∈ l, LS q.1 ∧ LS q.2) : ∀ q ∈ put k v l, LS q.1 ∧ LS q.2 := by
  intro q m
  unfold put at m
  split at m
  · obtain ⟨z, mz, rfl⟩ := List.mem_map.mp m
    split
    · exact ⟨(h z mz).1, hv⟩
    · exact h z mz
  · rcases List.mem_append.mp m with m | m
    · exact h q m
    · rw [List.mem_singleton.mp m]
      exact ⟨hk, hv⟩
theorem ls_pairsD : ∀ {l : List PyData} {acc o : List (PyData × PyData)}, (∀ x ∈ l, LS x) → (∀ q ∈ acc, LS q.1 ∧ LS q.2) → pairsD l acc = some o → ∀ q ∈ o, LS q.1 ∧ LS q.2
  | [], acc, o, _, ha, e => by
    cases e
    exact ha
  | x :: l, acc, o, hl, ha, e => by
    have hx := hl x List.mem_cons_self
    unfold pairsD at e
    split at e
    · rename_i z _ _ hz; cases hz
    · rename_i k v r z hz
      cases hz
      split at e
      · obtain ⟨h1, h2⟩ := ls_pair.mp hx
        exact ls_pairsD (fun y m => hl y (List.mem_cons_of_mem _ m)) (ls_put h1 h2 ha) e
      · cases e
    · cases e
theorem ls_dd {l : List PyData} (hl : ∀ x ∈ l, LS x) : LS (dd l) := by
  unfold dd
  cases e : pairsX l with
  | none => exact ⟨rfl, rfl⟩
  | some o =>
    refine ls_dict.mpr ?_
    unfold pairsX at e
    cases e1 : pairsD l [] with
    | some o1 =>
      rw [e1] at e
      cases e
      exact ls_pairsD hl (fun _ m => by cases m) e1
    | none =>
      rw [e1] at e
      dsimp only at e
      split at e
      · rename_i k v hg
        split at e
        · obtain ⟨o2, e2, rfl⟩ := Option.map_eq_some_iff.mp e
          have hm := List.mem_of_getLast? hg
          obtain ⟨h1, h2⟩ := ls_pair.mp (hl _ hm)
          intro q m
          rcases List.mem_append.mp m with m | m
          · exact ls_pairsD (fun y m => hl y (List.dropLast_subset _ m)) (fun _ m => by cases m) e2 q m
          · rw [List.mem_singleton.mp m]
            exact ⟨h1, h2⟩
        · cases e
      · cases e
theorem ls_odds : ∀ x ∈ odds, LS x := ls_list.mp ⟨by decide +kernel, by decide +kernel⟩
theorem ls_its {kvs : List (PyData × PyData)} (h : ∀ q ∈ kvs, LS q.1 ∧ LS q.2) : ∀ x ∈ itsL kvs, LS x := fun x m => by
  obtain ⟨q, mq, rfl⟩ := List.mem_map.mp m
  exact ls_pair.mpr (h q mq)
theorem ls_price {kvs : List (PyData × PyData)} (h : ∀ q ∈ kvs, LS q.1 ∧ LS q.2) (nm : Str) : LS (priceOf kvs nm) := by
  unfold priceOf look
  cases e : kvs.find? fun q => keyEq q.1 (.str nm) with
  | none => exact ⟨rfl, rfl⟩
  | some q => exact (h q (List.mem_of_find?_eq_some e)).2
theorem ls_bads {ns : List Str} {kvs : List (PyData × PyData)} (h : ∀ q ∈ kvs, LS q.1 ∧ LS q.2) (hn : ∀ nm ∈ ns, ∀ x ∈ .str nm :: badN nm, LS x) : ∀ v ∈ badsL ns kvs, LS v := by
  have app : ∀ {l : List PyData} {x : PyData}, (∀ y ∈ l, LS y) → LS x → ∀ y ∈ l ++ [x], LS y := fun hl hx y m => by
    rcases List.mem_append.mp m with m | m
    · exact hl y m
    · rw [List.mem_singleton.mp m]; exact hx
  intro v m
  unfold badsL at m
  rcases List.mem_append.mp m with m | m
  · rcases List.mem_append.mp m with m | m
    · simp only [List.mem_cons, List.not_mem_nil, or_false] at m
      rcases m with rfl | rfl | rfl | rfl | rfl | rfl | rfl | rfl | rfl | rfl
      · exact ⟨rfl, rfl⟩
      · exact ⟨rfl, rfl⟩
      · exact ⟨rfl, rfl⟩
      · exact ls_list.mpr fun x m => by
          obtain ⟨q, mq, rfl⟩ := List.mem_map.mp m
          exact (h q mq).1
      · exact ⟨by decide +kernel, by decide +kernel⟩
      · exact ⟨by decide +kernel, by decide +kernel⟩
      · exact ⟨rfl, rfl⟩
      · exact ls_dd (app (ls_its h) ⟨by decide +kernel, by decide +kernel⟩)
      · exact ls_dd fun x m => ls_its h x (List.mem_of_mem_drop m)
      · exact ls_dd (app (ls_its h) ⟨by decide +kernel, by decide +kernel⟩)
    · obtain ⟨odd, mo, m⟩ := List.mem_flatMap.mp m
      obtain ⟨nm, mn, rfl⟩ := List.mem_map.mp m
      exact ls_dd (app (ls_its h) (ls_pair.mpr ⟨hn nm mn _ List.mem_cons_self, ls_odds odd mo⟩))
  · obtain ⟨nm, mn, m⟩ := List.mem_flatMap.mp m
    obtain ⟨odd, mo, rfl⟩ := List.mem_map.mp m
    refine ls_dd (app (fun y m => ?_) (ls_pair.mpr ⟨hn nm mn odd (List.mem_cons_of_mem _ mo), ls_price h nm⟩))
    obtain ⟨o, mo, rfl⟩ := List.mem_map.mp m
    exact ls_pair.mpr ⟨hn o ((List.mem_filter.mp mo).1) _ List.mem_cons_self, ls_price h o⟩
set_option Elab.async false
set_option linter.all false
set_option maxRecDepth 100000
set_option maxHeartbeats 4000000
open PySem PySem.W PyProof.Rows
def shB (v : PyData) : Bool := decide (v.depth ≤ 60) && decide (v.bulk ≤ 2 ^ 20)
theorem sh_of {v : PyData} (h : LS v) (b : shB v = true) : Sh v := by
  unfold shB at b
  obtain ⟨b2, b3⟩ := and2 b
  exact ⟨h.2, of_decide_eq_true b2, PyData.shown_fits_bulk (B := 13) (by decide) (by decide) h.1 (of_decide_eq_true b3)⟩
theorem shb1 (a b : Nat) : (books1.all fun rs => (badsL (nsD rs) (kvsD rs [(a, b)])).all shB) = true := by kernel_rfl
theorem shb2 (a b c d : Nat) : (books2.all fun rs => (badsL (nsD rs) (kvsD rs [(a, b), (c, d)])).all shB) = true := by kernel_rfl
theorem shb3 (a b c d e f : Nat) : (books3.all fun rs => (badsL (nsD rs) (kvsD rs [(a, b), (c, d), (e, f)])).all shB) = true := by kernel_rfl
/-- a book, prices of it -/
structure Pz (rs : List Rw) (ps : Pp) : Prop where
  mem : rs ∈ books
  len : ps.length = rs.length
  sm : ∀ p ∈ ps, p.1 < 10 ^ 12 ∧ p.2 < 10 ^ 12
theorem ls_nat {a : Nat} (h : a < 10 ^ 12) : LS (.int (Int.ofNat a)) := by
  refine ⟨decide_eq_true (PyData.shown_int_le (by simpa using h)), decide_eq_true ?_⟩
  show a.log2 < 1920
  by_cases h0 : a = 0
  · rw [h0]; decide
  · exact (Nat.log2_lt h0).mpr (Nat.lt_of_lt_of_le h (by decide +kernel))
theorem ls_names : (books.all fun rs => (nsD rs).all fun nm => (PyData.str nm :: badN nm).all fun v => v.leavesShort 13 && v.showable) = true := by decide +kernel
variable {rs : List Rw} {ps : Pp}
theorem Pz.ls (Z : Pz rs ps) : ∀ q ∈ kvsD rs ps, LS q.1 ∧ LS q.2 := fun q m => by
  obtain ⟨z, mz, rfl⟩ := List.mem_map.mp m
  have m1 := (List.of_mem_zip mz).1
  have m2 := Z.sm _ (List.of_mem_zip mz).2
  have h := List.all_eq_true.mp (List.all_eq_true.mp ls_names rs Z.mem) z.1.1 (List.mem_map.mpr ⟨_, m1, rfl⟩)
  exact ⟨and2 (List.all_eq_true.mp h _ List.mem_cons_self), ls_pair.mpr ⟨ls_nat m2.1, ls_nat m2.2⟩⟩
theorem Pz.lsb (Z : Pz rs ps) : ∀ v ∈ badsL (nsD rs) (kvsD rs ps), LS v := ls_bads Z.ls fun nm m x mx => by
  have h := List.all_eq_true.mp (List.all_eq_true.mp ls_names rs Z.mem) nm m
  exact and2 (List.all_eq_true.mp h _ mx)
theorem in1 : (books.all fun rs => decide (rs.length = 1 → rs ∈ books1) && (decide (rs.length = 2 → rs ∈ books2) && (decide (rs.length = 3 → rs ∈ books3) && (decide (1 ≤ rs.length) && decide (rs.length ≤ 3))))) = true := by decide +kernel
/-- by the number of fields -/
theorem Pz.three (Z : Pz rs ps) : (∃ a b, ps = [(a, b)] ∧ rs ∈ books1) ∨ (∃ a b c d, ps = [(a, b), (c, d)] ∧ rs ∈ books2) ∨ ∃ a b c d e f, ps = [(a, b), (c, d), (e, f)] ∧ rs ∈ books3 := by
  have h := List.all_eq_true.mp in1 rs Z.mem
  obtain ⟨h1, h⟩ := and2 h
  obtain ⟨h2, h⟩ := and2 h
  obtain ⟨h3, h⟩ := and2 h
  obtain ⟨h4, h5⟩ := and2 h
  have h4 := of_decide_eq_true h4
  have h5 := of_decide_eq_true h5
  have hl := Z.len
  match ps, hl with
  | [], hl => simp at hl; omega
  | [(a, b)], hl => exact .inl ⟨a, b, rfl, of_decide_eq_true h1 (by simpa using hl.symm)⟩
  | [(a, b), (c, d)], hl => exact .inr (.inl ⟨a, b, c, d, rfl, of_decide_eq_true h2 (by simpa using hl.symm)⟩)
  | [(a, b), (c, d), (e, f)], hl => exact .inr (.inr ⟨a, b, c, d, e, f, rfl, of_decide_eq_true h3 (by simpa using hl.symm)⟩)
  | _ :: _ :: _ :: _ :: _, hl => simp at hl; omega
theorem Pz.bads (Z : Pz rs ps) (n : Nat) : PhU (n + 5) 79 [bookD rs, .dict (kvsD rs ps)] = .ok (.list (badsL (nsD rs) (kvsD rs ps)), .none) := by
  rcases Z.three with ⟨a, b, rfl, m⟩ | ⟨a, b, c, d, rfl, m⟩ | ⟨a, b, c, d, e, f, rfl, m⟩
  · exact map_at (bads1 n a b) rs m
  · exact map_at (bads2 n a b c d) rs m
  · exact map_at (bads3 n a b c d e f) rs m
theorem Pz.sh (Z : Pz rs ps) : ∀ v ∈ badsL (nsD rs) (kvsD rs ps), Sh v := fun v mv => by
  refine sh_of (Z.lsb v mv) ?_
  rcases Z.three with ⟨a, b, rfl, m⟩ | ⟨a, b, c, d, rfl, m⟩ | ⟨a, b, c, d, e, f, rfl, m⟩
  · exact List.all_eq_true.mp (List.all_eq_true.mp (shb1 a b) rs m) v mv
  · exact List.all_eq_true.mp (List.all_eq_true.mp (shb2 a b c d) rs m) v mv
  · exact List.all_eq_true.mp (List.all_eq_true.mp (shb3 a b c d e f) rs m) v mv
theorem Pz.no (Z : Pz rs ps) (n : Nat) : ∀ v ∈ badsL (nsD rs) (kvsD rs ps), PhU (n + 10) 52 [bookD rs, v] = .ok (.bool false, .none) := fun v mv => by
  have h : noP (nsD rs) v = true := by
    rcases Z.three with ⟨a, b, rfl, m⟩ | ⟨a, b, c, d, rfl, m⟩ | ⟨a, b, c, d, e, f, rfl, m⟩
    · exact List.all_eq_true.mp (List.all_eq_true.mp (nop1 a b) rs m) v mv
    · exact List.all_eq_true.mp (List.all_eq_true.mp (nop2 a b c d) rs m) v mv
    · exact List.all_eq_true.mp (List.all_eq_true.mp (nop3 a b c d e f) rs m) v mv
  cases v with
  | dict k =>
    obtain ⟨h1, h2⟩ := and2 h
    have e := f_prices (bk_ok Z.mem) n k (by have := of_decide_eq_true h2; rw [sizeLine_eq]; omega)
    rw [e]
    have h1 : ipB (nsD rs) k = false := by simpa using h1
    rw [show rs.map (·.1) = nsD rs from rfl, h1]
  | _ => exact f_prices_no (bk_ok Z.mem) n _ fun k z => by cases z
theorem ipb1 (a b : Nat) : (books1.all fun rs => ipB (nsD rs) (kvsD rs [(a, b)]) && ipB (nsD rs) (kvsD rs [(a, b)]).reverse) = true := by kernel_rfl
theorem ipb2 (a b c d : Nat) : (books2.all fun rs => ipB (nsD rs) (kvsD rs [(a, b), (c, d)]) && ipB (nsD rs) (kvsD rs [(a, b), (c, d)]).reverse) = true := by kernel_rfl
theorem ipb3 (a b c d e f : Nat) : (books3.all fun rs => ipB (nsD rs) (kvsD rs [(a, b), (c, d), (e, f)]) && ipB (nsD rs) (kvsD rs [(a, b), (c, d), (e, f)]).reverse) = true := by kernel_rfl
theorem Pz.yes (Z : Pz rs ps) : ipB (nsD rs) (kvsD rs ps) = true ∧ ipB (nsD rs) (kvsD rs ps).reverse = true := by
  rcases Z.three with ⟨a, b, rfl, m⟩ | ⟨a, b, c, d, rfl, m⟩ | ⟨a, b, c, d, e, f, rfl, m⟩
  · exact and2 (List.all_eq_true.mp (ipb1 a b) rs m)
  · exact and2 (List.all_eq_true.mp (ipb2 a b c d) rs m)
  · exact and2 (List.all_eq_true.mp (ipb3 a b c d e f) rs m)
set_option Elab.async false
set_option linter.all false
set_option maxRecDepth 100000
set_option maxHeartbeats 4000000
open PySem PySem.W PyProof.Rows
theorem mul_ok2 {a b : Int} (h : b.natAbs < 2 ^ 64) : binD .mul (.int a) (.int b) = some (.int (a * b)) := if_pos (.inr h)
theorem mod_ok {a b : Int} (h : 0 < b) : binD .mod (.int a) (.int b) = some (.int (a % b)) := if_pos h
theorem fdiv_ok {a b : Int} (h : 0 < b) (h2 : b < 1073741824) : binD .fdiv (.int a) (.int b) = some (.int (a / b)) := if_pos ⟨h, h2⟩
def hashI (s i : Int) : Int :=
  let m := (s * 1140671 + 27644437 * i * i + 131 * i + 19) % 2147483629
  (m * m + 62089 * i + 32416187) % 2147483587 * 48271 % 2147483647
theorem f_hash (n : Nat) (s i : Int) (h0 : 0 ≤ i) (h1 : i < 2 ^ 38) : ∃ h, PhU (n + 1) 65 [.int s, .int i] = .ok (.int h, .none) ∧ 0 ≤ h ∧ h < 2147483647 := by
  have e1 : binD .mul (.int s) (.int 1140671) = some (.int (s * 1140671)) := mul_ok2 (by decide)
  have e2 : binD .mul (.int 27644437) (.int i) = some (.int (27644437 * i)) := mul_ok (by decide)
  have e3 : binD .mul (.int (27644437 * i)) (.int i) = some (.int (27644437 * i * i)) := mul_ok (by omega)
  have e4 : binD .mul (.int 131) (.int i) = some (.int (131 * i)) := mul_ok (by decide)
  have e5 : ∀ m : Int, binD .mul (.int (m % 2147483629)) (.int (m % 2147483629)) = some (.int (m % 2147483629 * (m % 2147483629))) := fun m => mul_ok (by omega)
  have e6 : binD .mul (.int 62089) (.int i) = some (.int (62089 * i)) := mul_ok (by decide)
  have e7 : ∀ m : Int, binD .mul (.int m) (.int 48271) = some (.int (m * 48271)) := fun m => mul_ok2 (by decide)
  have m1 : ∀ m : Int, binD .mod (.int m) (.int 2147483629) = some (.int (m % 2147483629)) := fun m => mod_ok (by decide)
  have m2 : ∀ m : Int, binD .mod (.int m) (.int 2147483587) = some (.int (m % 2147483587)) := fun m => mod_ok (by decide)
  have m3 : ∀ m : Int, binD .mod (.int m) (.int 2147483647) = some (.int (m % 2147483647)) := fun m => mod_ok (by decide)
  refine ⟨hashI s i, ?_, Int.emod_nonneg _ (by decide), Int.emod_lt_of_pos _ (by decide)⟩
  show runD gt (PhU n) rf kp 0 D__law_hash [.int s, .int i] = _
  rw [runD_eq rfl rfl]
  simp_arith [D__law_hash, e1, e2, e3, e4, e5, e6, e7, m1, m2, m3, hashI]
/-- the draws' state -/
structure Gd (b : Nat) (g : List PyData) : Prop where
  ex : ∃ g0 g1 g2 : Int, g = [.int g0, .int g1, .int g2] ∧ 0 ≤ g0 ∧ 0 ≤ g2 ∧ g2 ≤ b
theorem Gd.mono {b c : Nat} {g : List PyData} (G : Gd b g) (h : b ≤ c) : Gd c g := by
  obtain ⟨g0, g1, g2, e, h0, h1, h2⟩ := G.ex
  exact ⟨g0, g1, g2, e, h0, h1, by omega⟩
theorem end_ref {d : PyData} {l : List PyData} {r : DEnv} : endF (.rt d (.own true l :: r)) (some 0) = .ok (d, .list l) := rfl
theorem seq32 : seqIx 3 2 = some 2 := rfl
theorem seq30 : seqIx 3 0 = some 0 := rfl
theorem bits_i (i : Int) : b1X .bits (.int i) = some (.int (Builtin.Int.intBits i : Nat)) := rfl
theorem evi_r1 {GT : List (Str × PyData)} {PsU : Nat → Fun} {RF : Refs} {KP : Nat → List Nat → List Nat} {a : E} {ρ ρ' : DEnv} {k : Int} (h : ev GT PsU RF KP a ρ = .ok (.int k, ρ')) (h1 : -(2 ^ 62) ≤ k) (h2 : k < 2 ^ 62) : evi GT PsU RF KP (.range1 a) ρ = .ok (rangeD 0 k.toNat, ρ') := by
  rw [evi, h, ok_bind]
  dsimp only
  rw [if_pos ⟨h1, h2⟩]
theorem hold_r1 {a : E} : holdOf (.range1 a) = none := rfl
theorem forF_ok {xs : List PyData} {ρ : DEnv} {step : PyData → DEnv → Fl} : forF (.ok (xs, ρ)) none step = forLoop step xs ρ := rfl
theorem f_random (n b : Nat) (hb : b < 2 ^ 37) {g : List PyData} (G : Gd b g) (m : Int) (h0 : 0 < m) (h1 : m < 1000) (hm : ((Builtin.Int.intBits m : Nat) : Int) / 30 = 0) :
    ∃ d g', PhU (n + 2) 66 [.list g, .int m] = .ok (.int d, .list g') ∧ 0 ≤ d ∧ d < m ∧ Gd (b + 1) g' := by
  obtain ⟨g0, g1, g2, rfl, p0, p2, p3⟩ := G.ex
  have f1 : ∀ x : Int, binD .mod (.int x) (.int m) = some (.int (x % m)) := fun x => mod_ok h0
  have f2 : ∀ x : Int, binD .fdiv (.int x) (.int m) = some (.int (x / m)) := fun x => fdiv_ok h0 (by omega)
  have f3 : ∀ x : Int, binD .fdiv (.int x) (.int 30) = some (.int (x / 30)) := fun x => fdiv_ok (by decide) (by decide)
  have f4 : binD .mul (.int 0) (.int 2147483587) = some (.int 0) := by
    have := mul_ok (a := 0) (b := 2147483587) (by decide)
    simpa using this
  by_cases hg : 0 < g0
  · refine ⟨g0 % m, [.int (g0 / m), .int g1, .int g2], ?_, Int.emod_nonneg _ (by omega), Int.emod_lt_of_pos _ h0, ⟨g0 / m, g1, g2, rfl, Int.ediv_nonneg p0 (by omega), p2, by omega⟩⟩
    show runD gt (PhU (n + 1)) rf kp 0 D__law_random [.list [.int g0, .int g1, .int g2], .int m] = _
    rw [runD_eq rfl rfl]
    simp_arith [D__law_random, hg, f1, f2, setAt, seq30, end_ref]
  · obtain ⟨h, eh, q1, q2⟩ := f_hash n g1 (g2 + 1) (by omega) (by omega)
    refine ⟨h % m, [.int g0, .int g1, .int (g2 + 1)], ?_, Int.emod_nonneg _ (by omega), Int.emod_lt_of_pos _ h0, ⟨g0, g1, g2 + 1, rfl, p0, by omega, by omega⟩⟩
    show runD gt (PhU (n + 1)) rf kp 0 D__law_random [.list [.int g0, .int g1, .int g2], .int m] = _
    rw [runD_eq rfl rfl]
    have hr : evi gt (PhU (n + 1)) rf kp (.range1 (.bin .add (.k (.int 1)) (.bin .fdiv (.b1 .bits (.v 1)) (.k (.int 30))))) [.own true [.int g0, .int g1, .int g2], .val (.int m), .val (.int 0), .no] = .ok ([.int 0], [.own true [.int g0, .int g1, .int g2], .val (.int m), .val (.int 0), .no]) := by
      have e1 : ev gt (PhU (n + 1)) rf kp (.bin .add (.k (.int 1)) (.bin .fdiv (.b1 .bits (.v 1)) (.k (.int 30)))) [.own true [.int g0, .int g1, .int g2], .val (.int m), .val (.int 0), .no] = .ok (.int 1, [.own true [.int g0, .int g1, .int g2], .val (.int m), .val (.int 0), .no]) := by
        simp_arith [f3, bits_i, hm]
      exact evi_r1 e1 (by decide) (by decide)
    have hstep : bodyF gt (PhU (n + 1)) rf kp 0 (.n 3) [.set 0 (.k (.int 2)) (.bin .add (.sub (.bor 0) (.k (.int 2))) (.k (.int 1))), .asg 2 (.bin .add (.bin .mul (.v 2) (.k (.int 2147483587))) (.call 65 [(.sub (.bor 0) (.k (.int 1))), (.sub (.bor 0) (.k (.int 2)))]))] (.int 0) [.own true [.int g0, .int g1, .int g2], .val (.int m), .val (.int 0), .no] = .nx [.own true [.int g0, .int g1, .int (g2 + 1)], .val (.int m), .val (.int h), .val (.int 0)] := by
      simp_arith [bodyF, bindT, setAt, seq32, f4, eh]
    have hloop : forLoop (bodyF gt (PhU (n + 1)) rf kp 0 (.n 3) [.set 0 (.k (.int 2)) (.bin .add (.sub (.bor 0) (.k (.int 2))) (.k (.int 1))), .asg 2 (.bin .add (.bin .mul (.v 2) (.k (.int 2147483587))) (.call 65 [(.sub (.bor 0) (.k (.int 1))), (.sub (.bor 0) (.k (.int 2)))]))]) [.int 0] [.own true [.int g0, .int g1, .int g2], .val (.int m), .val (.int 0), .no] = .nx [.own true [.int g0, .int g1, .int (g2 + 1)], .val (.int m), .val (.int h), .val (.int 0)] := by
      unfold forLoop
      rw [hstep]
      rfl
    have hite : exec gt (PhU (n + 1)) rf kp 0 (.ite (.cmp .gt (.sub (.bor 0) (.k (.int 0))) (.k (.int 0))) [.asg 2 (.bin .mod (.b1 .int (.sub (.bor 0) (.k (.int 0)))) (.v 1)), .set 0 (.k (.int 0)) (.bin .fdiv (.sub (.bor 0) (.k (.int 0))) (.v 1)), .ret (.v 2)] []) [.own true [.int g0, .int g1, .int g2], .val (.int m), .no, .no] = .nx [.own true [.int g0, .int g1, .int g2], .val (.int m), .no, .no] := by
      simp_arith [hg]
    have hfor : exec gt (PhU (n + 1)) rf kp 0 (.for (.n 3) (.range1 (.bin .add (.k (.int 1)) (.bin .fdiv (.b1 .bits (.v 1)) (.k (.int 30))))) [.set 0 (.k (.int 2)) (.bin .add (.sub (.bor 0) (.k (.int 2))) (.k (.int 1))), .asg 2 (.bin .add (.bin .mul (.v 2) (.k (.int 2147483587))) (.call 65 [(.sub (.bor 0) (.k (.int 1))), (.sub (.bor 0) (.k (.int 2)))]))]) [.own true [.int g0, .int g1, .int g2], .val (.int m), .val (.int 0), .no] = .nx [.own true [.int g0, .int g1, .int (g2 + 1)], .val (.int m), .val (.int h), .val (.int 0)] := by
      rw [exec_for, hr, hold_r1, forF_ok, hloop]
    show endF (execs gt (PhU (n + 1)) rf kp 0 (_ :: _ :: _ :: _) [.own true [.int g0, .int g1, .int g2], .val (.int m), .no, .no]) (some 0) = _
    rw [execs_cons, hite, thenF_nx, execs_cons]
    rw [show exec gt (PhU (n + 1)) rf kp 0 (.asg 2 (.k (.int 0))) [.own true [.int g0, .int g1, .int g2], .val (.int m), .no, .no] = .nx [.own true [.int g0, .int g1, .int g2], .val (.int m), .val (.int 0), .no] from rfl, thenF_nx, execs_cons, hfor, thenF_nx]
    simp_arith [f1, end_ref]
theorem f_pick (n b : Nat) (hb : b < 2 ^ 37) {g : List PyData} (G : Gd b g) (xs : List PyData) (h0 : 0 < xs.length) (h1 : xs.length < 1000) (hm : ((Builtin.Int.intBits (xs.length : Int) : Nat) : Int) / 30 = 0) :
    ∃ x g', x ∈ xs ∧ PhU (n + 3) 70 [.list g, .list xs] = .ok (x, .list g') ∧ Gd (b + 1) g' := by
  obtain ⟨d, g', e, q1, q2, G'⟩ := f_random n b hb G (xs.length : Int) (by omega) (by omega) hm
  have hd : d.toNat < xs.length := by omega
  have hs : subD (.list xs) (.int d) = some xs[d.toNat] := by
    have := sub_ln (l := xs) (j := d.toNat) (x := xs[d.toNat]) (List.getElem?_eq_getElem hd)
    rwa [Int.toNat_of_nonneg q1] at this
  refine ⟨xs[d.toNat], g', List.getElem_mem hd, ?_, G'⟩
  show runD gt (PhU (n + 2)) rf kp 0 D__law_pick [.list g, .list xs] = _
  rw [runD_eq rfl rfl]
  simp_arith [D__law_pick, refArg, List.eraseIdx, e, putBack, hs, end_ref]
set_option Elab.async false
set_option linter.all false
set_option maxRecDepth 100000
set_option maxHeartbeats 4000000
open PySem PySem.W PyProof.Rows
theorem pow_11 : binD .pow (.int 10) (.int 11) = some (.int 100000000000) := by kernel_rfl
theorem five {d : Int} (h0 : 0 ≤ d) (h1 : d < 5) : ∃ z : Int, subD (.list [.int 0, .int 0, .int 0, .int 0, .int 100000000000]) (.int d) = some (.int z) ∧ 0 ≤ z ∧ z ≤ 100000000000 := by
  have h : d = 0 ∨ d = 1 ∨ d = 2 ∨ d = 3 ∨ d = 4 := by omega
  rcases h with rfl | rfl | rfl | rfl | rfl
  · exact ⟨0, sub_ln (j := 0) rfl, by decide, by decide⟩
  · exact ⟨0, sub_ln (j := 1) rfl, by decide, by decide⟩
  · exact ⟨0, sub_ln (j := 2) rfl, by decide, by decide⟩
  · exact ⟨0, sub_ln (j := 3) rfl, by decide, by decide⟩
  · exact ⟨100000000000, sub_ln (j := 4) rfl, by decide, by decide⟩
theorem f_number (n b : Nat) (hb : b + 1 < 2 ^ 37) {g : List PyData} (G : Gd b g) : ∃ (k : Int) (g' : List PyData), PhU (n + 3) 72 [.list g] = .ok (.int k, .list g') ∧ k.natAbs < 10 ^ 12 ∧ Gd (b + 2) g' := by
  obtain ⟨d1, g1, e1, p1, p2, G1⟩ := f_random n b (by omega) G 9 (by decide) (by decide) (by decide +kernel)
  obtain ⟨d2, g2, e2, q1, q2, G2⟩ := f_random n (b + 1) hb G1 5 (by decide) (by decide) (by decide +kernel)
  obtain ⟨z, ez, z1, z2⟩ := five q1 q2
  refine ⟨d1 - 4 + z, g2, ?_, by omega, G2⟩
  show runD gt (PhU (n + 2)) rf kp 0 D__law_number [.list g] = _
  rw [runD_eq rfl rfl]
  simp_arith [D__law_number, refArg, List.eraseIdx, e1, e2, putBack, ez, pow_11, end_ref]
/-- a right value for a row -/
theorem f_value (n b : Nat) (hb : b + 3 < 2 ^ 37) {g : List PyData} (G : Gd b g) (vs : Option (List Str)) (hv : ∀ l, vs = some l → 0 < l.length ∧ l.length < 1000 ∧ ((Builtin.Int.intBits (l.length : Int) : Nat) : Int) / 30 = 0) :
    ∃ (v : PyData) (g' : List PyData), PhU (n + 4) 73 [.list g, vD vs] = .ok (v, .list g') ∧ ofRow vs v = true ∧ isV v = true ∧ (∀ k, v = .int k → k.natAbs < 10 ^ 12) ∧ Gd (b + 3) g' := by
  obtain ⟨d1, g1, e1, p1, p2, G1⟩ := f_random (n + 1) b (by omega) G 5 (by decide) (by decide) (by decide +kernel)
  by_cases hd : d1 = 0
  · subst hd
    refine ⟨.str "", g1, ?_, rfl, rfl, (fun k z => by cases z), G1.mono (by omega)⟩
    show runD gt (PhU (n + 3)) rf kp 0 D__law_value [.list g, vD vs] = _
    rw [runD_eq rfl rfl]
    simp_arith [D__law_value, refArg, List.eraseIdx, e1, putBack, end_ref]
  · cases vs with
    | none =>
      obtain ⟨k, g2, e2, hk, G2⟩ := f_number n (b + 1) (by omega) G1
      refine ⟨.int k, g2, ?_, rfl, rfl, (fun k' z => by cases z; exact hk), G2⟩
      show runD gt (PhU (n + 3)) rf kp 0 D__law_value [.list g, .none] = _
      rw [runD_eq rfl rfl]
      simp_arith [D__law_value, refArg, List.eraseIdx, e1, e2, putBack, hd, end_ref]
    | some l =>
      obtain ⟨h1, h2, h3⟩ := hv l rfl
      obtain ⟨x, g2, hx, e2, G2⟩ := f_pick n (b + 1) (by omega) G1 (l.map .str) (by simpa using h1) (by simpa using h2) (by simpa using h3)
      obtain ⟨y, my, rfl⟩ := List.mem_map.mp hx
      refine ⟨.str y, g2, ?_, by simp [ofRow, my], rfl, (fun k z => by cases z), G2.mono (by omega)⟩
      show runD gt (PhU (n + 3)) rf kp 0 D__law_value [.list g, .list (l.map .str)] = _
      rw [runD_eq rfl rfl]
      simp_arith [D__law_value, refArg, List.eraseIdx, e1, e2, putBack, hd, end_ref]
set_option Elab.async false
set_option linter.all false
set_option maxRecDepth 100000
set_option maxHeartbeats 4000000
open PySem PySem.W PyProof.Rows
/-- right values, row by row -/
def RightV : List Rw → List PyData → Prop
  | [], [] => True
  | r :: rs, v :: vs => ofRow r.2 v = true ∧ isV v = true ∧ (∀ k, v = .int k → k.natAbs < 10 ^ 12) ∧ RightV rs vs
  | _, _ => False
def RowOk (r : Rw) : Prop := ∀ l, r.2 = some l → 0 < l.length ∧ l.length < 1000 ∧ ((Builtin.Int.intBits (l.length : Int) : Nat) : Int) / 30 = 0
abbrev thE : E := .call 73 [(.bor 0), (.sub (.v 3) (.k (.int 1)))]
theorem thing_loop (n : Nat) (bk rg : PyData) : ∀ (rs : List Rw) (b : Nat) (g : List PyData) (acc : List PyData) (j3 : Slot), b + 3 * rs.length + 3 < 2 ^ 37 → Gd b g → (∀ r ∈ rs, RowOk r) →
    ∃ vs g' j3', lcLoop [3] (stepD (.n 3) (evq gt (PhU (n + 4)) rf kp none) (ev gt (PhU (n + 4)) rf kp thE)) (rs.map rowD) acc [.own true g, .val bk, .val rg, j3, .no] = .ok (acc ++ vs, [.own true g', .val bk, .val rg, j3', .no]) ∧ RightV rs vs ∧ Gd (b + 3 * rs.length) g'
  | [], b, g, acc, j3, _, G, _ => ⟨[], g, j3, by simp [lcLoop], trivial, G⟩
  | r :: rs, b, g, acc, j3, hb, G, hr => by
    rw [List.length_cons] at hb
    obtain ⟨v, g1, e, h1, h2, h3, G1⟩ := f_value n b (by omega) G r.2 (hr r List.mem_cons_self)
    obtain ⟨vs, g2, j4, e2, h4, G2⟩ := thing_loop n bk rg rs (b + 3) g1 (acc ++ [v]) (.val (rowD r)) (by omega) G1 fun z m => hr z (List.mem_cons_of_mem _ m)
    refine ⟨v :: vs, g2, j4, ?_, ⟨h1, h2, h3, h4⟩, G2.mono (by rw [List.length_cons]; omega)⟩
    have st : stepD (.n 3) (evq gt (PhU (n + 4)) rf kp none) (ev gt (PhU (n + 4)) rf kp thE) (rowD r) [.own true g, .val bk, .val rg, .no, .no] = .ok (some v, [.own true g1, .val bk, .val rg, .val (rowD r), .no]) := by
      have hs : subD (rowD r) (.int 1) = some (vD r.2) := sub_t1 _ _ _
      simp_arith [stepD, bindT, refArg, List.eraseIdx, e, putBack, hs]
    rw [List.map_cons]
    unfold lcLoop
    rw [show wipeD [Slot.own true g, .val bk, .val rg, j3, .no] [3] = [.own true g, .val bk, .val rg, .no, .no] from rfl, st]
    show lcLoop [3] _ (rs.map rowD) (acc ++ [v]) _ = _
    rw [e2, List.append_assoc]
    rfl
theorem row_ok : (books.all fun rs => rs.all fun r => match r.2 with
    | some l => decide (0 < l.length) && (decide (l.length < 1000) && decide (((Builtin.Int.intBits (l.length : Int) : Nat) : Int) / 30 = 0))
    | none => true) = true := by decide +kernel
theorem rows_ok {rs : List Rw} (m : rs ∈ books) : ∀ r ∈ rs, RowOk r := fun r mr l e => by
  have h := List.all_eq_true.mp (List.all_eq_true.mp row_ok rs m) r mr
  rw [e] at h
  obtain ⟨h1, h⟩ := and2 h
  obtain ⟨h2, h3⟩ := and2 h
  exact ⟨of_decide_eq_true h1, of_decide_eq_true h2, of_decide_eq_true h3⟩
theorem ne_nil : cmpD .ne (.list []) (.list []) = some false := rfl
theorem f_thing (n b : Nat) {rs : List Rw} (m : rs ∈ books) (hb : b + 20 < 2 ^ 37) {g : List PyData} (G : Gd b g) : ∃ (vs g' : List PyData), PhU (n + 5) 74 [.list g, bookD rs, .list []] = .ok (.tuple vs, .list g') ∧ RightV rs vs ∧ Gd (b + 9) g' := by
  have few := (bk_ok m).few
  rw [List.length_map] at few
  obtain ⟨vs, g', j, e, h, G'⟩ := thing_loop n (bookD rs) (.list []) rs b g [] .no (by omega) G (rows_ok m)
  refine ⟨vs, g', ?_, h, G'.mono (by omega)⟩
  have key : ev gt (PhU (n + 4)) rf kp (.lc [3] (.n 3) (.e (.sub (.v 1) (.k (.int 1)))) none thE) [.own true g, .val (bookD rs), .val (.list []), .no, .no] = .ok (.list vs, [.own true g', .val (bookD rs), .val (.list []), .no, .no]) := by
    have hi : evi gt (PhU (n + 4)) rf kp (.e (.sub (.v 1) (.k (.int 1)))) [.own true g, .val (bookD rs), .val (.list []), .no, .no] = .ok (rs.map rowD, [.own true g, .val (bookD rs), .val (.list []), .no, .no]) := by
      have hs : subD (bookD rs) (.int 1) = some (.list (rs.map rowD)) := sub_t1 _ _ _
      simp_arith [hs, iterD]
    show lcF [3] (.n 3) (.e (.sub (.v 1) (.k (.int 1)))) (evi gt (PhU (n + 4)) rf kp (.e (.sub (.v 1) (.k (.int 1))))) (evq gt (PhU (n + 4)) rf kp none) (ev gt (PhU (n + 4)) rf kp thE) [.own true g, .val (bookD rs), .val (.list []), .no, .no] = _
    unfold lcF
    rw [hi]
    show (if (false || decide (sizeLine < (rs.map rowD).length)) = true then Out.bad else (lcLoop [3] (stepD (.n 3) (evq gt (PhU (n + 4)) rf kp none) (ev gt (PhU (n + 4)) rf kp thE)) (rs.map rowD) [] [.own true g, .val (bookD rs), .val (.list []), .no, .no]).bind _) = _
    rw [if_neg (by rw [List.length_map, sizeLine_eq]; simp; omega), e]
    rfl
  show runD gt (PhU (n + 4)) rf kp 0 D__law_thing [.list g, bookD rs, .list []] = _
  rw [runD_eq rfl rfl]
  have hite : exec gt (PhU (n + 4)) rf kp 0 (.ite (.andL [(.cmp .ne (.v 2) (.lst [])), (.cmp .gt (.call 66 [(.bor 0), (.k (.int 4))]) (.k (.int 0)))]) [.ret (.b1 .tuple (.lc [4] (.n 4) (.e (.call 70 [(.bor 0), (.v 2)])) none (.call 75 [(.bor 0), (.v 4)])))] []) [.own true g, .val (bookD rs), .val (.list []), .no, .no] = .nx [.own true g, .val (bookD rs), .val (.list []), .no, .no] := by
    simp_arith [ne_nil]
  show endF (execs gt (PhU (n + 4)) rf kp 0 (_ :: _) [.own true g, .val (bookD rs), .val (.list []), .no, .no]) (some 0) = _
  rw [execs_cons, hite, thenF_nx]
  simp_arith [key, end_ref]
set_option Elab.async false
set_option linter.all false
set_option maxRecDepth 100000
set_option maxHeartbeats 4000000
open PySem PySem.W PyProof.Rows
def menu : List PyData := [.int 0, .int 0, .int 1, .int 2, .int 5, .int 100000000000]
theorem menu_nat {x : PyData} (h : x ∈ menu) : ∃ a : Nat, x = .int (Int.ofNat a) ∧ a < 10 ^ 12 := by
  unfold menu at h
  simp only [List.mem_cons, List.not_mem_nil, or_false] at h
  rcases h with rfl | rfl | rfl | rfl | rfl | rfl
  · exact ⟨0, rfl, by decide⟩
  · exact ⟨0, rfl, by decide⟩
  · exact ⟨1, rfl, by decide⟩
  · exact ⟨2, rfl, by decide⟩
  · exact ⟨5, rfl, by decide⟩
  · exact ⟨100000000000, rfl, by decide⟩
def pairD (q : Rw × (Nat × Nat)) : PyData := .tuple [.str q.1.1, .tuple [.int (Int.ofNat q.2.1), .int (Int.ofNat q.2.2)]]
abbrev prE : E := .tup [(.sub (.v 3) (.k (.int 0))), (.tup [(.call 70 [(.bor 0), (.v 2)]), (.call 70 [(.bor 0), (.v 2)])])]
theorem price_loop (n : Nat) (bk : PyData) : ∀ (rs : List Rw) (b : Nat) (g : List PyData) (acc : List PyData) (j3 : Slot), b + 2 * rs.length + 3 < 2 ^ 37 → Gd b g →
    ∃ (ps : Pp) (g' : List PyData) (j3' : Slot), lcLoop [3] (stepD (.n 3) (evq gt (PhU (n + 3)) rf kp none) (ev gt (PhU (n + 3)) rf kp prE)) (rs.map rowD) acc [.own true g, .val bk, .val (.list menu), j3] = .ok (acc ++ (rs.zip ps).map pairD, [.own true g', .val bk, .val (.list menu), j3']) ∧ ps.length = rs.length ∧ (∀ p ∈ ps, p.1 < 10 ^ 12 ∧ p.2 < 10 ^ 12) ∧ Gd (b + 2 * rs.length) g'
  | [], b, g, acc, j3, _, G => ⟨[], g, j3, by simp [lcLoop], rfl, (fun _ m => by cases m), G⟩
  | r :: rs, b, g, acc, j3, hb, G => by
    rw [List.length_cons] at hb
    obtain ⟨x1, g1, m1, e1, G1⟩ := f_pick n b (by omega) G menu (by decide) (by decide) (by decide +kernel)
    obtain ⟨x2, g2, m2, e2, G2⟩ := f_pick n (b + 1) (by omega) G1 menu (by decide) (by decide) (by decide +kernel)
    obtain ⟨a1, rfl, s1⟩ := menu_nat m1
    obtain ⟨a2, rfl, s2⟩ := menu_nat m2
    obtain ⟨ps, g3, j4, e3, h1, h2, G3⟩ := price_loop n bk rs (b + 2) g2 (acc ++ [pairD (r, (a1, a2))]) (.val (rowD r)) (by omega) G2
    refine ⟨(a1, a2) :: ps, g3, j4, ?_, by simp [h1], fun p mp => ?_, G3.mono (by rw [List.length_cons]; omega)⟩
    rotate_left
    · rcases List.mem_cons.mp mp with rfl | mp
      · exact ⟨s1, s2⟩
      · exact h2 p mp
    have st : stepD (.n 3) (evq gt (PhU (n + 3)) rf kp none) (ev gt (PhU (n + 3)) rf kp prE) (rowD r) [.own true g, .val bk, .val (.list menu), .no] = .ok (some (pairD (r, (a1, a2))), [.own true g2, .val bk, .val (.list menu), .val (rowD r)]) := by
      have hs : subD (rowD r) (.int 0) = some (.str r.1) := sub_t0 _ _
      simp_arith [stepD, bindT, refArg, List.eraseIdx, e1, e2, putBack, hs, pairD]
    rw [List.map_cons]
    unfold lcLoop
    rw [show wipeD [Slot.own true g, .val bk, .val (.list menu), j3] [3] = [.own true g, .val bk, .val (.list menu), .no] from rfl, st]
    show lcLoop [3] _ (rs.map rowD) (acc ++ [pairD (r, (a1, a2))]) _ = _
    rw [e3, List.append_assoc]
    rfl
theorem pd1 (a b : Nat) : (books1.map fun rs => pairsX ((rs.zip [(a, b)]).map pairD)) = books1.map fun rs => some (kvsD rs [(a, b)]) := by kernel_rfl
theorem pd2 (a b c d : Nat) : (books2.map fun rs => pairsX ((rs.zip [(a, b), (c, d)]).map pairD)) = books2.map fun rs => some (kvsD rs [(a, b), (c, d)]) := by kernel_rfl
theorem pd3 (a b c d e f : Nat) : (books3.map fun rs => pairsX ((rs.zip [(a, b), (c, d), (e, f)]).map pairD)) = books3.map fun rs => some (kvsD rs [(a, b), (c, d), (e, f)]) := by kernel_rfl
theorem Pz.pairs {rs : List Rw} {ps : Pp} (Z : Pz rs ps) : pairsX ((rs.zip ps).map pairD) = some (kvsD rs ps) := by
  rcases Z.three with ⟨a, b, rfl, m⟩ | ⟨a, b, c, d, rfl, m⟩ | ⟨a, b, c, d, e, f, rfl, m⟩
  · exact map_at (pd1 a b) rs m
  · exact map_at (pd2 a b c d) rs m
  · exact map_at (pd3 a b c d e f) rs m
theorem dictP_ok {l : List PyData} {o : List (PyData × PyData)} (h : pairsX l = some o) : b1X .dictP (.list l) = some (.dict o) := by
  show (pairsX l).map PyData.dict = _
  rw [h]
  rfl
theorem f_pricesD (n b : Nat) {rs : List Rw} (m : rs ∈ books) (hb : b + 20 < 2 ^ 37) {g : List PyData} (G : Gd b g) : ∃ (ps : Pp) (g' : List PyData), PhU (n + 4) 77 [.list g, bookD rs] = .ok (.dict (kvsD rs ps), .list g') ∧ Pz rs ps ∧ Gd (b + 6) g' := by
  have few := (bk_ok m).few
  rw [List.length_map] at few
  obtain ⟨ps, g', j, e, h1, h2, G'⟩ := price_loop n (bookD rs) rs b g [] .no (by omega) G
  have Z : Pz rs ps := ⟨m, h1, h2⟩
  refine ⟨ps, g', ?_, Z, G'.mono (by omega)⟩
  have key : ev gt (PhU (n + 3)) rf kp (.lc [3] (.n 3) (.e (.sub (.v 1) (.k (.int 1)))) none prE) [.own true g, .val (bookD rs), .val (.list menu), .no] = .ok (.list ((rs.zip ps).map pairD), [.own true g', .val (bookD rs), .val (.list menu), .no]) := by
    have hi : evi gt (PhU (n + 3)) rf kp (.e (.sub (.v 1) (.k (.int 1)))) [.own true g, .val (bookD rs), .val (.list menu), .no] = .ok (rs.map rowD, [.own true g, .val (bookD rs), .val (.list menu), .no]) := by
      have hs : subD (bookD rs) (.int 1) = some (.list (rs.map rowD)) := sub_t1 _ _ _
      simp_arith [hs, iterD]
    show lcF [3] (.n 3) (.e (.sub (.v 1) (.k (.int 1)))) (evi gt (PhU (n + 3)) rf kp (.e (.sub (.v 1) (.k (.int 1))))) (evq gt (PhU (n + 3)) rf kp none) (ev gt (PhU (n + 3)) rf kp prE) [.own true g, .val (bookD rs), .val (.list menu), .no] = _
    unfold lcF
    rw [hi]
    show (if (false || decide (sizeLine < (rs.map rowD).length)) = true then Out.bad else (lcLoop [3] (stepD (.n 3) (evq gt (PhU (n + 3)) rf kp none) (ev gt (PhU (n + 3)) rf kp prE)) (rs.map rowD) [] [.own true g, .val (bookD rs), .val (.list menu), .no]).bind _) = _
    rw [if_neg (by rw [List.length_map, sizeLine_eq]; simp; omega), e]
    rfl
  have hd := dictP_ok Z.pairs
  show runD gt (PhU (n + 3)) rf kp 0 D__law_prices [.list g, bookD rs] = _
  rw [runD_eq rfl rfl]
  have hasg : exec gt (PhU (n + 3)) rf kp 0 (.asg 2 (.lst [(.k (.int 0)), (.k (.int 0)), (.k (.int 1)), (.k (.int 2)), (.k (.int 5)), (.bin .pow (.k (.int 10)) (.k (.int 11)))])) [.own true g, .val (bookD rs), .no, .no] = .nx [.own true g, .val (bookD rs), .val (.list menu), .no] := by
    simp_arith [pow_11, menu]
  show endF (execs gt (PhU (n + 3)) rf kp 0 (_ :: _) [.own true g, .val (bookD rs), .no, .no]) (some 0) = _
  rw [execs_cons, hasg, thenF_nx]
  simp_arith [key, hd, end_ref]
set_option Elab.async false
set_option linter.all false
set_option maxRecDepth 100000
set_option maxHeartbeats 4000000
open PySem PySem.W PyProof.Rows
def rs4 : List Rw := [rA, rB, rC, rD]
abbrev fdT : E := .cmp .gt (.call 66 [(.bor 0), (.k (.int 3))]) (.k (.int 0))
theorem field_loop (n : Nat) (rl : PyData) : ∀ (rs : List Rw) (b : Nat) (g : List PyData) (acc : List PyData) (j3 : Slot), b + rs.length + 3 < 2 ^ 37 → Gd b g →
    ∃ (sel : List Rw) (g' : List PyData) (j3' : Slot), lcLoop [3] (stepD (.n 3) (evq gt (PhU (n + 2)) rf kp (some fdT)) (ev gt (PhU (n + 2)) rf kp (.v 3))) (rs.map rowD) acc [.own true g, .val rl, .no, j3] = .ok (acc ++ sel.map rowD, [.own true g', .val rl, .no, j3']) ∧ sel.Sublist rs ∧ Gd (b + rs.length) g'
  | [], b, g, acc, j3, _, G => ⟨[], g, j3, by simp [lcLoop], List.Sublist.refl _, G⟩
  | r :: rs, b, g, acc, j3, hb, G => by
    rw [List.length_cons] at hb
    obtain ⟨d, g1, e1, p0, p1, G1⟩ := f_random n b (by omega) G 3 (by decide) (by decide) (by decide +kernel)
    by_cases hd : 0 < d
    · obtain ⟨sel, g2, j4, e2, h1, G2⟩ := field_loop n rl rs (b + 1) g1 (acc ++ [rowD r]) (.val (rowD r)) (by omega) G1
      refine ⟨r :: sel, g2, j4, ?_, h1.cons₂ r, G2.mono (by rw [List.length_cons]; omega)⟩
      have st : stepD (.n 3) (evq gt (PhU (n + 2)) rf kp (some fdT)) (ev gt (PhU (n + 2)) rf kp (.v 3)) (rowD r) [.own true g, .val rl, .no, .no] = .ok (some (rowD r), [.own true g1, .val rl, .no, .val (rowD r)]) := by
        simp_arith [stepD, bindT, refArg, List.eraseIdx, e1, putBack, hd]
      rw [List.map_cons]
      unfold lcLoop
      rw [show wipeD [Slot.own true g, .val rl, .no, j3] [3] = [.own true g, .val rl, .no, .no] from rfl, st]
      show lcLoop [3] _ (rs.map rowD) (acc ++ [rowD r]) _ = _
      rw [e2, List.append_assoc]
      rfl
    · obtain ⟨sel, g2, j4, e2, h1, G2⟩ := field_loop n rl rs (b + 1) g1 acc (.val (rowD r)) (by omega) G1
      refine ⟨sel, g2, j4, ?_, h1.cons r, G2.mono (by rw [List.length_cons]; omega)⟩
      have st : stepD (.n 3) (evq gt (PhU (n + 2)) rf kp (some fdT)) (ev gt (PhU (n + 2)) rf kp (.v 3)) (rowD r) [.own true g, .val rl, .no, .no] = .ok (none, [.own true g1, .val rl, .no, .val (rowD r)]) := by
        simp_arith [stepD, bindT, refArg, List.eraseIdx, e1, putBack, hd]
      rw [List.map_cons]
      unfold lcLoop
      rw [show wipeD [Slot.own true g, .val rl, .no, j3] [3] = [.own true g, .val rl, .no, .no] from rfl, st]
      show lcLoop [3] _ (rs.map rowD) acc _ = _
      rw [e2]
def subs {α : Type} : List α → List (List α)
  | [] => [[]]
  | x :: r => subs r ++ (subs r).map (x :: ·)
theorem mem_subs {α : Type} {l l' : List α} (h : l.Sublist l') : l ∈ subs l' := by
  induction h with
  | slnil => exact List.mem_singleton.mpr rfl
  | cons x _ ih => exact List.mem_append_left _ ih
  | cons_cons x _ ih => exact List.mem_append_right _ (List.mem_map.mpr ⟨_, ih, rfl⟩)
theorem subs_ok : ((subs rs4).all fun sel => decide (sel = []) || decide (sel.take 3 ∈ books)) = true := by decide +kernel
theorem sing_ok : (rs4.all fun r => decide ([r] ∈ books)) = true := by decide +kernel
theorem sel_ne (n : Nat) (g rl : PyData) (r : Rw) (rs : List Rw) (h : (r :: rs) ∈ subs rs4) : cmpD .ne (.list ((r :: rs).map rowD)) (.list []) = some true := by
  have h2 : ((subs rs4).all fun sel => match sel with
    | [] => true
    | _ => decide (cmpD .ne (.list (sel.map rowD)) (.list []) = some true)) = true := by decide +kernel
  exact of_decide_eq_true (List.all_eq_true.mp h2 _ h)
theorem sel_sl (sel : List Rw) (h : sel ∈ subs rs4) : slD (.list (sel.map rowD)) none (some 3) = some (.list ((sel.take 3).map rowD)) := by
  have h2 : (subs rs4).map (fun sel => slD (.list (sel.map rowD)) none (some 3)) = (subs rs4).map fun sel => some (.list ((sel.take 3).map rowD)) := by kernel_rfl
  exact map_at h2 sel h
theorem f_fields (n b : Nat) (hb : b + 20 < 2 ^ 37) {g : List PyData} (G : Gd b g) : ∃ (rs : List Rw) (g' : List PyData), PhU (n + 5) 71 [.list g] = .ok (bookD rs, .list g') ∧ rs ∈ books ∧ Gd (b + 5) g' := by
  obtain ⟨sel, g1, j, e, hs, G1⟩ := field_loop (n + 2) (.list (rs4.map rowD)) rs4 b g [] .no (by show b + 4 + 3 < _; omega) G
  have hm := mem_subs hs
  have hasg : exec gt (PhU (n + 4)) rf kp 0 (.asg 1 (.lst [(.tup [(.k (.str "a")), (.lst [(.k (.str "x")), (.k (.str "y"))])]), (.tup [(.k (.str "b")), (.k .none)]), (.tup [(.k (.str "c")), (.lst [(.k (.str "p")), (.k (.str "q")), (.k (.str "r"))])]), (.tup [(.k (.str "d")), (.k .none)])])) [.own true g, .no, .no, .no] = .nx [.own true g, .val (.list (rs4.map rowD)), .no, .no] := rfl
  have key : ev gt (PhU (n + 4)) rf kp (.lc [3] (.n 3) (.e (.v 1)) (some fdT) (.v 3)) [.own true g, .val (.list (rs4.map rowD)), .no, .no] = .ok (.list (sel.map rowD), [.own true g1, .val (.list (rs4.map rowD)), .no, .no]) := by
    have hi : evi gt (PhU (n + 4)) rf kp (.e (.v 1)) [.own true g, .val (.list (rs4.map rowD)), .no, .no] = .ok (rs4.map rowD, [.own true g, .val (.list (rs4.map rowD)), .no, .no]) := rfl
    show lcF [3] (.n 3) (.e (.v 1)) (evi gt (PhU (n + 4)) rf kp (.e (.v 1))) (evq gt (PhU (n + 4)) rf kp (some fdT)) (ev gt (PhU (n + 4)) rf kp (.v 3)) [.own true g, .val (.list (rs4.map rowD)), .no, .no] = _
    unfold lcF
    rw [hi]
    show (if (false || decide (sizeLine < (rs4.map rowD).length)) = true then Out.bad else (lcLoop [3] (stepD (.n 3) (evq gt (PhU (n + 4)) rf kp (some fdT)) (ev gt (PhU (n + 4)) rf kp (.v 3))) (rs4.map rowD) [] [.own true g, .val (.list (rs4.map rowD)), .no, .no]).bind _) = _
    rw [if_neg (by rw [sizeLine_eq]; decide), e]
    rfl
  have hasg2 : exec gt (PhU (n + 4)) rf kp 0 (.asg 2 (.lc [3] (.n 3) (.e (.v 1)) (some fdT) (.v 3))) [.own true g, .val (.list (rs4.map rowD)), .no, .no] = .nx [.own true g1, .val (.list (rs4.map rowD)), .val (.list (sel.map rowD)), .no] := by
    rw [exec_asg, key]
    rfl
  have step : runD gt (PhU (n + 4)) rf kp 0 D__law_fields [.list g] = endF (execs gt (PhU (n + 4)) rf kp 0 [.ret (.tup [(.k (.str "fields")), (.ite (.cmp .ne (.v 2) (.lst [])) (.sl (.v 2) none (some (.k (.int 3)))) (.lst [(.call 70 [(.bor 0), (.v 1)])]))])] [.own true g1, .val (.list (rs4.map rowD)), .val (.list (sel.map rowD)), .no]) (some 0) := by
    rw [runD_eq rfl rfl]
    show endF (execs gt (PhU (n + 4)) rf kp 0 (_ :: _ :: _) [.own true g, .no, .no, .no]) (some 0) = _
    rw [execs_cons, hasg, thenF_nx, execs_cons, hasg2, thenF_nx]
  cases sel with
  | nil =>
    obtain ⟨x, g2, mx, e2, G2⟩ := f_pick (n + 1) (b + 4) (by omega) G1 (rs4.map rowD) (by decide) (by decide) (by decide +kernel)
    obtain ⟨r, mr, rfl⟩ := List.mem_map.mp mx
    refine ⟨[r], g2, ?_, of_decide_eq_true (List.all_eq_true.mp sing_ok r mr), G2⟩
    show runD gt (PhU (n + 4)) rf kp 0 D__law_fields [.list g] = _
    rw [step]
    simp_arith [ne_nil, refArg, List.eraseIdx, e2, putBack, end_ref, bookD]
  | cons r rs =>
    have hb2 : (r :: rs).take 3 ∈ books := by
      have h := List.all_eq_true.mp subs_ok _ hm
      rcases (Bool.or_eq_true _ _).mp h with h | h
      · exact absurd (of_decide_eq_true h) (by simp)
      · exact of_decide_eq_true h
    refine ⟨(r :: rs).take 3, g1, ?_, hb2, G1.mono (by show b + 4 ≤ b + 5; omega)⟩
    have h1 := sel_ne n .none .none r rs hm
    have h2 := sel_sl _ hm
    show runD gt (PhU (n + 4)) rf kp 0 D__law_fields [.list g] = _
    rw [step]
    rw [List.map_cons] at h1 h2
    simp_arith [h1, h2, end_ref, bookD]
set_option Elab.async false
set_option linter.all false
set_option maxRecDepth 100000
set_option maxHeartbeats 4000000
open PySem PySem.W PyProof.Rows
theorem right_len : ∀ {rs : List Rw} {vs : List PyData}, RightV rs vs → vs.length = rs.length
  | [], [], _ => rfl
  | _ :: _, _ :: _, h => by rw [List.length_cons, List.length_cons, right_len h.2.2.2]
/-- a right thing is one -/
theorem right_th {rs : List Rw} {vs : List PyData} (few : rs.length ≤ 3) (h : RightV rs vs) : thB rs vs = true := by
  have hl := right_len h
  match rs, vs, h with
  | [], [], _ => rfl
  | [r], [v], ⟨h1, _⟩ => simp [thB, enumD, gRow, h1]
  | [r, r2], [v, v2], ⟨h1, _, _, h2, _⟩ => simp [thB, enumD, gRow, h1, h2]
  | [r, r2, r3], [v, v2, v3], ⟨h1, _, _, h2, _, _, h3, _⟩ => simp [thB, enumD, gRow, h1, h2, h3]
  | _ :: _ :: _ :: _ :: _, _, _ => simp at few
theorem f_chkt_ok (n : Nat) {rs : List Rw} (m : rs ∈ books) {vs : List PyData} (h : RightV rs vs) : PhU (n + 6) 10 [bookD rs, .tuple vs] = .ok (.none, .none) := by
  have few := (bk_ok m).few
  rw [List.length_map] at few
  have hl := right_len h
  have e := f_thing_of n rs vs (by rw [sizeLine_eq]; omega)
  rw [right_th few h] at e
  exact f_chkt n _ _ _ true e
theorem f_chkp_ok (n : Nat) {rs : List Rw} {ps : Pp} (Z : Pz rs ps) {kvs : List (PyData × PyData)} (hk : kvs.length ≤ 3) (h : ipB (nsD rs) kvs = true) : PhU (n + 11) 53 [bookD rs, .dict kvs] = .ok (.none, .none) := by
  have e := f_prices (bk_ok Z.mem) n kvs (by rw [sizeLine_eq]; omega)
  rw [show rs.map (·.1) = nsD rs from rfl, h] at e
  exact f_chkp (bk_ok Z.mem) n _ true e
/-- a change of right things, by right prices -/
def chL : List Rw → Pp → List PyData → List PyData → List Ch
  | r :: rs, p :: ps, x :: xs, y :: ys => (r.1, (Int.ofNat p.1, Int.ofNat p.2), x, y) :: chL rs ps xs ys
  | _, _, _, _ => []
theorem chL_facts : ∀ {rs : List Rw} {ps : Pp} {xs ys : List PyData}, ps.length = rs.length → RightV rs xs → RightV rs ys →
    (chL rs ps xs ys).map (·.1) = rs.map (·.1) ∧ (chL rs ps xs ys).map (·.2.2.1) = xs ∧ (chL rs ps xs ys).map (·.2.2.2) = ys ∧ (∀ q ∈ chL rs ps xs ys, isV q.2.2.1 = true ∧ isV q.2.2.2 = true) ∧ (∀ q ∈ chL rs ps xs ys, ∃ p ∈ ps, q.2.1 = (Int.ofNat p.1, Int.ofNat p.2))
  | [], [], [], [], _, _, _ => ⟨rfl, rfl, rfl, (fun _ m => by cases m), (fun _ m => by cases m)⟩
  | r :: rs, p :: ps, x :: xs, y :: ys, hl, h1, h2 => by
    obtain ⟨q1, q2, q3, q4, q5⟩ := chL_facts (rs := rs) (ps := ps) (by simpa using hl) h1.2.2.2 h2.2.2.2
    refine ⟨by simp [chL, q1], by simp [chL, q2], by simp [chL, q3], fun q m => ?_, fun q m => ?_⟩
    · rcases List.mem_cons.mp m with rfl | m
      · exact ⟨h1.2.1, h2.2.1⟩
      · exact q4 q m
    · rcases List.mem_cons.mp m with rfl | m
      · exact ⟨p, List.mem_cons_self, rfl⟩
      · obtain ⟨p', mp, e⟩ := q5 q m
        exact ⟨p', List.mem_cons_of_mem _ mp, e⟩
set_option Elab.async false
set_option linter.all false
set_option maxRecDepth 100000
set_option maxHeartbeats 4000000
open PySem PySem.W PyProof.Rows
theorem chL_zip : ∀ {rs : List Rw} {ps : Pp} {xs ys : List PyData}, ∀ q ∈ chL rs ps xs ys, ∃ z ∈ rs.zip ps, q.1 = z.1.1 ∧ q.2.1 = (Int.ofNat z.2.1, Int.ofNat z.2.2)
  | r :: rs, p :: ps, x :: xs, y :: ys, q, m => by
    rcases List.mem_cons.mp m with rfl | m
    · exact ⟨(r, p), List.mem_cons_self, rfl, rfl⟩
    · obtain ⟨z, mz, e1, e2⟩ := chL_zip q m
      exact ⟨z, List.mem_cons_of_mem _ mz, e1, e2⟩
def lkL (rs : List Rw) (ps : Pp) (kvs : List (PyData × PyData)) : List (Option PyData) := (rs.zip ps).map fun q => look (.str q.1.1) kvs
def lkR (rs : List Rw) (ps : Pp) : List (Option PyData) := (rs.zip ps).map fun q => some (prD (Int.ofNat q.2.1, Int.ofNat q.2.2))
theorem lk1 (a b : Nat) : (books1.map fun rs => (lkL rs [(a, b)] (kvsD rs [(a, b)]), lkL rs [(a, b)] (kvsD rs [(a, b)]).reverse)) = books1.map fun rs => (lkR rs [(a, b)], lkR rs [(a, b)]) := by kernel_rfl
theorem lk2 (a b c d : Nat) : (books2.map fun rs => (lkL rs [(a, b), (c, d)] (kvsD rs [(a, b), (c, d)]), lkL rs [(a, b), (c, d)] (kvsD rs [(a, b), (c, d)]).reverse)) = books2.map fun rs => (lkR rs [(a, b), (c, d)], lkR rs [(a, b), (c, d)]) := by kernel_rfl
theorem lk3 (a b c d e f : Nat) : (books3.map fun rs => (lkL rs [(a, b), (c, d), (e, f)] (kvsD rs [(a, b), (c, d), (e, f)]), lkL rs [(a, b), (c, d), (e, f)] (kvsD rs [(a, b), (c, d), (e, f)]).reverse)) = books3.map fun rs => (lkR rs [(a, b), (c, d), (e, f)], lkR rs [(a, b), (c, d), (e, f)]) := by kernel_rfl
theorem Pz.looks {rs : List Rw} {ps : Pp} (Z : Pz rs ps) : lkL rs ps (kvsD rs ps) = lkR rs ps ∧ lkL rs ps (kvsD rs ps).reverse = lkR rs ps := by
  rcases Z.three with ⟨a, b, rfl, m⟩ | ⟨a, b, c, d, rfl, m⟩ | ⟨a, b, c, d, e, f, rfl, m⟩
  · exact Prod.mk.inj (map_at (lk1 a b) rs m)
  · exact Prod.mk.inj (map_at (lk2 a b c d) rs m)
  · exact Prod.mk.inj (map_at (lk3 a b c d e f) rs m)
theorem Pz.few {rs : List Rw} {ps : Pp} (Z : Pz rs ps) : rs.length ≤ 3 := by
  have h := (bk_ok Z.mem).few
  rwa [List.length_map] at h
theorem chL_len {rs : List Rw} {ps : Pp} {xs ys : List PyData} (hl : ps.length = rs.length) (h1 : RightV rs xs) (h2 : RightV rs ys) : (chL rs ps xs ys).length = rs.length := by
  have := congrArg List.length (chL_facts hl h1 h2).1
  simpa using this
/-- what is asked of a change holds, by the prices and by them turned -/
theorem Pz.chOk {rs : List Rw} {ps : Pp} (Z : Pz rs ps) {xs ys : List PyData} (h1 : RightV rs xs) (h2 : RightV rs ys) {kvs : List (PyData × PyData)} (hk : lkL rs ps kvs = lkR rs ps) : ChOk kvs (chL rs ps xs ys) where
  look := fun q m => by
    obtain ⟨z, mz, e1, e2⟩ := chL_zip q m
    have h := map_at hk z mz
    rw [e1, e2]
    exact h
  sm := fun q m => by
    obtain ⟨p, mp, e⟩ := (chL_facts Z.len h1 h2).2.2.2.2 q m
    rw [e]
    have := (Z.sm p mp).2
    show (Int.ofNat p.2).natAbs < 2 ^ 64
    simp only [Int.ofNat_eq_natCast, Int.natAbs_natCast]
    omega
  v1 := fun q m => ((chL_facts Z.len h1 h2).2.2.2.1 q m).1
  v2 := fun q m => ((chL_facts Z.len h1 h2).2.2.2.1 q m).2
  few := by rw [chL_len Z.len h1 h2]; exact Z.few
/-- the price of a change, as the program tells it -/
theorem Pz.told {rs : List Rw} {ps : Pp} (Z : Pz rs ps) (n : Nat) {xs ys : List PyData} (h1 : RightV rs xs) (h2 : RightV rs ys) {kvs : List (PyData × PyData)} (hk : lkL rs ps kvs = lkR rs ps) (hi : ipB (nsD rs) kvs = true) (hs : kvs.length ≤ 3) :
    PhU (n + 12) 56 [bookD rs, .dict kvs, .tuple xs, .tuple ys] = .ok (.int (cost (chL rs ps xs ys)), .none) := by
  obtain ⟨q1, q2, q3, _, _⟩ := chL_facts Z.len h1 h2
  have e := f_change (bk_ok Z.mem) (n + 1) kvs (chL rs ps xs ys) q1 (Z.chOk h1 h2 hk)
  rw [q2, q3] at e
  exact f_btw n _ _ _ _ _ (f_chkp_ok n Z hs hi) (f_chkt_ok (n + 5) Z.mem h1) (f_chkt_ok (n + 5) Z.mem h2) e
/-- and as the law reckons it -/
theorem Pz.due {rs : List Rw} {ps : Pp} (Z : Pz rs ps) (n : Nat) {xs ys : List PyData} (h1 : RightV rs xs) (h2 : RightV rs ys) : PhU (n + 10) 78 [bookD rs, .dict (kvsD rs ps), .tuple xs, .tuple ys] = .ok (.int (cost (chL rs ps xs ys)), .none) := by
  obtain ⟨q1, q2, q3, _, _⟩ := chL_facts Z.len h1 h2
  have e := f_cost (bk_ok Z.mem) n (kvsD rs ps) (chL rs ps xs ys) q1 (Z.chOk h1 h2 Z.looks.1)
  rwa [q2, q3] at e
set_option Elab.async false
set_option linter.all false
set_option maxRecDepth 100000
set_option maxHeartbeats 4000000
open PySem PySem.W PyProof.Rows
theorem sp_sym (p : Int × Int) (x y : PyData) (hx : isV x = true) (hy : isV y = true) : sp p x y = sp p y x := by
  cases x <;> first | cases hx | skip
  all_goals cases y <;> first | cases hy | skip
  · rename_i i j
    by_cases h : i = j
    · simp [sp, h]
    · have h2 : ¬ j = i := fun z => h z.symm
      have e : (if i - j < 0 then -(i - j) else i - j) = if j - i < 0 then -(j - i) else j - i := by
        by_cases a : i - j < 0
        · rw [if_pos a, if_neg (by omega)]; omega
        · rw [if_neg a, if_pos (by omega)]; omega
      show (if i = j then 0 else p.1 + p.2 * _) = if j = i then 0 else p.1 + p.2 * _
      rw [if_neg h, if_neg h2, e]
  · rfl
  · rfl
  · rename_i a b
    by_cases h : a = b
    · simp [sp, h]
    · have h2 : ¬ b = a := fun z => h z.symm
      simp [sp, h, h2]
theorem cost_sym : ∀ {rs : List Rw} {ps : Pp} {xs ys : List PyData}, RightV rs xs → RightV rs ys → cost (chL rs ps xs ys) = cost (chL rs ps ys xs)
  | [], _, _, _, _, _ => by simp [chL]
  | r :: rs, [], _, _, _, _ => by simp [chL]
  | r :: rs, p :: ps, x :: xs, y :: ys, h1, h2 => by
    show cost ((r.1, _, x, y) :: chL rs ps xs ys) = cost ((r.1, _, y, x) :: chL rs ps ys xs)
    unfold cost
    rw [List.map_cons, List.map_cons, List.sum_cons, List.sum_cons]
    have e := cost_sym (ps := ps) h1.2.2.2 h2.2.2.2
    unfold cost at e
    rw [e]
    dsimp only
    rw [sp_sym _ x y h1.2.1 h2.2.1]
/-- the law's own look at answers: lists of truth values, of whole numbers -/
theorem same2 (n : Nat) (b : Bool) : PhU (n + 3) 69 [.list [.bool b, .bool b], .list [.bool b, .bool b]] = .ok (.bool true, .none) := by
  cases b <;> kernel_rfl
set_option Elab.async false
set_option linter.all false
set_option maxRecDepth 100000
set_option maxHeartbeats 4000000
open PySem PySem.W PyProof.Rows
theorem is_bb (b : Bool) : cmpD .eq (.bool b) (.bool b) = some true ∧ cmpD .ne (.bool b) (.bool b) = some false := by cases b <;> exact ⟨rfl, rfl⟩
theorem same_int (n : Nat) (i : Int) : PhU (n + 1) 69 [.int i, .int i] = .ok (.bool true, .none) := by
  show runD gt (PhU n) rf kp 0 D__law_same [.int i, .int i] = _
  rw [runD_eq rfl rfl]
  simp_arith [D__law_same, (is_bb _).1, (is_bb _).2]
theorem same_ints (n : Nat) (i : Int) (k : Nat) (hk : k ≤ 10) : PhU (n + 2) 69 [.list (List.replicate k (.int i)), .list (List.replicate k (.int i))] = .ok (.bool true, .none) := by
  show runD gt (PhU (n + 1)) rf kp 0 D__law_same [.list (List.replicate k (.int i)), .list (List.replicate k (.int i))] = _
  rw [runD_eq rfl rfl]
  have hz : ∀ k : Nat, zipD (List.replicate k (.int i)) (List.replicate k (.int i)) = List.replicate k (.tuple [.int i, .int i]) := fun k => by
    induction k with
    | zero => rfl
    | succ k ih => rw [List.replicate_succ, List.replicate_succ]; show _ :: zipD _ _ = _; rw [ih]
  have key : ev gt (PhU (n + 1)) rf kp (.lc [3, 4] (.t [3, 4]) (.zip2 (.v 0) (.v 1)) none (.call 69 [(.v 3), (.v 4)])) [.val (.list (List.replicate k (.int i))), .val (.list (List.replicate k (.int i))), .val (.bool true), .no, .no] = .ok (.list ((List.replicate k (PyData.tuple [.int i, .int i])).filterMap fun _ => some (.bool true)), [.val (.list (List.replicate k (.int i))), .val (.list (List.replicate k (.int i))), .val (.bool true), .no, .no]) := by
    refine ev_lc _ ?_ rfl ?_ rfl rfl fun d hd => ?_
    · show Out.ofOpt (((some (List.replicate k (PyData.int i))).bind fun l => (some (List.replicate k (PyData.int i))).map fun m => zipD l m)) _ = _
      show Out.ok (zipD (List.replicate k (PyData.int i)) (List.replicate k (PyData.int i)), _) = _
      rw [hz]
    · rw [List.length_replicate, sizeLine_eq]; omega
    · obtain rfl := List.eq_of_mem_replicate hd
      refine ⟨[.val (.list (List.replicate k (.int i))), .val (.list (List.replicate k (.int i))), .val (.bool true), .val (.int i), .val (.int i)], ?_, rfl⟩
      have e := same_int n i
      simp_arith [stepD, bindT, bindL, wipeD, e]
  have hp : ∀ k : Nat, PyData.plainAll (List.replicate k (PyData.bool true)) = true := fun k => by
    induction k with
    | zero => rfl
    | succ k ih => rw [List.replicate_succ]; simp [PyData.plainAll, PyData.plain, ih]
  simp_arith [D__law_same, (is_bb _).1, (is_bb _).2, key, hp]
set_option Elab.async false
set_option linter.all false
set_option maxRecDepth 100000
set_option maxHeartbeats 4000000
open PySem PySem.W PyProof.Rows
/-! ### regions, fields that are none -/
def badR : List PyData := [.none, .tuple [], .list [.none], .list [.list []], .list [.list [.none]], .dict []]
theorem reg_bad (n : Nat) : (books.map fun rs => badR.map fun v => PhU (n + 8) 26 [bookD rs, v]) = books.map fun _ => badR.map fun v => .exc "InvalidRegion" v := by kernel_rfl
theorem reg_ok (n : Nat) : (books.map fun rs => PhU (n + 8) 26 [bookD rs, .list []]) = books.map fun _ => .ok (.none, .none) := by kernel_rfl
def badF (rs : List Rw) : List PyData := [.none, .tuple [.str "fields", .list []], .list [.str "fields", .list (rs.map rowD)], .dict []]
theorem fld_bad (n : Nat) : (books.map fun rs => (badF rs).map fun v => PhU (n + 8) 7 [v]) = books.map fun rs => (badF rs).map fun v => .exc "InvalidFields" v := by kernel_rfl
theorem sh_R : ∀ v ∈ badR, Sh v := fun v m => by
  have h : badR.all (fun v => v.leavesShort 13 && v.showable && shB v) = true := by decide +kernel
  obtain ⟨h1, h2⟩ := and2 (List.all_eq_true.mp h v m)
  exact sh_of (and2 h1) h2
theorem sh_F {rs : List Rw} (mr : rs ∈ books) : ∀ v ∈ badF rs, Sh v := fun v m => by
  have h : (books.all fun rs => (badF rs).all (fun v => v.leavesShort 13 && v.showable && shB v)) = true := by decide +kernel
  obtain ⟨h1, h2⟩ := and2 (List.all_eq_true.mp (List.all_eq_true.mp h rs mr) v m)
  exact sh_of (and2 h1) h2
/-! ### things that are none -/
def badT (vs : List PyData) : List PyData := [.none, .list vs, .tuple (vs ++ [.str ""]), .tuple (vs.drop 1), .tuple (.none :: vs.drop 1), .tuple (.str "zz" :: vs.drop 1), .tuple (.bool true :: vs.drop 1)]
theorem zz_no : (books.all fun rs => match rs with
    | r :: _ => !ofRow r.2 (.str "zz")
    | [] => false) = true := by decide +kernel
theorem thB_bad {rs : List Rw} (m : rs ∈ books) {vs : List PyData} (h : RightV rs vs) : thB rs (vs ++ [.str ""]) = false ∧ thB rs (vs.drop 1) = false ∧ thB rs (.none :: vs.drop 1) = false ∧ thB rs (.str "zz" :: vs.drop 1) = false ∧ thB rs (.bool true :: vs.drop 1) = false := by
  have hl := right_len h
  have hz := List.all_eq_true.mp zz_no rs m
  cases rs with
  | nil => cases hz
  | cons r rs =>
    cases vs with
    | nil => cases h
    | cons v vs =>
      have hz : ofRow r.2 (.str "zz") = false := by simpa using hz
      have hl2 : vs.length = rs.length := by simpa using hl
      refine ⟨?_, ?_, ?_, ?_, ?_⟩
      · simp [thB, hl2]
      · simp [thB, hl2]
      · simp [thB, enumD, gRow, ofRow]
      · simp [thB, enumD, gRow, hz]
      · simp [thB, enumD, gRow, ofRow]
set_option Elab.async false
set_option linter.all false
set_option maxRecDepth 100000
set_option maxHeartbeats 4000000
open PySem PySem.W PyProof.Rows
theorem thing_bad (n : Nat) {rs : List Rw} (m : rs ∈ books) {vs : List PyData} (h : RightV rs vs) : ∀ v ∈ badT vs, PhU (n + 6) 10 [bookD rs, v] = .exc "InvalidThing" v := fun v mv => by
  have few := (bk_ok m).few
  rw [List.length_map] at few
  have hl := right_len h
  obtain ⟨t1, t2, t3, t4, t5⟩ := thB_bad m h
  have tup : ∀ ws : List PyData, ws.length ≤ 5 → thB rs ws = false → PhU (n + 6) 10 [bookD rs, .tuple ws] = .exc "InvalidThing" (.tuple ws) := fun ws hw ht => by
    have e := f_thing_of n rs ws (by rw [sizeLine_eq]; omega)
    rw [ht] at e
    exact f_chkt n _ _ _ false e
  unfold badT at mv
  simp only [List.mem_cons, List.not_mem_nil, or_false] at mv
  rcases mv with rfl | rfl | rfl | rfl | rfl | rfl | rfl
  · exact f_chkt n _ _ _ false (f_thing_no n _ _ fun ws z => by cases z)
  · exact f_chkt n _ _ _ false (f_thing_no n _ _ fun ws z => by cases z)
  · exact tup _ (by simp; omega) t1
  · exact tup _ (by simp; omega) t2
  · exact tup _ (by simp; omega) t3
  · exact tup _ (by simp; omega) t4
  · exact tup _ (by simp; omega) t5
theorem right_ls : ∀ {rs : List Rw} {vs : List PyData}, (∀ r ∈ rs, ∀ l, r.2 = some l → ∀ x ∈ l, LS (.str x)) → RightV rs vs → ∀ v ∈ vs, LS v
  | [], [], _, _ => fun v m => by cases m
  | r :: rs, v :: vs, hr, h => fun x m => by
    rcases List.mem_cons.mp m with rfl | m
    · obtain ⟨h1, h2, h3, _⟩ := h
      cases x <;> first | cases h2 | skip
      · rename_i i
        refine ⟨decide_eq_true (PyData.shown_int_le (h3 i rfl)), decide_eq_true ?_⟩
        by_cases h0 : i.natAbs = 0
        · rw [h0]; decide
        · exact (Nat.log2_lt h0).mpr (Nat.lt_of_lt_of_le (h3 i rfl) (by decide +kernel))
      · rename_i y
        by_cases hy : y = ""
        · subst hy; exact ⟨by decide +kernel, by decide +kernel⟩
        · cases e : r.2 with
          | none => simp [ofRow, e, hy] at h1
          | some l =>
            have : y ∈ l := by simpa [ofRow, e, hy] using h1
            exact hr r List.mem_cons_self l e y this
    · exact right_ls (fun r m => hr r (List.mem_cons_of_mem _ m)) h.2.2.2 x m
set_option Elab.async false
set_option linter.all false
set_option maxRecDepth 100000
set_option maxHeartbeats 4000000
open PySem PySem.W PyProof.Rows
/-- short and flat -/
def Fl0 (v : PyData) : Prop := v.depth = 0 ∧ v.bulk ≤ 5
theorem right_fl : ∀ {rs : List Rw} {vs : List PyData}, (∀ r ∈ rs, ∀ l, r.2 = some l → ∀ x ∈ l, Fl0 (.str x)) → RightV rs vs → ∀ v ∈ vs, Fl0 v
  | [], [], _, _ => fun v m => by cases m
  | r :: rs, v :: vs, hr, h => fun x m => by
    rcases List.mem_cons.mp m with rfl | m
    · obtain ⟨h1, h2, h3, _⟩ := h
      cases x <;> first | cases h2 | skip
      · exact ⟨rfl, Nat.zero_le 5⟩
      · rename_i y
        by_cases hy : y = ""
        · subst hy; exact ⟨by decide +kernel, by decide +kernel⟩
        · cases e : r.2 with
          | none => simp [ofRow, e, hy] at h1
          | some l =>
            have : y ∈ l := by simpa [ofRow, e, hy] using h1
            exact hr r List.mem_cons_self l e y this
    · exact right_fl (fun r m => hr r (List.mem_cons_of_mem _ m)) h.2.2.2 x m
theorem book_strs : (books.all fun rs => rs.all fun r => match r.2 with
    | some l => l.all fun x => (PyData.str x).leavesShort 13 && (PyData.str x).showable && (decide ((PyData.str x).depth = 0) && decide ((PyData.str x).bulk ≤ 5))
    | none => true) = true := by decide +kernel
theorem book_str {rs : List Rw} (m : rs ∈ books) : ∀ r ∈ rs, ∀ l, r.2 = some l → ∀ x ∈ l, LS (.str x) ∧ Fl0 (.str x) := fun r mr l e x mx => by
  have h := List.all_eq_true.mp (List.all_eq_true.mp book_strs rs m) r mr
  rw [e] at h
  obtain ⟨h1, h2⟩ := and2 (List.all_eq_true.mp h x mx)
  obtain ⟨h3, h4⟩ := and2 h2
  exact ⟨and2 h1, of_decide_eq_true h3, of_decide_eq_true h4⟩
theorem fl_all : ∀ {l : List PyData}, (∀ v ∈ l, Fl0 v) → PyData.depthAll l = 0 ∧ PyData.bulkAll l ≤ 6 * l.length
  | [], _ => ⟨rfl, Nat.le_refl _⟩
  | v :: l, h => by
    obtain ⟨h1, h2⟩ := fl_all (l := l) fun x m => h x (List.mem_cons_of_mem _ m)
    obtain ⟨h3, h4⟩ := h v List.mem_cons_self
    refine ⟨by simp [PyData.depthAll, h1, h3], ?_⟩
    simp only [PyData.bulkAll, List.length_cons]
    omega
set_option Elab.async false
set_option linter.all false
set_option maxRecDepth 100000
set_option maxHeartbeats 4000000
open PySem PySem.W PyProof.Rows
theorem sh_flat {l : List PyData} (hl : l.length ≤ 1000) (h1 : ∀ v ∈ l, LS v) (h2 : ∀ v ∈ l, Fl0 v) : Sh (.list l) ∧ Sh (.tuple l) := by
  obtain ⟨d, b⟩ := fl_all h2
  have e1 : shB (.list l) = true := by
    show (decide ((PyData.list l).depth ≤ 60) && decide ((PyData.list l).bulk ≤ 2 ^ 20)) = true
    rw [Bool.and_eq_true]
    refine ⟨decide_eq_true ?_, decide_eq_true ?_⟩
    · show PyData.depthAll l + 1 ≤ 60
      omega
    · show PyData.bulkAll l ≤ 2 ^ 20
      omega
  exact ⟨sh_of (ls_list.mpr h1) e1, sh_of (ls_tup.mpr h1) e1⟩
theorem sh_T {rs : List Rw} (m : rs ∈ books) {vs : List PyData} (h : RightV rs vs) : ∀ v ∈ badT vs, Sh v := by
  have few := (bk_ok m).few
  rw [List.length_map] at few
  have hl := right_len h
  have a1 := right_ls (fun r mr l e x mx => (book_str m r mr l e x mx).1) h
  have a2 := right_fl (fun r mr l e x mx => (book_str m r mr l e x mx).2) h
  have b1 : ∀ v ∈ vs.drop 1, LS v := fun v mv => a1 v (List.mem_of_mem_drop mv)
  have b2 : ∀ v ∈ vs.drop 1, Fl0 v := fun v mv => a2 v (List.mem_of_mem_drop mv)
  have cons1 : ∀ {x : PyData} {l : List PyData}, LS x → (∀ v ∈ l, LS v) → ∀ v ∈ x :: l, LS v := fun hx hl v mv => by
    rcases List.mem_cons.mp mv with rfl | mv
    · exact hx
    · exact hl v mv
  have cons2 : ∀ {x : PyData} {l : List PyData}, Fl0 x → (∀ v ∈ l, Fl0 v) → ∀ v ∈ x :: l, Fl0 v := fun hx hl v mv => by
    rcases List.mem_cons.mp mv with rfl | mv
    · exact hx
    · exact hl v mv
  have ld : (vs.drop 1).length ≤ 3 := by rw [List.length_drop]; omega
  intro v mv
  unfold badT at mv
  simp only [List.mem_cons, List.not_mem_nil, or_false] at mv
  rcases mv with rfl | rfl | rfl | rfl | rfl | rfl | rfl
  · exact sh_of ⟨rfl, rfl⟩ (by decide +kernel)
  · exact (sh_flat (by omega) a1 a2).1
  · refine (sh_flat (by simp; omega) (fun v mv => ?_) (fun v mv => ?_)).2
    · rcases List.mem_append.mp mv with mv | mv
      · exact a1 v mv
      · rw [List.mem_singleton.mp mv]; exact ⟨by decide +kernel, by decide +kernel⟩
    · rcases List.mem_append.mp mv with mv | mv
      · exact a2 v mv
      · rw [List.mem_singleton.mp mv]; exact ⟨by decide +kernel, by decide +kernel⟩
  · exact (sh_flat (by omega) b1 b2).2
  · exact (sh_flat (by rw [List.length_cons]; omega) (cons1 ⟨rfl, rfl⟩ b1) (cons2 (show Fl0 .none from ⟨rfl, Nat.zero_le 5⟩) b2)).2
  · exact (sh_flat (by rw [List.length_cons]; omega) (cons1 ⟨by decide +kernel, by decide +kernel⟩ b1) (cons2 ⟨by decide +kernel, by decide +kernel⟩ b2)).2
  · exact (sh_flat (by rw [List.length_cons]; omega) (cons1 ⟨rfl, rfl⟩ b1) (cons2 (show Fl0 (.bool true) from ⟨rfl, Nat.zero_le 5⟩) b2)).2
set_option Elab.async false
set_option linter.all false
set_option maxRecDepth 100000
set_option maxHeartbeats 4000000
open PySem PySem.W PyProof.Rows
/-- a row of refusals: the door, what is handed in, the class, the bad one -/
structure Rf where
  door : Nat
  a0 : PyData
  a1 : PyData
  a2 : PyData
  a3 : PyData
  k : Kd
  v : PyData
def Rf.d (r : Rf) : PyData := .tuple [.int (Int.ofNat r.door), .list [r.a0, r.a1, r.a2, r.a3], .int r.k.i, r.v]
/-- the row is told as due -/
structure RfOk (n : Nat) (r : Rf) : Prop where
  lt : r.door < 3
  sh : Sh r.v
  ex : PhU n (doorG r.door) [r.a0, r.a1, r.a2, r.a3] = .exc r.k.c r.v
theorem RfOk.caught {n : Nat} {r : Rf} (h : RfOk n r) : PhU (n + 1) 80 [.int r.door, .list [r.a0, r.a1, r.a2, r.a3]] = .ok (.list [.list [.int r.k.i], .str r.v.shown], .none) := f_caught n r.door h.lt r.a0 r.a1 r.a2 r.a3 r.v r.k h.sh h.ex
/-- the three doors for a bad one -/
theorem door3 (n : Nat) (a0 a1 a2 a3 v : PyData) (c : Str) (h : PhU (n + 12) 62 [a0, a1, a2, a3] = .exc c v) : PhU (n + 13) (doorG 1) [a0, a1, a2, a3] = .exc c v ∧ PhU (n + 13) (doorG 2) [a0, a1, a2, a3] = .exc c v := f_way n a0 a1 a2 a3 v c h
set_option Elab.async false
set_option linter.all false
set_option maxRecDepth 100000
set_option maxHeartbeats 4000000
open PySem PySem.W PyProof.Rows
def rowsF (v : PyData) : List Rf := [⟨0, v, .none, .none, .none, .f, v⟩, ⟨1, v, .none, .none, .none, .f, v⟩, ⟨2, v, .none, .none, .none, .f, v⟩]
def rowsP (bk v : PyData) : List Rf := [⟨0, bk, v, .none, .none, .p, v⟩, ⟨1, bk, .list [], v, .none, .p, v⟩, ⟨2, bk, .list [], v, .none, .p, v⟩]
def rowsT (bk p t v : PyData) : List Rf := [⟨0, bk, p, v, .none, .t, v⟩, ⟨0, bk, p, t, v, .t, v⟩, ⟨1, bk, .list [], p, v, .t, v⟩, ⟨2, bk, .list [], p, v, .t, v⟩]
def rowsR (bk v : PyData) : List Rf := [⟨1, bk, v, .none, .none, .r, v⟩, ⟨2, bk, v, .none, .none, .r, v⟩]
theorem rowsF_ok (n : Nat) {v : PyData} (hs : Sh v) (h : ∀ n, PhU (n + 8) 7 [v] = .exc "InvalidFields" v) : ∀ r ∈ rowsF v, RfOk (n + 13) r := by
  have e0 := f_btw_p (n + 1) v .none .none .none v "InvalidFields" (f_chkp_exc (n + 1) v .none (f_prices_exc (n + 1) v .none (h (n + 2))))
  have e1 := door3 n v .none .none .none v "InvalidFields" (f_priced n _ _ _ _ _ _ (.inl (h (n + 3))))
  intro r m
  simp only [rowsF, List.mem_cons, List.not_mem_nil, or_false] at m
  rcases m with rfl | rfl | rfl
  · exact ⟨by dsimp only; omega, hs, e0⟩
  · exact ⟨by dsimp only; omega, hs, e1.1⟩
  · exact ⟨by dsimp only; omega, hs, e1.2⟩
theorem rowsP_ok (n : Nat) {rs : List Rw} (m : rs ∈ books) {v : PyData} (hs : Sh v) (h : ∀ n, PhU (n + 10) 52 [bookD rs, v] = .ok (.bool false, .none)) : ∀ r ∈ rowsP (bookD rs) v, RfOk (n + 13) r := by
  have hp : ∀ n, PhU (n + 11) 53 [bookD rs, v] = .exc "InvalidPrices" v := fun n => f_chkp (bk_ok m) n v false (h n)
  have e0 := f_btw_p (n + 1) (bookD rs) v .none .none v "InvalidPrices" (hp (n + 1))
  have e1 := door3 n (bookD rs) (.list []) v .none v "InvalidPrices" (f_priced n _ _ _ _ _ _ (.inr ⟨(bk_ok m).chk (n + 3), .inr ⟨map_at (reg_ok (n + 3)) rs m, .inl (hp n)⟩⟩))
  intro r mr
  simp only [rowsP, List.mem_cons, List.not_mem_nil, or_false] at mr
  rcases mr with rfl | rfl | rfl
  · exact ⟨by dsimp only; omega, hs, e0⟩
  · exact ⟨by dsimp only; omega, hs, e1.1⟩
  · exact ⟨by dsimp only; omega, hs, e1.2⟩
theorem rowsR_ok (n : Nat) {rs : List Rw} (m : rs ∈ books) {v : PyData} (mv : v ∈ badR) : ∀ r ∈ rowsR (bookD rs) v, RfOk (n + 13) r := by
  have e1 := door3 n (bookD rs) v .none .none v "InvalidRegion" (f_priced n _ _ _ _ _ _ (.inr ⟨(bk_ok m).chk (n + 3), .inl (map_at (map_at (reg_bad (n + 3)) rs m) v mv)⟩))
  intro r mr
  simp only [rowsR, List.mem_cons, List.not_mem_nil, or_false] at mr
  rcases mr with rfl | rfl
  · exact ⟨by dsimp only; omega, sh_R v mv, e1.1⟩
  · exact ⟨by dsimp only; omega, sh_R v mv, e1.2⟩
theorem Pz.kl {rs : List Rw} {ps : Pp} (Z : Pz rs ps) : (kvsD rs ps).length ≤ 3 := by
  have h := Z.few
  have h2 := Z.len
  unfold kvsD
  rw [List.length_map, List.length_zip]
  omega
theorem rowsT_ok (n : Nat) {rs : List Rw} {ps : Pp} (Z : Pz rs ps) {vs : List PyData} (h : RightV rs vs) {v : PyData} (mv : v ∈ badT vs) : ∀ r ∈ rowsT (bookD rs) (.dict (kvsD rs ps)) (.tuple vs) v, RfOk (n + 13) r := by
  have hs := sh_T Z.mem h v mv
  have hp : ∀ n, PhU (n + 11) 53 [bookD rs, .dict (kvsD rs ps)] = .ok (.none, .none) := fun n => f_chkp_ok n Z Z.kl Z.yes.1
  have e0 := f_btw_1 (n + 1) (bookD rs) (.dict (kvsD rs ps)) v .none v "InvalidThing" (hp (n + 1)) (thing_bad (n + 6) Z.mem h v mv)
  have e1 := f_btw_2 (n + 1) (bookD rs) (.dict (kvsD rs ps)) (.tuple vs) v v "InvalidThing" (hp (n + 1)) (f_chkt_ok (n + 6) Z.mem h) (thing_bad (n + 6) Z.mem h v mv)
  have e2 := door3 n (bookD rs) (.list []) (.dict (kvsD rs ps)) v v "InvalidThing" (f_priced n _ _ _ _ _ _ (.inr ⟨(bk_ok Z.mem).chk (n + 3), .inr ⟨map_at (reg_ok (n + 3)) rs Z.mem, .inr ⟨hp n, thing_bad (n + 5) Z.mem h v mv⟩⟩⟩))
  intro r mr
  simp only [rowsT, List.mem_cons, List.not_mem_nil, or_false] at mr
  rcases mr with rfl | rfl | rfl | rfl
  · exact ⟨by dsimp only; omega, hs, e0⟩
  · exact ⟨by dsimp only; omega, hs, e1⟩
  · exact ⟨by dsimp only; omega, hs, e2.1⟩
  · exact ⟨by dsimp only; omega, hs, e2.2⟩
set_option Elab.async false
set_option linter.all false
set_option maxRecDepth 100000
set_option maxHeartbeats 4000000
open PySem PySem.W PyProof.Rows
theorem ne_self (i : Int) (s : Str) : cmpD .ne (.list [.list [.int i], .str s]) (.list [.list [.int i], .str s]) = some false := by
  show (if ((PyData.list [.list [.int i], .str s]).plain && (PyData.list [.list [.int i], .str s]).plain && decide (min (PyData.list [.list [.int i], .str s]).depth (PyData.list [.list [.int i], .str s]).depth ≤ 60)) = true then some (!PyData.eqv (.list [.list [.int i], .str s]) (.list [.list [.int i], .str s])) else none) = _
  rw [if_pos (by simp [PyData.plain, PyData.plainAll, PyData.depth, PyData.depthAll])]
  simp [PyData.eqv, PyData.eqvAll]
theorem rf_step (n : Nat) {r : Rf} (h : RfOk n r) (bk p t rw : PyData) : stepD (.t [5, 6, 7, 4]) (evq gt (PhU (n + 1)) rf kp (some (.cmp .ne (.call 80 [(.v 5), (.v 6)]) (.lst [(.lst [(.v 7)]), (.b1 .repr (.v 4))])))) (ev gt (PhU (n + 1)) rf kp (.k (.int 1))) r.d [.val bk, .val p, .val t, .val rw, .no, .no, .no, .no] = .ok (none, [.val bk, .val p, .val t, .val rw, .val r.v, .val (.int (Int.ofNat r.door)), .val (.list [r.a0, r.a1, r.a2, r.a3]), .val (.int r.k.i)]) := by
  have e := h.caught
  have e2 := repr_ok h.sh
  have e3 := ne_self r.k.i r.v.shown
  simp_arith [stepD, Rf.d, bindT, bindL, e, e2, e3]
set_option Elab.async false
set_option linter.all false
set_option maxRecDepth 100000
set_option maxHeartbeats 4000000
open PySem PySem.W PyProof.Rows
/-- no row differs -/
theorem rf_all (n : Nat) (bk p t : PyData) (L : List Rf) (hL : ∀ r ∈ L, RfOk n r) (hz : L.length ≤ 100000) (s4 : Slot) (ho : s4.isOwn = false) : ev gt (PhU (n + 1)) rf kp (.lc [5, 6, 7, 4] (.t [5, 6, 7, 4]) (.e (.v 3)) (some (.cmp .ne (.call 80 [(.v 5), (.v 6)]) (.lst [(.lst [(.v 7)]), (.b1 .repr (.v 4))]))) (.k (.int 1))) [.val bk, .val p, .val t, .val (.list (L.map Rf.d)), s4, .no, .no, .no] = .ok (.list [], [.val bk, .val p, .val t, .val (.list (L.map Rf.d)), s4, .no, .no, .no]) := by
  have e := ev_lc (GT := gt) (PhU := PhU (n + 1)) (RF := rf) (KP := kp) (own := [5, 6, 7, 4]) (tg := .t [5, 6, 7, 4]) (it := .e (.v 3)) (test := some (.cmp .ne (.call 80 [(.v 5), (.v 6)]) (.lst [(.lst [(.v 7)]), (.b1 .repr (.v 4))]))) (elt := .k (.int 1)) (ρ := [.val bk, .val p, .val t, .val (.list (L.map Rf.d)), s4, .no, .no, .no]) (ρ1 := [.val bk, .val p, .val t, .val (.list (L.map Rf.d)), s4, .no, .no, .no]) (xs := L.map Rf.d) (fun _ => none) rfl (by
    show ((Slot.no).isOwn || ((Slot.no).isOwn || ((Slot.no).isOwn || (s4.isOwn || false)))) = false
    rw [ho]
    rfl) (by rw [List.length_map, sizeLine_eq]; omega) rfl rfl (fun x m => by
    obtain ⟨r, mr, rfl⟩ := List.mem_map.mp m
    exact ⟨_, rf_step n (hL r mr) bk p t (.list (L.map Rf.d)), rfl⟩)
  rw [e]
  have hn : (L.map Rf.d).filterMap (fun _ => (none : Option PyData)) = [] := by simp
  rw [hn]
set_option Elab.async false
set_option linter.all false
set_option maxRecDepth 100000
set_option maxHeartbeats 4000000
open PySem PySem.W PyProof.Rows
theorem add_ll {a b : List PyData} (h : a.length + b.length ≤ sizeLine) : binD .add (.list a) (.list b) = some (.list (a ++ b)) := if_pos h
abbrev bodyP : List S := [.asg 3 (.bin .add (.v 3) (.lst [(.tup [(.k (.int 0)), (.lst [(.v 0), (.v 4), (.k .none), (.k .none)]), (.k (.int 2)), (.v 4)]), (.tup [(.k (.int 1)), (.lst [(.v 0), (.lst []), (.v 4), (.k .none)]), (.k (.int 2)), (.v 4)]), (.tup [(.k (.int 2)), (.lst [(.v 0), (.lst []), (.v 4), (.k .none)]), (.k (.int 2)), (.v 4)])]))]
theorem stepP (n : Nat) (bk p t v : PyData) (L : List PyData) (hl : L.length + 3 ≤ sizeLine) (s4 : Slot) : bodyF gt (PhU n) rf kp 0 (.n 4) bodyP v [.val bk, .val p, .val t, .val (.list L), s4, .no, .no, .no] = .nx [.val bk, .val p, .val t, .val (.list (L ++ (rowsP bk v).map Rf.d)), .val v, .no, .no, .no] := by
  have e := add_ll (a := L) (b := (rowsP bk v).map Rf.d) (by show L.length + 3 ≤ _; exact hl)
  have e : binD .add (.list L) (.list [.tuple [.int 0, .list [bk, v, .none, .none], .int 2, v], .tuple [.int 1, .list [bk, .list [], v, .none], .int 2, v], .tuple [.int 2, .list [bk, .list [], v, .none], .int 2, v]]) = some (.list (L ++ (rowsP bk v).map Rf.d)) := e
  simp_arith [bodyF, bindT, e]
set_option Elab.async false
set_option linter.all false
set_option maxRecDepth 100000
set_option maxHeartbeats 4000000
open PySem PySem.W PyProof.Rows
/-- a loop whose every turn appends rows -/
theorem loop_rows {step : PyData → DEnv → Fl} {bk p t : PyData} {rows : PyData → List Rf} {m : Nat} {ok : PyData → Prop} (hm : ∀ v, (rows v).length ≤ m) (hs : ∀ (v : PyData) (L : List PyData) (s4 : Slot), ok v → L.length + m ≤ sizeLine → step v [.val bk, .val p, .val t, .val (.list L), s4, .no, .no, .no] = .nx [.val bk, .val p, .val t, .val (.list (L ++ (rows v).map Rf.d)), .val v, .no, .no, .no]) :
    ∀ (vs : List PyData) (L : List Rf) (s4 : Slot), (∀ v ∈ vs, ok v) → L.length + m * vs.length + m ≤ sizeLine → ∃ s4', forLoop step vs [.val bk, .val p, .val t, .val (.list (L.map Rf.d)), s4, .no, .no, .no] = .nx [.val bk, .val p, .val t, .val (.list ((L ++ vs.flatMap rows).map Rf.d)), s4', .no, .no, .no] ∧ (s4'.isOwn = false ∨ s4' = s4)
  | [], L, s4, _, _ => ⟨s4, by simp [forLoop], .inr rfl⟩
  | v :: vs, L, s4, ho, hl => by
    rw [List.length_cons, Nat.mul_add] at hl
    have hv := hm v
    obtain ⟨s5, e, h⟩ := loop_rows hm hs vs (L ++ rows v) (.val v) (fun x mx => ho x (List.mem_cons_of_mem _ mx)) (by rw [List.length_append]; omega)
    refine ⟨s5, ?_, ?_⟩
    · unfold forLoop
      rw [hs v (L.map Rf.d) s4 (ho v List.mem_cons_self) (by rw [List.length_map]; omega), ← List.map_append]
      dsimp only
      rw [e, List.flatMap_cons, List.append_assoc]
    · rcases h with h | h
      · exact .inl h
      · exact .inl (by rw [h]; rfl)
set_option Elab.async false
set_option linter.all false
set_option maxRecDepth 100000
set_option maxHeartbeats 4000000
open PySem PySem.W PyProof.Rows
abbrev bodyT : List S := [.asg 3 (.bin .add (.v 3) (.lst [(.tup [(.k (.int 0)), (.lst [(.v 0), (.v 1), (.v 4), (.k .none)]), (.k (.int 3)), (.v 4)]), (.tup [(.k (.int 0)), (.lst [(.v 0), (.v 1), (.v 2), (.v 4)]), (.k (.int 3)), (.v 4)]), (.tup [(.k (.int 1)), (.lst [(.v 0), (.lst []), (.v 1), (.v 4)]), (.k (.int 3)), (.v 4)]), (.tup [(.k (.int 2)), (.lst [(.v 0), (.lst []), (.v 1), (.v 4)]), (.k (.int 3)), (.v 4)])]))]
theorem stepT (n : Nat) (bk p t v : PyData) (L : List PyData) (hl : L.length + 4 ≤ sizeLine) (s4 : Slot) : bodyF gt (PhU n) rf kp 0 (.n 4) bodyT v [.val bk, .val p, .val t, .val (.list L), s4, .no, .no, .no] = .nx [.val bk, .val p, .val t, .val (.list (L ++ (rowsT bk p t v).map Rf.d)), .val v, .no, .no, .no] := by
  have e : binD .add (.list L) (.list [.tuple [.int 0, .list [bk, p, v, .none], .int 3, v], .tuple [.int 0, .list [bk, p, t, v], .int 3, v], .tuple [.int 1, .list [bk, .list [], p, v], .int 3, v], .tuple [.int 2, .list [bk, .list [], p, v], .int 3, v]]) = some (.list (L ++ (rowsT bk p t v).map Rf.d)) := add_ll (a := L) (b := (rowsT bk p t v).map Rf.d) (by show L.length + 4 ≤ _; exact hl)
  simp_arith [bodyF, bindT, e]
abbrev bodyR : List S := [.asg 3 (.bin .add (.v 3) (.lst [(.tup [(.k (.int 1)), (.lst [(.v 0), (.v 4), (.k .none), (.k .none)]), (.k (.int 1)), (.v 4)]), (.tup [(.k (.int 2)), (.lst [(.v 0), (.v 4), (.k .none), (.k .none)]), (.k (.int 1)), (.v 4)])]))]
theorem stepR (n : Nat) (bk p t v : PyData) (L : List PyData) (hl : L.length + 2 ≤ sizeLine) (s4 : Slot) : bodyF gt (PhU n) rf kp 0 (.n 4) bodyR v [.val bk, .val p, .val t, .val (.list L), s4, .no, .no, .no] = .nx [.val bk, .val p, .val t, .val (.list (L ++ (rowsR bk v).map Rf.d)), .val v, .no, .no, .no] := by
  have e : binD .add (.list L) (.list [.tuple [.int 1, .list [bk, v, .none, .none], .int 1, v], .tuple [.int 2, .list [bk, v, .none, .none], .int 1, v]]) = some (.list (L ++ (rowsR bk v).map Rf.d)) := add_ll (a := L) (b := (rowsR bk v).map Rf.d) (by show L.length + 2 ≤ _; exact hl)
  simp_arith [bodyF, bindT, e]
abbrev bodyFF : List S := [.asg 3 (.bin .add (.v 3) (.lst [(.tup [(.k (.int 0)), (.lst [(.v 4), (.k .none), (.k .none), (.k .none)]), (.k (.int 0)), (.v 4)]), (.tup [(.k (.int 1)), (.lst [(.v 4), (.k .none), (.k .none), (.k .none)]), (.k (.int 0)), (.v 4)]), (.tup [(.k (.int 2)), (.lst [(.v 4), (.k .none), (.k .none), (.k .none)]), (.k (.int 0)), (.v 4)])])), .ite (.cmp .isn (.call 82 [(.v 4), (.v 1)]) (.k (.bool true))) [.ret (.k (.bool false))] []]
theorem stepF (n : Nat) (bk p t v : PyData) (L : List PyData) (hl : L.length + 3 ≤ sizeLine) (s4 : Slot) (h : PhU n 82 [v, p] = .ok (.bool true, .none)) : bodyF gt (PhU n) rf kp 0 (.n 4) bodyFF v [.val bk, .val p, .val t, .val (.list L), s4, .no, .no, .no] = .nx [.val bk, .val p, .val t, .val (.list (L ++ (rowsF v).map Rf.d)), .val v, .no, .no, .no] := by
  have e : binD .add (.list L) (.list [.tuple [.int 0, .list [v, .none, .none, .none], .int 0, v], .tuple [.int 1, .list [v, .none, .none, .none], .int 0, v], .tuple [.int 2, .list [v, .none, .none, .none], .int 0, v]]) = some (.list (L ++ (rowsF v).map Rf.d)) := add_ll (a := L) (b := (rowsF v).map Rf.d) (by show L.length + 3 ≤ _; exact hl)
  simp_arith [bodyF, bindT, e, h]
set_option Elab.async false
set_option linter.all false
set_option maxRecDepth 100000
set_option maxHeartbeats 4000000
open PySem PySem.W PyProof.Rows
theorem nofields_all (n : Nat) {rs : List Rw} (m : rs ∈ books) (p : PyData) : ∀ v ∈ badF rs, PhU (n + 11) 82 [v, p] = .ok (.bool true, .none) := fun v mv =>
  f_nofields (n + 10) v p (sh_F m v mv) (f_prices_exc n v p (map_at (map_at (fld_bad (n + 1)) rs m) v mv))
theorem badF_list (n : Nat) {rs : List Rw} (m : rs ∈ books) (p t : PyData) : evi gt (PhU n) rf kp (.e (.lst [(.k .none), (.tup [(.k (.str "fields")), (.lst [])]), (.b1 .list (.v 0)), (.dct [])])) [.val (bookD rs), .val p, .val t, .val (.list []), .no, .no, .no, .no] = .ok (badF rs, [.val (bookD rs), .val p, .val t, .val (.list []), .no, .no, .no, .no]) := rfl
set_option Elab.async false
set_option linter.all false
set_option maxRecDepth 100000
set_option maxHeartbeats 4000000
open PySem PySem.W PyProof.Rows
/-- one loop of _law_refused -/
theorem for_rows (n : Nat) {it : It} {body : List S} {bk p t : PyData} {rows : PyData → List Rf} {m : Nat} {ok : PyData → Prop} {vs : List PyData} {L : List Rf} {s4 : Slot} (h4 : s4.isOwn = false) (hh : holdOf it = none)
    (hi : evi gt (PhU n) rf kp it [.val bk, .val p, .val t, .val (.list (L.map Rf.d)), s4, .no, .no, .no] = .ok (vs, [.val bk, .val p, .val t, .val (.list (L.map Rf.d)), s4, .no, .no, .no])) (hm : ∀ v, (rows v).length ≤ m)
    (hs : ∀ (v : PyData) (L : List PyData) (s4 : Slot), ok v → L.length + m ≤ sizeLine → bodyF gt (PhU n) rf kp 0 (.n 4) body v [.val bk, .val p, .val t, .val (.list L), s4, .no, .no, .no] = .nx [.val bk, .val p, .val t, .val (.list (L ++ (rows v).map Rf.d)), .val v, .no, .no, .no])
    (ho : ∀ v ∈ vs, ok v) (hl : L.length + m * vs.length + m ≤ sizeLine) :
    ∃ s4', exec gt (PhU n) rf kp 0 (.for (.n 4) it body) [.val bk, .val p, .val t, .val (.list (L.map Rf.d)), s4, .no, .no, .no] = .nx [.val bk, .val p, .val t, .val (.list ((L ++ vs.flatMap rows).map Rf.d)), s4', .no, .no, .no] ∧ s4'.isOwn = false := by
  obtain ⟨s5, e, h⟩ := loop_rows hm hs vs L s4 ho hl
  refine ⟨s5, ?_, ?_⟩
  · rw [exec_for, hi, hh, forF_ok, e]
  · rcases h with h | h
    · exact h
    · rw [h]; exact h4
set_option Elab.async false
set_option linter.all false
set_option maxRecDepth 100000
set_option maxHeartbeats 4000000
open PySem PySem.W PyProof.Rows
/-- all rows -/
def rowsAll (rs : List Rw) (ps : Pp) (vs : List PyData) : List Rf :=
  (badF rs).flatMap rowsF ++ (badsL (nsD rs) (kvsD rs ps)).flatMap (rowsP (bookD rs)) ++ (badT vs).flatMap (rowsT (bookD rs) (.dict (kvsD rs ps)) (.tuple vs)) ++ badR.flatMap (rowsR (bookD rs))
theorem rowsAll_ok (n : Nat) {rs : List Rw} {ps : Pp} (Z : Pz rs ps) {vs : List PyData} (h : RightV rs vs) : ∀ r ∈ rowsAll rs ps vs, RfOk (n + 13) r := fun r m => by
  unfold rowsAll at m
  rcases List.mem_append.mp m with m | m
  · rcases List.mem_append.mp m with m | m
    · rcases List.mem_append.mp m with m | m
      · obtain ⟨v, mv, mr⟩ := List.mem_flatMap.mp m
        exact rowsF_ok n (sh_F Z.mem v mv) (fun n => map_at (map_at (fld_bad n) rs Z.mem) v mv) r mr
      · obtain ⟨v, mv, mr⟩ := List.mem_flatMap.mp m
        exact rowsP_ok n Z.mem (Z.sh v mv) (fun n => Z.no n v mv) r mr
    · obtain ⟨v, mv, mr⟩ := List.mem_flatMap.mp m
      exact rowsT_ok n Z h mv r mr
  · obtain ⟨v, mv, mr⟩ := List.mem_flatMap.mp m
    exact rowsR_ok n Z.mem mv r mr
set_option Elab.async false
set_option linter.all false
set_option maxRecDepth 100000
set_option maxHeartbeats 4000000
open PySem PySem.W PyProof.Rows
theorem len1 : (books.all fun rs => decide (rs.length ≤ 3)) = true := by decide +kernel
theorem badsL_len (ns : List Str) (kvs : List (PyData × PyData)) (h : ns.length ≤ 3) : (badsL ns kvs).length ≤ 100 := by
  have h1 : ∀ l : List Str, (l.flatMap fun nm => (badN nm).map fun odd => dd (((ns.filter fun o => decide (o ≠ nm)).map fun o => .tuple [.str o, priceOf kvs o]) ++ [.tuple [odd, priceOf kvs nm]])).length = 7 * l.length := fun l => by
    induction l with
    | nil => rfl
    | cons x l ih => rw [List.flatMap_cons, List.length_append, ih, List.length_map, List.length_cons]; simp [badN]; omega
  have h2 : ∀ l : List PyData, (l.flatMap fun odd => ns.map fun nm => dd (itsL kvs ++ [.tuple [.str nm, odd]])).length = ns.length * l.length := fun l => by
    induction l with
    | nil => rfl
    | cons x l ih => rw [List.flatMap_cons, List.length_append, ih, List.length_map, List.length_cons, Nat.mul_succ]; omega
  unfold badsL
  rw [List.length_append, List.length_append, h1, h2]
  have : odds.length = 12 := rfl
  rw [this]
  simp only [List.length_cons, List.length_nil]
  omega
set_option Elab.async false
set_option linter.all false
set_option maxRecDepth 100000
set_option maxHeartbeats 4000000
open PySem PySem.W PyProof.Rows
theorem sl_1 (l : List PyData) : slD (.tuple l) (some 1) none = some (.tuple (l.drop 1)) := by
  cases l with
  | nil => rfl
  | cons x l =>
    show some (PyData.tuple (((x :: l).drop (clampIx (x :: l).length 0 (some 1))).take (clampIx (x :: l).length (x :: l).length none - clampIx (x :: l).length 0 (some 1)))) = _
    have e : clampIx (x :: l).length 0 (some 1) = 1 := by
      show (if (1 : Int) < 0 then ((1 : Int) + ((x :: l).length : Int)).toNat else min (1 : Int).toNat (x :: l).length) = 1
      rw [if_neg (by decide), List.length_cons]
      show min 1 (l.length + 1) = 1
      omega
    rw [e]
    show some (PyData.tuple (l.take ((x :: l).length - 1))) = some (.tuple l)
    rw [List.length_cons, Nat.add_sub_cancel, List.take_length]
theorem add_tt {a b : List PyData} (h : a.length + b.length ≤ sizeLine) : binD .add (.tuple a) (.tuple b) = some (.tuple (a ++ b)) := if_pos h
theorem badT_list (n : Nat) (bk p : PyData) (vs : List PyData) (hv : vs.length ≤ 3) (r s4 : Slot) : evi gt (PhU n) rf kp (.e (.lst [(.k .none), (.b1 .list (.v 2)), (.bin .add (.v 2) (.tup [(.k (.str ""))])), (.sl (.v 2) (some (.k (.int 1))) none), (.bin .add (.tup [(.k .none)]) (.sl (.v 2) (some (.k (.int 1))) none)), (.bin .add (.tup [(.k (.str "zz"))]) (.sl (.v 2) (some (.k (.int 1))) none)), (.bin .add (.tup [(.k (.bool true))]) (.sl (.v 2) (some (.k (.int 1))) none))])) [.val bk, .val p, .val (.tuple vs), r, s4, .no, .no, .no] = .ok (badT vs, [.val bk, .val p, .val (.tuple vs), r, s4, .no, .no, .no]) := by
  have ld : (vs.drop 1).length ≤ 3 := by rw [List.length_drop]; omega
  have a1 : binD .add (.tuple vs) (.tuple [.str ""]) = some (.tuple (vs ++ [.str ""])) := add_tt (by rw [sizeLine_eq]; show vs.length + 1 ≤ _; omega)
  have ld : vs.tail.length ≤ 3 := by rw [List.length_tail]; omega
  have a2 : ∀ x : PyData, binD .add (.tuple [x]) (.tuple vs.tail) = some (.tuple (x :: vs.tail)) := fun x => add_tt (by rw [sizeLine_eq]; show 1 + _ ≤ _; omega)
  have s1 : slD (.tuple vs) (some 1) none = some (.tuple vs.tail) := by rw [sl_1, List.drop_one]
  simp_arith [s1, a1, a2, iterD, badT]
set_option Elab.async false
set_option linter.all false
set_option maxRecDepth 100000
set_option maxHeartbeats 4000000
open PySem PySem.W PyProof.Rows
theorem f_refused (n : Nat) {rs : List Rw} {ps : Pp} (Z : Pz rs ps) {vs : List PyData} (h : RightV rs vs) : PhU (n + 15) 81 [bookD rs, .dict (kvsD rs ps), .tuple vs] = .ok (.bool true, .none) := by
  have few := Z.few
  have hl := right_len h
  have lb := badsL_len (nsD rs) (kvsD rs ps) (by rw [nsD, List.length_map]; exact few)
  show runD gt (PhU (n + 14)) rf kp 0 D__law_refused [bookD rs, .dict (kvsD rs ps), .tuple vs] = _
  rw [runD_eq rfl rfl]
  obtain ⟨s1, e1, q1⟩ := for_rows (n + 14) (bk := bookD rs) (p := .dict (kvsD rs ps)) (t := .tuple vs) (it := .e (.lst [(.k .none), (.tup [(.k (.str "fields")), (.lst [])]), (.b1 .list (.v 0)), (.dct [])])) (body := bodyFF) (rows := rowsF) (m := 3) (ok := fun v => PhU (n + 14) 82 [v, .dict (kvsD rs ps)] = .ok (.bool true, .none)) (vs := badF rs) (L := []) (s4 := .no) rfl rfl rfl (fun v => Nat.le_refl _) (fun v L s4 o hL => stepF (n + 14) _ _ _ v L hL s4 o) (fun v mv => nofields_all (n + 3) Z.mem _ v mv) (by rw [sizeLine_eq]; show 0 + 3 * 4 + 3 ≤ _; omega)
  have e1' : exec gt (PhU (n + 14)) rf kp 0 (.for (.n 4) (.e (.lst [(.k .none), (.tup [(.k (.str "fields")), (.lst [])]), (.b1 .list (.v 0)), (.dct [])])) bodyFF) [.val (bookD rs), .val (.dict (kvsD rs ps)), .val (.tuple vs), .val (.list []), .no, .no, .no, .no] = .nx _ := e1
  have b := Z.bads (n + 9)
  obtain ⟨s2, e2, q2⟩ := for_rows (n + 14) (bk := bookD rs) (p := .dict (kvsD rs ps)) (t := .tuple vs) (it := .e (.call 79 [(.v 0), (.v 1)])) (body := bodyP) (rows := rowsP (bookD rs)) (m := 3) (ok := fun _ => True) (vs := badsL (nsD rs) (kvsD rs ps)) (L := [] ++ (badF rs).flatMap rowsF) (s4 := s1) q1 rfl (by simp_arith [b, iterD]) (fun v => Nat.le_refl _) (fun v L s4 _ hL => stepP (n + 14) _ _ _ v L hL s4) (fun _ _ => trivial) (by rw [sizeLine_eq]; show 12 + _ + 3 ≤ _; omega)
  have l1 : ([] ++ (badF rs).flatMap rowsF : List Rf).length = 12 := rfl
  have fl : ∀ (f : PyData → List Rf) (m : Nat) (l : List PyData), (∀ v, (f v).length = m) → (l.flatMap f).length = m * l.length := fun f m l hf => by
    induction l with
    | nil => rfl
    | cons x l ih => rw [List.flatMap_cons, List.length_append, ih, hf, List.length_cons, Nat.mul_succ]; omega
  have l2 := fl (rowsP (bookD rs)) 3 (badsL (nsD rs) (kvsD rs ps)) (fun _ => rfl)
  have l3 := fl (rowsT (bookD rs) (.dict (kvsD rs ps)) (.tuple vs)) 4 (badT vs) (fun _ => rfl)
  have lT : (badT vs).length = 7 := rfl
  have lR : badR.length = 6 := rfl
  obtain ⟨s3, e3, q3⟩ := for_rows (n + 14) (bk := bookD rs) (p := .dict (kvsD rs ps)) (t := .tuple vs) (it := .e (.lst [(.k .none), (.b1 .list (.v 2)), (.bin .add (.v 2) (.tup [(.k (.str ""))])), (.sl (.v 2) (some (.k (.int 1))) none), (.bin .add (.tup [(.k .none)]) (.sl (.v 2) (some (.k (.int 1))) none)), (.bin .add (.tup [(.k (.str "zz"))]) (.sl (.v 2) (some (.k (.int 1))) none)), (.bin .add (.tup [(.k (.bool true))]) (.sl (.v 2) (some (.k (.int 1))) none))])) (body := bodyT) (rows := rowsT (bookD rs) (.dict (kvsD rs ps)) (.tuple vs)) (m := 4) (ok := fun _ => True) (vs := badT vs) (L := [] ++ (badF rs).flatMap rowsF ++ (badsL (nsD rs) (kvsD rs ps)).flatMap (rowsP (bookD rs))) (s4 := s2) q2 rfl (badT_list _ _ _ vs (by omega) _ _) (fun v => Nat.le_refl _) (fun v L s4 _ hL => stepT (n + 14) _ _ _ v L hL s4) (fun _ _ => trivial) (by rw [sizeLine_eq, List.length_append, l1, l2, lT]; omega)
  obtain ⟨s4, e4, q4⟩ := for_rows (n + 14) (bk := bookD rs) (p := .dict (kvsD rs ps)) (t := .tuple vs) (it := .e (.lst [(.k .none), (.tup []), (.lst [(.k .none)]), (.lst [(.lst [])]), (.lst [(.lst [(.k .none)])]), (.dct [])])) (body := bodyR) (rows := rowsR (bookD rs)) (m := 2) (ok := fun _ => True) (vs := badR) (L := [] ++ (badF rs).flatMap rowsF ++ (badsL (nsD rs) (kvsD rs ps)).flatMap (rowsP (bookD rs)) ++ (badT vs).flatMap (rowsT (bookD rs) (.dict (kvsD rs ps)) (.tuple vs))) (s4 := s3) q3 rfl rfl (fun v => Nat.le_refl _) (fun v L s4 _ hL => stepR (n + 14) _ _ _ v L hL s4) (fun _ _ => trivial) (by rw [sizeLine_eq, List.length_append, List.length_append, l1, l2, l3, lT, lR]; omega)
  have hall := rf_all (n + 13) (bookD rs) (.dict (kvsD rs ps)) (.tuple vs) (rowsAll rs ps vs) (fun r m => rowsAll_ok n Z h r m) (by
    unfold rowsAll
    have l4 := fl (rowsR (bookD rs)) 2 badR (fun _ => rfl)
    have l0 : ((badF rs).flatMap rowsF).length = 12 := rfl
    rw [List.length_append, List.length_append, List.length_append, l0, l2, l3, l4, lT, lR]
    omega) s4 q4
  have hret : exec gt (PhU (n + 14)) rf kp 0 (.ret (.cmp .eq (.lc [5, 6, 7, 4] (.t [5, 6, 7, 4]) (.e (.v 3)) (some (.cmp .ne (.call 80 [(.v 5), (.v 6)]) (.lst [(.lst [(.v 7)]), (.b1 .repr (.v 4))]))) (.k (.int 1))) (.lst []))) [.val (bookD rs), .val (.dict (kvsD rs ps)), .val (.tuple vs), .val (.list ((rowsAll rs ps vs).map Rf.d)), s4, .no, .no, .no] = .rt (.bool true) [.val (bookD rs), .val (.dict (kvsD rs ps)), .val (.tuple vs), .val (.list ((rowsAll rs ps vs).map Rf.d)), s4, .no, .no, .no] := by
    have hall : ev gt (PhU (n + 14)) rf kp _ _ = _ := hall
    rw [exec_ret, ev_cmp, hall]
    rfl
  show endF (execs gt (PhU (n + 14)) rf kp 0 (.asg 3 (.lst []) :: _ :: _ :: _ :: _ :: _ :: []) [.val (bookD rs), .val (.dict (kvsD rs ps)), .val (.tuple vs), .no, .no, .no, .no, .no]) none = _
  rw [execs_cons, show exec gt (PhU (n + 14)) rf kp 0 (.asg 3 (.lst [])) [.val (bookD rs), .val (.dict (kvsD rs ps)), .val (.tuple vs), .no, .no, .no, .no, .no] = .nx [.val (bookD rs), .val (.dict (kvsD rs ps)), .val (.tuple vs), .val (.list []), .no, .no, .no, .no] from rfl, thenF_nx]
  rw [execs_cons, e1', thenF_nx, execs_cons, e2, thenF_nx, execs_cons, e3, thenF_nx, execs_cons, e4, thenF_nx, execs_cons]
  have fin : ∀ {x y : Fl} {k : DEnv → Fl} {o : Out (PyData × PyData)}, x = y → endF (thenF y k) none = o → endF (thenF x k) none = o := fun e h => by rw [e]; exact h
  exact fin hret rfl
set_option Elab.async false
set_option linter.all false
set_option maxRecDepth 100000
set_option maxHeartbeats 4000000
open PySem PySem.W PyProof.Rows
/-! ### _law_right -/
/-- things drawn -/
theorem things_loop (n : Nat) {rs : List Rw} (m : rs ∈ books) (s2 s3 s4 s5 s6 s7 s8 s9 s10 s11 s12 : Slot) : ∀ (k b : Nat) (g : List PyData) (acc : List PyData) (j : Slot) (i0 : Int), b + 9 * k + 30 < 2 ^ 37 → Gd b g →
    ∃ (ts : List (List PyData)) (g' : List PyData) (j' : Slot), lcLoop [13] (stepD (.n 13) (evq gt (PhU (n + 5)) rf kp none) (ev gt (PhU (n + 5)) rf kp (.call 74 [(.bor 0), (.v 1), (.lst [])]))) (rangeD i0 k) acc [.own true g, .val (bookD rs), s2, s3, s4, s5, s6, s7, s8, s9, s10, s11, s12, j] = .ok (acc ++ ts.map .tuple, [.own true g', .val (bookD rs), s2, s3, s4, s5, s6, s7, s8, s9, s10, s11, s12, j']) ∧ ts.length = k ∧ (∀ t ∈ ts, RightV rs t) ∧ Gd (b + 9 * k) g'
  | 0, b, g, acc, j, i0, _, G => ⟨[], g, j, by simp [lcLoop, rangeD], rfl, (fun _ m => by cases m), G⟩
  | k + 1, b, g, acc, j, i0, hb, G => by
    obtain ⟨vs, g1, e, h1, G1⟩ := f_thing n b m (by omega) G
    obtain ⟨ts, g2, j2, e2, h2, h3, G2⟩ := things_loop n m s2 s3 s4 s5 s6 s7 s8 s9 s10 s11 s12 k (b + 9) g1 (acc ++ [.tuple vs]) (.val (.int i0)) (i0 + 1) (by omega) G1
    refine ⟨vs :: ts, g2, j2, ?_, by rw [List.length_cons, h2], fun t mt => ?_, G2.mono (by omega)⟩
    rotate_left
    · rcases List.mem_cons.mp mt with rfl | mt
      · exact h1
      · exact h3 t mt
    have st : stepD (.n 13) (evq gt (PhU (n + 5)) rf kp none) (ev gt (PhU (n + 5)) rf kp (.call 74 [(.bor 0), (.v 1), (.lst [])])) (.int i0) [.own true g, .val (bookD rs), s2, s3, s4, s5, s6, s7, s8, s9, s10, s11, s12, .no] = .ok (some (.tuple vs), [.own true g1, .val (bookD rs), s2, s3, s4, s5, s6, s7, s8, s9, s10, s11, s12, .val (.int i0)]) := by
      simp_arith [stepD, bindT, refArg, List.eraseIdx, e, putBack]
    show lcLoop [13] _ (.int i0 :: rangeD (i0 + 1) k) acc _ = _
    unfold lcLoop
    rw [show wipeD [Slot.own true g, .val (bookD rs), s2, s3, s4, s5, s6, s7, s8, s9, s10, s11, s12, j] [13] = [.own true g, .val (bookD rs), s2, s3, s4, s5, s6, s7, s8, s9, s10, s11, s12, .no] from rfl, st]
    show lcLoop [13] _ (rangeD (i0 + 1) k) (acc ++ [.tuple vs]) _ = _
    rw [e2, List.append_assoc]
    rfl
set_option Elab.async false
set_option linter.all false
set_option maxRecDepth 100000
set_option maxHeartbeats 4000000
open PySem PySem.W PyProof.Rows
/-! ### what is kept is shown -/
def smB (v : PyData) : Bool := decide (v.depth ≤ 10) && decide (v.bulk ≤ 1000)
theorem smk1 (a b : Nat) : (books1.all fun rs => smB (.dict (kvsD rs [(a, b)])) && smB (.dict (kvsD rs [(a, b)]).reverse)) = true := by kernel_rfl
theorem smk2 (a b c d : Nat) : (books2.all fun rs => smB (.dict (kvsD rs [(a, b), (c, d)])) && smB (.dict (kvsD rs [(a, b), (c, d)]).reverse)) = true := by kernel_rfl
theorem smk3 (a b c d e f : Nat) : (books3.all fun rs => smB (.dict (kvsD rs [(a, b), (c, d), (e, f)])) && smB (.dict (kvsD rs [(a, b), (c, d), (e, f)]).reverse)) = true := by kernel_rfl
theorem Pz.sms {rs : List Rw} {ps : Pp} (Z : Pz rs ps) : smB (.dict (kvsD rs ps)) = true ∧ smB (.dict (kvsD rs ps).reverse) = true := by
  rcases Z.three with ⟨a, b, rfl, m⟩ | ⟨a, b, c, d, rfl, m⟩ | ⟨a, b, c, d, e, f, rfl, m⟩
  · exact and2 (List.all_eq_true.mp (smk1 a b) rs m)
  · exact and2 (List.all_eq_true.mp (smk2 a b c d) rs m)
  · exact and2 (List.all_eq_true.mp (smk3 a b c d e f) rs m)
theorem sm_sh {v : PyData} (h : LS v) (b : smB v = true) : Sh v := by
  obtain ⟨b1, b2⟩ := and2 b
  have b1 := of_decide_eq_true b1
  have b2 := of_decide_eq_true b2
  refine sh_of h ?_
  unfold shB
  rw [Bool.and_eq_true]
  exact ⟨decide_eq_true (by omega), decide_eq_true (by omega)⟩
theorem Pz.shp {rs : List Rw} {ps : Pp} (Z : Pz rs ps) : Sh (.dict (kvsD rs ps)) ∧ Sh (.dict (kvsD rs ps).reverse) :=
  ⟨sm_sh (ls_dict.mpr Z.ls) Z.sms.1, sm_sh (ls_dict.mpr fun q m => Z.ls q (List.mem_reverse.mp m)) Z.sms.2⟩
theorem bk_sm : (books.all fun rs => smB (bookD rs) && ((bookD rs).leavesShort 13 && (bookD rs).showable)) = true := by decide +kernel
theorem ts_sm : ∀ {ts : List (List PyData)}, (∀ t ∈ ts, t.length ≤ 3 ∧ ∀ v ∈ t, Fl0 v) → PyData.depthAll (ts.map .tuple) ≤ 1 ∧ PyData.bulkAll (ts.map .tuple) ≤ 19 * ts.length
  | [], _ => ⟨Nat.zero_le _, Nat.le_refl _⟩
  | t :: ts, h => by
    obtain ⟨h1, h2⟩ := ts_sm (ts := ts) fun x m => h x (List.mem_cons_of_mem _ m)
    obtain ⟨h3, h4⟩ := h t List.mem_cons_self
    obtain ⟨h5, h6⟩ := fl_all h4
    refine ⟨?_, ?_⟩
    · show max (PyData.depthAll t + 1) (PyData.depthAll (ts.map .tuple)) ≤ 1
      omega
    · show PyData.bulkAll t + 1 + PyData.bulkAll (ts.map .tuple) ≤ 19 * (ts.length + 1)
      omega
theorem Pz.kept {rs : List Rw} {ps : Pp} (Z : Pz rs ps) {ts : List (List PyData)} (h5 : ts.length = 5) (hr : ∀ t ∈ ts, RightV rs t) : Sh (.list [bookD rs, .dict (kvsD rs ps), .list (ts.map .tuple)]) := by
  have few := Z.few
  obtain ⟨b1, b2⟩ := and2 (List.all_eq_true.mp bk_sm rs Z.mem)
  obtain ⟨c1, c2⟩ := and2 b1
  obtain ⟨d1, d2⟩ := and2 Z.sms.1
  have c1 := of_decide_eq_true c1
  have c2 := of_decide_eq_true c2
  have d1 := of_decide_eq_true d1
  have d2 := of_decide_eq_true d2
  have ls : ∀ t ∈ ts, ∀ v ∈ t, LS v := fun t m => right_ls (fun r mr l e x mx => (book_str Z.mem r mr l e x mx).1) (hr t m)
  have fl : ∀ t ∈ ts, ∀ v ∈ t, Fl0 v := fun t m => right_fl (fun r mr l e x mx => (book_str Z.mem r mr l e x mx).2) (hr t m)
  obtain ⟨e1, e2⟩ := ts_sm (ts := ts) fun t m => ⟨by have := right_len (hr t m); omega, fl t m⟩
  rw [h5] at e2
  refine sm_sh (ls_list.mpr fun x m => ?_) ?_
  · simp only [List.mem_cons, List.not_mem_nil, or_false] at m
    rcases m with rfl | rfl | rfl
    · exact and2 b2
    · exact ls_dict.mpr Z.ls
    · refine ls_list.mpr fun y my => ?_
      obtain ⟨t, mt, rfl⟩ := List.mem_map.mp my
      exact ls_tup.mpr (ls t mt)
  · unfold smB
    rw [Bool.and_eq_true]
    refine ⟨decide_eq_true ?_, decide_eq_true ?_⟩
    · show max (bookD rs).depth (max (PyData.dict (kvsD rs ps)).depth (max (PyData.depthAll (ts.map .tuple) + 1) 0)) + 1 ≤ 10
      have c3 : (bookD rs).depth ≤ 9 := by
        have h : (books.all fun rs => decide ((bookD rs).depth ≤ 9)) = true := by decide +kernel
        exact of_decide_eq_true (List.all_eq_true.mp h rs Z.mem)
      have d3 : (PyData.dict (kvsD rs ps)).depth ≤ 9 := by
        have h1 : ∀ (rs : List Rw) (ps : Pp), PyData.depthKv (kvsD rs ps) ≤ 1 := fun rs ps => by
          unfold kvsD
          induction rs.zip ps with
          | nil => exact Nat.zero_le _
          | cons q l ih =>
            show max (max 0 1) (PyData.depthKv _) ≤ 1
            omega
        have := h1 rs ps
        show PyData.depthKv (kvsD rs ps) + 1 ≤ 9
        omega
      omega
    · show (bookD rs).bulk + 1 + ((PyData.dict (kvsD rs ps)).bulk + 1 + (PyData.bulkAll (ts.map .tuple) + 1 + 0)) ≤ 1000
      have c3 : (bookD rs).bulk ≤ 200 := by
        have h : (books.all fun rs => decide ((bookD rs).bulk ≤ 200)) = true := by decide +kernel
        exact of_decide_eq_true (List.all_eq_true.mp h rs Z.mem)
      have d3 : (PyData.dict (kvsD rs ps)).bulk ≤ 200 := by
        have h : decide ((PyData.dict (kvsD rs ps)).bulk ≤ 200) = true := by
          rcases Z.three with ⟨a, b, rfl, m⟩ | ⟨a, b, c, d, rfl, m⟩ | ⟨a, b, c, d, e, f, rfl, m⟩
          · have h : (books1.all fun rs => decide ((PyData.dict (kvsD rs [(a, b)])).bulk ≤ 200)) = true := by kernel_rfl
            exact List.all_eq_true.mp h rs m
          · have h : (books2.all fun rs => decide ((PyData.dict (kvsD rs [(a, b), (c, d)])).bulk ≤ 200)) = true := by kernel_rfl
            exact List.all_eq_true.mp h rs m
          · have h : (books3.all fun rs => decide ((PyData.dict (kvsD rs [(a, b), (c, d), (e, f)])).bulk ≤ 200)) = true := by kernel_rfl
            exact List.all_eq_true.mp h rs m
        exact of_decide_eq_true h
      omega
/-! ### the first loop of _law_right -/
abbrev bodyC : List S := [.par [10, 11] [false, false] [(.b1 .repr (.v 8)), (.cmp .lt (.v 7) (.k (.int 2)))], .ite (.orL [(.not (.call 69 [(.lst [(.call 52 [(.v 1), (.v 8)]), (.callK 52 [1, 0] [(.v 8), (.v 1)])]), (.lst [(.v 11), (.v 11)])])), (.cmp .ne (.b1 .repr (.v 8)) (.v 10))]) [.ret (.k (.bool false))] []]
theorem kp52 : kp 52 [1, 0] = [1, 0] := rfl
theorem kp56 : kp 56 [3, 2, 1, 0] = [3, 2, 1, 0] := rfl
theorem turnC (n : Nat) (bk v : PyData) (i : Nat) (b : Bool) (hb : decide ((i : Int) < 2) = b) (hs : Sh v) (h : PhU (n + 3) 52 [bk, v] = .ok (.bool b, .none)) (s0 s2 s3 s4 s5 s6 j7 j8 s9 j10 j11 s12 s13 : Slot) :
    bodyF gt (PhU (n + 3)) rf kp 0 (.t [7, 8]) bodyC (.tuple [.int i, v]) [s0, .val bk, s2, s3, s4, s5, s6, j7, j8, s9, j10, j11, s12, s13] = .nx [s0, .val bk, s2, s3, s4, s5, s6, .val (.int i), .val v, s9, .val (.str v.shown), .val (.bool b), s12, s13] := by
  have e1 := repr_ok hs
  have e2 := same2 n b
  have hp : exec gt (PhU (n + 3)) rf kp 0 (.par [10, 11] [false, false] [(.b1 .repr (.v 8)), (.cmp .lt (.v 7) (.k (.int 2)))]) [s0, .val bk, s2, s3, s4, s5, s6, .val (.int i), .val v, s9, j10, j11, s12, s13] = .nx [s0, .val bk, s2, s3, s4, s5, s6, .val (.int i), .val v, s9, .val (.str v.shown), .val (.bool b), s12, s13] := by
    simp_arith [evPs, e1, hb, parF, parSet]
  show execs gt (PhU (n + 3)) rf kp 0 (_ :: _) [s0, .val bk, s2, s3, s4, s5, s6, .val (.int i), .val v, s9, j10, j11, s12, s13] = _
  rw [execs_cons, hp, thenF_nx]
  simp_arith [h, kp52, e2, e1]
set_option Elab.async false
set_option linter.all false
set_option maxRecDepth 100000
set_option maxHeartbeats 4000000
open PySem PySem.W PyProof.Rows
theorem loopC (n : Nat) (bk : PyData) (s0 s2 s3 s4 s5 s6 s9 s12 s13 : Slot) : ∀ (vs : List PyData) (i : Nat) (j7 j8 j10 j11 : Slot), (∀ k v, vs[k]? = some v → Sh v ∧ PhU (n + 3) 52 [bk, v] = .ok (.bool (decide (((i + k : Nat) : Int) < 2)), .none)) →
    ∃ k7 k8 k10 k11, forLoop (bodyF gt (PhU (n + 3)) rf kp 0 (.t [7, 8]) bodyC) (enumD i vs) [s0, .val bk, s2, s3, s4, s5, s6, j7, j8, s9, j10, j11, s12, s13] = .nx [s0, .val bk, s2, s3, s4, s5, s6, k7, k8, s9, k10, k11, s12, s13]
  | [], i, j7, j8, j10, j11, _ => ⟨j7, j8, j10, j11, rfl⟩
  | v :: vs, i, j7, j8, j10, j11, h => by
    obtain ⟨hs, hf⟩ := h 0 v rfl
    have e := turnC n bk v i _ rfl hs hf s0 s2 s3 s4 s5 s6 j7 j8 s9 j10 j11 s12 s13
    obtain ⟨k7, k8, k10, k11, e2⟩ := loopC n bk s0 s2 s3 s4 s5 s6 s9 s12 s13 vs (i + 1) (.val (.int i)) (.val v) (.val (.str v.shown)) (.val (.bool (decide ((i : Int) < 2)))) fun k w hk => by
      have := h (k + 1) w hk
      rwa [show i + (k + 1) = i + 1 + k by omega] at this
    refine ⟨k7, k8, k10, k11, ?_⟩
    show forLoop _ (.tuple [.int (i : Nat), v] :: enumD (i + 1) vs) _ = _
    unfold forLoop
    rw [e]
    exact e2
/-! ### the second loop -/
abbrev bodyD : List S := [.asg 11 (.call 78 [(.v 1), (.v 5), (.v 4), (.v 9)]), .asg 12 (.lst [(.call 56 [(.v 1), (.v 5), (.v 4), (.v 9)]), (.callK 56 [3, 2, 1, 0] [(.v 9), (.v 4), (.v 5), (.v 1)]), (.call 56 [(.v 1), (.v 5), (.v 9), (.v 4)])]), .ite (.not (.call 69 [(.bin .add (.v 12) (.lst [(.call 56 [(.v 1), (.v 3), (.v 4), (.v 9)])])), (.lst [(.v 11), (.v 11), (.v 11), (.v 11)])])) [.ret (.k (.bool false))] []]
theorem add_l31 (a b c d : PyData) : binD .add (.list [a, b, c]) (.list [d]) = some (.list [a, b, c, d]) := rfl
theorem turnD (n : Nat) (bk p t x y : PyData) (c : Int) (h1 : PhU (n + 2) 78 [bk, p, x, y] = .ok (.int c, .none)) (h2 : PhU (n + 2) 56 [bk, p, x, y] = .ok (.int c, .none)) (h3 : PhU (n + 2) 56 [bk, p, y, x] = .ok (.int c, .none)) (h4 : PhU (n + 2) 56 [bk, t, x, y] = .ok (.int c, .none)) (s0 s2 s6 j7 j8 j9 j10 j11 j12 s13 : Slot) :
    bodyF gt (PhU (n + 2)) rf kp 0 (.n 9) bodyD y [s0, .val bk, s2, .val t, .val x, .val p, s6, j7, j8, j9, j10, j11, j12, s13] = .nx [s0, .val bk, s2, .val t, .val x, .val p, s6, j7, j8, .val y, j10, .val (.int c), .val (.list [.int c, .int c, .int c]), s13] := by
  have e := same_ints n c 4 (by decide)
  have e : PhU (n + 2) 69 [.list [.int c, .int c, .int c, .int c], .list [.int c, .int c, .int c, .int c]] = .ok (.bool true, .none) := e
  simp_arith [bodyF, bindT, h1, h2, h3, h4, kp56, e, add_l31]
theorem loopD (n : Nat) (bk p t x : PyData) (s0 s2 s6 j7 j8 j10 s13 : Slot) : ∀ (ys : List PyData) (j9 j11 j12 : Slot), (∀ y ∈ ys, ∃ c : Int, PhU (n + 2) 78 [bk, p, x, y] = .ok (.int c, .none) ∧ PhU (n + 2) 56 [bk, p, x, y] = .ok (.int c, .none) ∧ PhU (n + 2) 56 [bk, p, y, x] = .ok (.int c, .none) ∧ PhU (n + 2) 56 [bk, t, x, y] = .ok (.int c, .none)) →
    ∃ k9 k11 k12, forLoop (bodyF gt (PhU (n + 2)) rf kp 0 (.n 9) bodyD) ys [s0, .val bk, s2, .val t, .val x, .val p, s6, j7, j8, j9, j10, j11, j12, s13] = .nx [s0, .val bk, s2, .val t, .val x, .val p, s6, j7, j8, k9, j10, k11, k12, s13]
  | [], j9, j11, j12, _ => ⟨j9, j11, j12, rfl⟩
  | y :: ys, j9, j11, j12, h => by
    obtain ⟨c, h1, h2, h3, h4⟩ := h y List.mem_cons_self
    have e := turnD n bk p t x y c h1 h2 h3 h4 s0 s2 s6 j7 j8 j9 j10 j11 j12 s13
    obtain ⟨k9, k11, k12, e2⟩ := loopD n bk p t x s0 s2 s6 j7 j8 j10 s13 ys (.val y) (.val (.int c)) (.val (.list [.int c, .int c, .int c])) fun z m => h z (List.mem_cons_of_mem _ m)
    refine ⟨k9, k11, k12, ?_⟩
    unfold forLoop
    rw [e]
    exact e2
abbrev bodyE : List S := [.for (.n 9) (.e (.v 6)) bodyD]
theorem loopE (n : Nat) (bk p t : PyData) (zs : List PyData) (s0 s2 j7 j8 j10 s13 : Slot) : ∀ (xs : List PyData) (j4 j9 j11 j12 : Slot), (∀ x ∈ xs, ∀ y ∈ zs, ∃ c : Int, PhU (n + 2) 78 [bk, p, x, y] = .ok (.int c, .none) ∧ PhU (n + 2) 56 [bk, p, x, y] = .ok (.int c, .none) ∧ PhU (n + 2) 56 [bk, p, y, x] = .ok (.int c, .none) ∧ PhU (n + 2) 56 [bk, t, x, y] = .ok (.int c, .none)) →
    ∃ k4 k9 k11 k12, forLoop (bodyF gt (PhU (n + 2)) rf kp 0 (.n 4) bodyE) xs [s0, .val bk, s2, .val t, j4, .val p, .val (.list zs), j7, j8, j9, j10, j11, j12, s13] = .nx [s0, .val bk, s2, .val t, k4, .val p, .val (.list zs), j7, j8, k9, j10, k11, k12, s13]
  | [], j4, j9, j11, j12, _ => ⟨j4, j9, j11, j12, rfl⟩
  | x :: xs, j4, j9, j11, j12, h => by
    obtain ⟨k9, k11, k12, e⟩ := loopD n bk p t x s0 s2 (.val (.list zs)) j7 j8 j10 s13 zs j9 j11 j12 (h x List.mem_cons_self)
    obtain ⟨k4', k9', k11', k12', e2⟩ := loopE n bk p t zs s0 s2 j7 j8 j10 s13 xs (.val x) k9 k11 k12 fun z m => h z (List.mem_cons_of_mem _ m)
    refine ⟨k4', k9', k11', k12', ?_⟩
    have e1 : bodyF gt (PhU (n + 2)) rf kp 0 (.n 4) bodyE x [s0, .val bk, s2, .val t, j4, .val p, .val (.list zs), j7, j8, j9, j10, j11, j12, s13] = .nx [s0, .val bk, s2, .val t, .val x, .val p, .val (.list zs), j7, j8, k9, j10, k11, k12, s13] := by
      show execs gt (PhU (n + 2)) rf kp 0 (_ :: _) [s0, .val bk, s2, .val t, .val x, .val p, .val (.list zs), j7, j8, j9, j10, j11, j12, s13] = _
      rw [execs_cons, exec_for]
      rw [show evi gt (PhU (n + 2)) rf kp (.e (.v 6)) [s0, .val bk, s2, .val t, .val x, .val p, .val (.list zs), j7, j8, j9, j10, j11, j12, s13] = .ok (zs, [s0, .val bk, s2, .val t, .val x, .val p, .val (.list zs), j7, j8, j9, j10, j11, j12, s13]) from rfl]
      rw [show holdOf (.e (.v 6)) = none from rfl, forF_ok, e]
      rfl
    unfold forLoop
    rw [e1]
    exact e2
set_option Elab.async false
set_option linter.all false
set_option maxRecDepth 100000
set_option maxHeartbeats 4000000
open PySem PySem.W PyProof.Rows
theorem add_lists {a b : List PyData} (h : a.length + b.length ≤ sizeLine) : binD .add (.list a) (.list b) = some (.list (a ++ b)) := if_pos h
def trnL (rs : List Rw) (ps : Pp) : Option PyData := (b1X .itemsL (.dict (kvsD rs ps))).bind fun d => match d with
  | .list l => b1X .dictP (.list l.reverse)
  | _ => none
theorem trn1 (a b : Nat) : (books1.map fun rs => trnL rs [(a, b)]) = books1.map fun rs => some (.dict (kvsD rs [(a, b)]).reverse) := by kernel_rfl
theorem trn2 (a b c d : Nat) : (books2.map fun rs => trnL rs [(a, b), (c, d)]) = books2.map fun rs => some (.dict (kvsD rs [(a, b), (c, d)]).reverse) := by kernel_rfl
theorem trn3 (a b c d e f : Nat) : (books3.map fun rs => trnL rs [(a, b), (c, d), (e, f)]) = books3.map fun rs => some (.dict (kvsD rs [(a, b), (c, d), (e, f)]).reverse) := by kernel_rfl
theorem Pz.trn {rs : List Rw} {ps : Pp} (Z : Pz rs ps) : trnL rs ps = some (.dict (kvsD rs ps).reverse) := by
  rcases Z.three with ⟨a, b, rfl, m⟩ | ⟨a, b, c, d, rfl, m⟩ | ⟨a, b, c, d, e, f, rfl, m⟩
  · exact map_at (trn1 a b) rs m
  · exact map_at (trn2 a b c d) rs m
  · exact map_at (trn3 a b c d e f) rs m
theorem kvs_plain (rs : List Rw) (ps : Pp) : plainKeys (kvsD rs ps) = true := by
  unfold plainKeys kvsD
  rw [List.all_eq_true]
  intro q m
  obtain ⟨z, _, rfl⟩ := List.mem_map.mp m
  rfl
theorem Pz.trn2 {rs : List Rw} {ps : Pp} (Z : Pz rs ps) : b1X .dictP (.list ((kvsD rs ps).map fun q => PyData.tuple [q.1, q.2]).reverse) = some (.dict (kvsD rs ps).reverse) := by
  have h := Z.trn
  unfold trnL at h
  rw [items_d, if_pos (kvs_plain rs ps)] at h
  exact h
abbrev lcT : E := .lc [13] (.n 13) (.range1 (.k (.int 5))) none (.call 74 [(.bor 0), (.v 1), (.lst [])])
theorem kvs_len (rs : List Rw) (ps : Pp) : (kvsD rs ps).length ≤ rs.length := by
  unfold kvsD
  rw [List.length_map, List.length_zip]
  exact Nat.min_le_left _ _
theorem f_right (n b : Nat) (hb : b + 200 < 2 ^ 37) {g : List PyData} (G : Gd b g) : ∃ g', PhU (n + 16) 83 [.list g] = .ok (.bool true, .list g') := by
  obtain ⟨rs, g1, e1, m, G1⟩ := f_fields (n + 10) b (by omega) G
  obtain ⟨ps, g2, e2, Z, G2⟩ := f_pricesD (n + 11) (b + 5) m (by omega) G1
  obtain ⟨ts, g3, j13, e3, h5, hr, G3⟩ := things_loop (n + 10) m .no .no .no .no .no .no .no .no .no .no .no 5 (b + 11) g2 [] .no 0 (by omega) G2
  have few := Z.few
  have hk := repr_ok (Z.kept h5 hr)
  have kl := kvs_len rs ps
  have bl := badsL_len (nsD rs) (kvsD rs ps) (by rw [nsD, List.length_map]; exact few)
  refine ⟨g3, ?_⟩
  have a1 : exec gt (PhU (n + 15)) rf kp 0 (.asg 1 (.call 71 [(.bor 0)])) [.own true g, .no, .no, .no, .no, .no, .no, .no, .no, .no, .no, .no, .no, .no] = .nx [.own true g1, .val (bookD rs), .no, .no, .no, .no, .no, .no, .no, .no, .no, .no, .no, .no] := by
    simp_arith [refArg, List.eraseIdx, e1, putBack]
  have lc : ev gt (PhU (n + 15)) rf kp lcT [.own true g2, .val (bookD rs), .no, .no, .no, .no, .no, .no, .no, .no, .no, .no, .no, .no] = .ok (.list (ts.map .tuple), [.own true g3, .val (bookD rs), .no, .no, .no, .no, .no, .no, .no, .no, .no, .no, .no, .no]) := by
    show lcF [13] (.n 13) (.range1 (.k (.int 5))) (evi gt (PhU (n + 15)) rf kp (.range1 (.k (.int 5)))) (evq gt (PhU (n + 15)) rf kp none) (ev gt (PhU (n + 15)) rf kp (.call 74 [(.bor 0), (.v 1), (.lst [])])) _ = _
    unfold lcF
    rw [show evi gt (PhU (n + 15)) rf kp (.range1 (.k (.int 5))) [Slot.own true g2, .val (bookD rs), .no, .no, .no, .no, .no, .no, .no, .no, .no, .no, .no, .no] = .ok (rangeD 0 5, [Slot.own true g2, .val (bookD rs), .no, .no, .no, .no, .no, .no, .no, .no, .no, .no, .no, .no]) from evi_r1 (k := 5) rfl (by decide) (by decide)]
    show (if (false || decide (sizeLine < 5)) = true then Out.bad else (lcLoop [13] (stepD (.n 13) (evq gt (PhU (n + 15)) rf kp none) (ev gt (PhU (n + 15)) rf kp (.call 74 [(.bor 0), (.v 1), (.lst [])]))) (rangeD 0 5) [] [.own true g2, .val (bookD rs), .no, .no, .no, .no, .no, .no, .no, .no, .no, .no, .no, .no]).bind _) = _
    rw [if_neg (by rw [sizeLine_eq]; decide), e3]
    rfl
  have a2 : exec gt (PhU (n + 15)) rf kp 0 (.par [5, 6] [false, false] [(.call 77 [(.bor 0), (.v 1)]), lcT]) [.own true g1, .val (bookD rs), .no, .no, .no, .no, .no, .no, .no, .no, .no, .no, .no, .no] = .nx [.own true g3, .val (bookD rs), .no, .no, .no, .val (.dict (kvsD rs ps)), .val (.list (ts.map .tuple)), .no, .no, .no, .no, .no, .no, .no] := by
    have c1 : ev gt (PhU (n + 15)) rf kp (.call 77 [(.bor 0), (.v 1)]) [.own true g1, .val (bookD rs), .no, .no, .no, .no, .no, .no, .no, .no, .no, .no, .no, .no] = .ok (.dict (kvsD rs ps), [.own true g2, .val (bookD rs), .no, .no, .no, .no, .no, .no, .no, .no, .no, .no, .no, .no]) := by
      simp_arith [refArg, List.eraseIdx, e2, putBack]
    rw [exec_par]
    unfold evPs
    rw [c1, ok_bind]
    unfold evPs
    rw [lc, ok_bind]
    rfl
  have a3 : exec gt (PhU (n + 15)) rf kp 0 (.asg 2 (.b1 .repr (.lst [(.v 1), (.v 5), (.v 6)]))) [.own true g3, .val (bookD rs), .no, .no, .no, .val (.dict (kvsD rs ps)), .val (.list (ts.map .tuple)), .no, .no, .no, .no, .no, .no, .no] = .nx [.own true g3, .val (bookD rs), .val (.str (PyData.shown (.list [bookD rs, .dict (kvsD rs ps), .list (ts.map .tuple)]))), .no, .no, .val (.dict (kvsD rs ps)), .val (.list (ts.map .tuple)), .no, .no, .no, .no, .no, .no, .no] := by
    simp_arith [hk]
  have a4 : ∀ s2 : Slot, exec gt (PhU (n + 15)) rf kp 0 (.asg 3 (.b1 .dictP (.rev (.b1 .itemsL (.v 5))))) [.own true g3, .val (bookD rs), s2, .no, .no, .val (.dict (kvsD rs ps)), .val (.list (ts.map .tuple)), .no, .no, .no, .no, .no, .no, .no] = .nx [.own true g3, .val (bookD rs), s2, .val (.dict (kvsD rs ps).reverse), .no, .val (.dict (kvsD rs ps)), .val (.list (ts.map .tuple)), .no, .no, .no, .no, .no, .no, .no] := fun s2 => by
    have := Z.trn2
    simp_arith [kvs_plain, this]
  -- the first loop
  have hb5 := Z.bads (n + 10)
  obtain ⟨k7, k8, k10, k11, e5⟩ := loopC (n + 12) (bookD rs) (.own true g3) (.val (.str (PyData.shown (.list [bookD rs, .dict (kvsD rs ps), .list (ts.map .tuple)])))) (.val (.dict (kvsD rs ps).reverse)) .no (.val (.dict (kvsD rs ps))) (.val (.list (ts.map .tuple))) .no .no .no ([.dict (kvsD rs ps), .dict (kvsD rs ps).reverse] ++ badsL (nsD rs) (kvsD rs ps)) 0 .no .no .no .no fun k v hv => by
    match k, hv with
    | 0, hv =>
      cases hv
      refine ⟨Z.shp.1, ?_⟩
      have := f_prices (bk_ok m) (n + 5) (kvsD rs ps) (by rw [sizeLine_eq]; omega)
      rw [show rs.map (·.1) = nsD rs from rfl, Z.yes.1] at this
      exact this
    | 1, hv =>
      cases hv
      refine ⟨Z.shp.2, ?_⟩
      have := f_prices (bk_ok m) (n + 5) (kvsD rs ps).reverse (by rw [sizeLine_eq, List.length_reverse]; omega)
      rw [show rs.map (·.1) = nsD rs from rfl, Z.yes.2] at this
      exact this
    | k + 2, hv =>
      have mv : v ∈ badsL (nsD rs) (kvsD rs ps) := List.mem_of_getElem? hv
      refine ⟨Z.sh v mv, ?_⟩
      rw [show decide (((0 + (k + 2) : Nat) : Int) < 2) = false from decide_eq_false (by omega)]
      exact Z.no (n + 5) v mv
  have i5 : ∀ s2 : Slot, evi gt (PhU (n + 15)) rf kp (.enum (.bin .add (.lst [(.v 5), (.v 3)]) (.call 79 [(.v 1), (.v 5)]))) [.own true g3, .val (bookD rs), s2, .val (.dict (kvsD rs ps).reverse), .no, .val (.dict (kvsD rs ps)), .val (.list (ts.map .tuple)), .no, .no, .no, .no, .no, .no, .no] = .ok (enumD 0 ([.dict (kvsD rs ps), .dict (kvsD rs ps).reverse] ++ badsL (nsD rs) (kvsD rs ps)), [.own true g3, .val (bookD rs), s2, .val (.dict (kvsD rs ps).reverse), .no, .val (.dict (kvsD rs ps)), .val (.list (ts.map .tuple)), .no, .no, .no, .no, .no, .no, .no]) := fun s2 => by
    have ha := add_lists (a := [.dict (kvsD rs ps), .dict (kvsD rs ps).reverse]) (b := badsL (nsD rs) (kvsD rs ps)) (by rw [sizeLine_eq]; show 2 + _ ≤ _; omega)
    simp_arith [hb5, ha, seqD]
  -- the second loop
  obtain ⟨k4, k9, k11', k12, e6⟩ := loopE (n + 13) (bookD rs) (.dict (kvsD rs ps)) (.dict (kvsD rs ps).reverse) (ts.map .tuple) (.own true g3) (.val (.str (PyData.shown (.list [bookD rs, .dict (kvsD rs ps), .list (ts.map .tuple)])))) k7 k8 k10 .no (ts.map .tuple) .no .no k11 .no fun x mx y my => by
    obtain ⟨xs, mxs, rfl⟩ := List.mem_map.mp mx
    obtain ⟨ys, mys, rfl⟩ := List.mem_map.mp my
    have hx := hr xs mxs
    have hy := hr ys mys
    refine ⟨cost (chL rs ps xs ys), Z.due (n + 5) hx hy, Z.told (n + 3) hx hy Z.looks.1 Z.yes.1 (by omega), ?_, Z.told (n + 3) hx hy Z.looks.2 Z.yes.2 (by rw [List.length_reverse]; omega)⟩
    rw [cost_sym hx hy]
    exact Z.told (n + 3) hy hx Z.looks.1 Z.yes.1 (by omega)
  have h0 : ∃ t rest, ts = t :: rest := by
    cases ts with
    | nil => cases h5
    | cons t rest => exact ⟨t, rest, rfl⟩
  obtain ⟨t0, rest, ht⟩ := h0
  have hf := f_refused n Z (hr t0 (by rw [ht]; exact List.mem_cons_self))
  have hs0 : subD (.list (ts.map .tuple)) (.int 0) = some (.tuple t0) := by
    rw [ht]
    exact sub_l0 _ _
  show runD gt (PhU (n + 15)) rf kp 0 D__law_right [.list g] = _
  rw [runD_eq rfl rfl]
  show endF (execs gt (PhU (n + 15)) rf kp 0 (_ :: _ :: _ :: _ :: _ :: _ :: _ :: []) [.own true g, .no, .no, .no, .no, .no, .no, .no, .no, .no, .no, .no, .no, .no]) (some 0) = _
  rw [execs_cons, a1, thenF_nx, execs_cons, a2, thenF_nx, execs_cons, a3, thenF_nx, execs_cons, a4, thenF_nx]
  rw [execs_cons, exec_for, i5, show holdOf (.enum (.bin .add (.lst [(.v 5), (.v 3)]) (.call 79 [(.v 1), (.v 5)]))) = none from rfl, forF_ok, e5, thenF_nx]
  rw [execs_cons, exec_for]
  rw [show evi gt (PhU (n + 15)) rf kp (.e (.v 6)) [.own true g3, .val (bookD rs), .val (.str (PyData.shown (.list [bookD rs, .dict (kvsD rs ps), .list (ts.map .tuple)]))), .val (.dict (kvsD rs ps).reverse), .no, .val (.dict (kvsD rs ps)), .val (.list (ts.map .tuple)), k7, k8, .no, k10, k11, .no, .no] = .ok (ts.map .tuple, [.own true g3, .val (bookD rs), .val (.str (PyData.shown (.list [bookD rs, .dict (kvsD rs ps), .list (ts.map .tuple)]))), .val (.dict (kvsD rs ps).reverse), .no, .val (.dict (kvsD rs ps)), .val (.list (ts.map .tuple)), k7, k8, .no, k10, k11, .no, .no]) from rfl]
  rw [show holdOf (.e (.v 6)) = none from rfl, forF_ok, e6, thenF_nx]
  simp_arith [hf, hs0, hk, end_ref]
set_option Elab.async false
set_option linter.all false
set_option maxRecDepth 100000
set_option maxHeartbeats 4000000
open PySem PySem.W PyProof.Rows
theorem f_cell (n : Nat) (ns : List Int) (i : Nat) : ∃ k : Int, PhU (n + 1) 67 [.list (ns.map .int), .int i] = .ok (.int k, .none) := by
  show ∃ k : Int, runD gt (PhU n) rf kp 0 D__law_cell [.list (ns.map .int), .int i] = _
  rw [runD_eq rfl rfl]
  by_cases h : i < ns.length
  · refine ⟨ns[i], ?_⟩
    have hs : subD (.list (ns.map .int)) (.int i) = some (.int ns[i]) := sub_ln (by rw [List.getElem?_map, List.getElem?_eq_getElem h]; rfl)
    have h2 : (i : Int) < (ns.length : Int) := by omega
    simp_arith [D__law_cell, h2, hs]
  · have h2 : ¬ (i : Int) < (ns.length : Int) := by omega
    have hm : ∀ x : Int, binD .mod (.int x) (.int 1000003) = some (.int (x % 1000003)) := fun x => mod_ok (by decide)
    cases ns with
    | nil =>
      refine ⟨0, ?_⟩
      have e1 : slD (.list []) none (some 1) = some (.list []) := rfl
      have h3 : ¬ (i : Int) < 0 := by omega
      have e2 : sumI [] = some 0 := rfl
      simp_arith [D__law_cell, h3, e1, e2, hm]
    | cons a r =>
      refine ⟨a % 1000003, ?_⟩
      have e1 : slD (.list (.int a :: r.map .int)) none (some 1) = some (.list [.int a]) := by
        show some (PyData.list (((.int a :: r.map PyData.int).drop 0).take (clampIx (r.map PyData.int).length.succ (r.map PyData.int).length.succ (some 1) - 0))) = _
        have : clampIx (r.map PyData.int).length.succ (r.map PyData.int).length.succ (some 1) = 1 := by
          unfold clampIx
          simp
        rw [this]
        rfl
      have e2 : sumI [.int a] = some a := by
        show (some (0 : Int)).map (a + ·) = some a
        simp
      rw [List.length_cons] at h2
      have h2 : ¬ (i : Int) < (r.length : Int) + 1 := by omega
      simp_arith [D__law_cell, h2, e1, e2, hm]
theorem pow_a : binD .pow (.int 10) (.int 18) = some (.int (10 ^ 18)) := by kernel_rfl
theorem pow_b : binD .pow (.int 10) (.int 60) = some (.int (10 ^ 60)) := by kernel_rfl
def big : Int := (10 ^ 60) ^ 10
theorem pow_c : binD .pow (.int (10 ^ 60)) (.int 10) = some (.int big) := by kernel_rfl
theorem big_pos : 0 < big := by decide +kernel
theorem f_gen (n : Nat) (ns : List Int) (i : Nat) (hi : i < 4) : ∃ g, PhU (n + 2) 68 [.list (ns.map .int), .int i] = .ok (.list g, .none) ∧ Gd 4000 g := by
  obtain ⟨k, e⟩ := f_cell n ns i
  have m1 : ∀ x : Int, binD .mod (.int x) (.int 2147483647) = some (.int (x % 2147483647)) := fun x => mod_ok (by decide)
  have m2 : ∀ x : Int, binD .mod (.int x) (.int big) = some (.int (x % big)) := fun x => mod_ok big_pos
  have m3 : binD .mul (.int 1000) (.int (i : Int)) = some (.int (1000 * (i : Int))) := mul_ok (by decide)
  refine ⟨[.int ((if (0 : Int) > k - 10 ^ 18 then 0 else k - 10 ^ 18) % big), .int (k % 2147483647), .int (1000 * (i : Int))], ?_, ⟨_, _, _, rfl, Int.emod_nonneg _ (by have := big_pos; omega), by omega, by omega⟩⟩
  have ha : exec gt (PhU (n + 1)) rf kp 0 (.asg 2 (.call 67 [(.v 0), (.v 1)])) [.val (.list (ns.map .int)), .val (.int i), .no] = .nx [.val (.list (ns.map .int)), .val (.int i), .val (.int k)] := by
    simp_arith [e]
  have he : ev gt (PhU (n + 1)) rf kp (.lst [(.bin .mod (.b1 .int (.b2 .max (.bin .sub (.v 2) (.bin .pow (.k (.int 10)) (.k (.int 18)))) (.k (.int 0)))) (.bin .pow (.bin .pow (.k (.int 10)) (.k (.int 60))) (.k (.int 10)))), (.bin .mod (.b1 .int (.v 2)) (.k (.int 2147483647))), (.bin .mul (.k (.int 1000)) (.v 1))]) [.val (.list (ns.map .int)), .val (.int i), .val (.int k)] = .ok (.list [.int ((if (0 : Int) > k - 10 ^ 18 then 0 else k - 10 ^ 18) % big), .int (k % 2147483647), .int (1000 * (i : Int))], [.val (.list (ns.map .int)), .val (.int i), .val (.int k)]) := by
    have p1 : ∀ ρ, ev gt (PhU (n + 1)) rf kp (.bin .pow (.k (.int 10)) (.k (.int 18))) ρ = .ok (.int (10 ^ 18), ρ) := fun ρ => by
      rw [ev_bin, ev_k, ok_bind, ev_k, ok_bind]
      show Out.ofOpt (binD .pow (.int 10) (.int 18)) ρ = _
      rw [pow_a]
      rfl
    have p2 : ∀ ρ, ev gt (PhU (n + 1)) rf kp (.bin .pow (.bin .pow (.k (.int 10)) (.k (.int 60))) (.k (.int 10))) ρ = .ok (.int big, ρ) := fun ρ => by
      rw [ev_bin, ev_bin, ev_k, ok_bind, ev_k, ok_bind]
      show Out.bind (Out.ofOpt (binD .pow (.int 10) (.int 60)) ρ) _ = _
      rw [pow_b, opt_some, ok_bind, ev_k, ok_bind]
      show Out.ofOpt (binD .pow (.int (10 ^ 60)) (.int 10)) ρ = _
      rw [pow_c]
      rfl
    have q1 : ev gt (PhU (n + 1)) rf kp (.bin .mod (.b1 .int (.b2 .max (.bin .sub (.v 2) (.bin .pow (.k (.int 10)) (.k (.int 18)))) (.k (.int 0)))) (.bin .pow (.bin .pow (.k (.int 10)) (.k (.int 60))) (.k (.int 10)))) [.val (.list (ns.map .int)), .val (.int i), .val (.int k)] = .ok (.int ((if (0 : Int) > k - 10 ^ 18 then 0 else k - 10 ^ 18) % big), [.val (.list (ns.map .int)), .val (.int i), .val (.int k)]) := by
      have p3 : ev gt (PhU (n + 1)) rf kp (.b1 .int (.b2 .max (.bin .sub (.v 2) (.bin .pow (.k (.int 10)) (.k (.int 18)))) (.k (.int 0)))) [.val (.list (ns.map .int)), .val (.int i), .val (.int k)] = .ok (.int (if (0 : Int) > k - 10 ^ 18 then 0 else k - 10 ^ 18), [.val (.list (ns.map .int)), .val (.int i), .val (.int k)]) := by
        rw [ev_b1, ev_b2, ev_bin, show ev gt (PhU (n + 1)) rf kp (.v 2) [.val (.list (ns.map .int)), .val (.int i), .val (.int k)] = .ok (.int k, [.val (.list (ns.map .int)), .val (.int i), .val (.int k)]) from rfl, ok_bind, p1]
        rfl
      rw [ev_bin, p3, ok_bind, p2, ok_bind]
      show Out.ofOpt (binD .mod (.int _) (.int big)) _ = _
      rw [m2]
      rfl
    have q2 : ev gt (PhU (n + 1)) rf kp (.bin .mod (.b1 .int (.v 2)) (.k (.int 2147483647))) [.val (.list (ns.map .int)), .val (.int i), .val (.int k)] = .ok (.int (k % 2147483647), [.val (.list (ns.map .int)), .val (.int i), .val (.int k)]) := by
      simp_arith [m1]
    have q3 : ev gt (PhU (n + 1)) rf kp (.bin .mul (.k (.int 1000)) (.v 1)) [.val (.list (ns.map .int)), .val (.int i), .val (.int k)] = .ok (.int (1000 * (i : Int)), [.val (.list (ns.map .int)), .val (.int i), .val (.int k)]) := by
      simp_arith [m3]
    simp only [ev_lst, evs, q1, q2, q3, ok_bind]
  show runN gt (PhU (n + 1)) rf kp 0 2 3 [.asg 2 (.call 67 [(.v 0), (.v 1)])] _ [.list (ns.map .int), .int i] = _
  unfold runN
  rw [if_pos (show [PyData.list (ns.map .int), PyData.int (i : Int)].length = 2 from rfl)]
  show (match evN gt (PhU (n + 1)) rf kp 0 [.asg 2 (.call 67 [(.v 0), (.v 1)])] _ [.val (.list (ns.map .int)), .val (.int i), .no] with
    | .ok x => (match x.1 with
      | .list l => Out.ok (PyData.list l, PyData.none)
      | _ => .bad)
    | .exc c d => .exc c d
    | .bad => .bad) = _
  unfold evN
  rw [ha]
  unfold evN
  dsimp only
  rw [he]
def bk0 : PyData := .tuple [.str "fields", .list [.tuple [.str "colour", .list [.str "blue", .str "red"]], .tuple [.str "legs", .none]]]
theorem last_ok (n : Nat) (s0 s1 s2 : Slot) : exec gt (PhU (n + 20)) rf kp 0 (.ret (.call 69 [(.call 56 [(.v 2), (.dct [(.k (.str "colour")), (.tup [(.k (.int 5)), (.k (.int 0))]), (.k (.str "legs")), (.tup [(.k (.int 1)), (.k (.int 3))])]), (.tup [(.k (.str "blue")), (.k (.int 4))]), (.tup [(.k (.str "red")), (.k (.int 2))])]), (.k (.int 12))])) [s0, s1, .val bk0] = .rt (.bool true) [s0, s1, .val bk0] := by kernel_rfl
theorem plain (ns : List Int) : ∃ o, tx.Phi 30 lawG [.list (ns.map .int)] = .ok (.bool true, o) := by
  refine ⟨.none, ?_⟩
  show PhU 30 84 [.list (ns.map .int)] = _
  show runD gt (PhU 29) rf kp 0 D_law [.list (ns.map .int)] = _
  rw [runD_eq rfl rfl]
  have turn : ∀ (i : Nat), i < 4 → ∀ s1 : Slot, bodyF gt (PhU 29) rf kp 0 (.n 1) [.ite (.not (.callT 83 68 [(.v 0), (.v 1)])) [.ret (.k (.bool false))] []] (.int (i : Int)) [.val (.list (ns.map .int)), s1, .no] = .nx [.val (.list (ns.map .int)), .val (.int (i : Int)), .no] := fun i hi s1 => by
    obtain ⟨g, e, G⟩ := f_gen 27 ns i hi
    obtain ⟨g', e2⟩ := f_right 13 4000 (by decide) G
    have e : PhU 29 68 _ = _ := e
    have e2 : PhU 29 83 _ = _ := e2
    simp_arith [bodyF, bindT, e, e2]
  have lp : ∀ s1 : Slot, exec gt (PhU 29) rf kp 0 (.for (.n 1) (.range1 (.k (.int 4))) [.ite (.not (.callT 83 68 [(.v 0), (.v 1)])) [.ret (.k (.bool false))] []]) [.val (.list (ns.map .int)), s1, .no] = .nx [.val (.list (ns.map .int)), .val (.int 3), .no] := fun s1 => by
    rw [exec_for, evi_r1 (k := 4) rfl (by decide) (by decide), show holdOf (.range1 (.k (.int 4))) = none from rfl, forF_ok]
    show forLoop _ [.int ((0 : Nat) : Int), .int ((1 : Nat) : Int), .int ((2 : Nat) : Int), .int ((3 : Nat) : Int)] _ = _
    unfold forLoop
    rw [turn 0 (by decide)]
    unfold forLoop
    dsimp only
    rw [turn 1 (by decide)]
    unfold forLoop
    dsimp only
    rw [turn 2 (by decide)]
    unfold forLoop
    dsimp only
    rw [turn 3 (by decide)]
    rfl
  show endF (execs gt (PhU 29) rf kp 0 (_ :: _ :: _ :: []) [.val (.list (ns.map .int)), .no, .no]) none = _
  rw [execs_cons, lp, thenF_nx, execs_cons]
  rw [show exec gt (PhU 29) rf kp 0 (.asg 2 (.tup [(.k (.str "fields")), (.lst [(.tup [(.k (.str "colour")), (.lst [(.k (.str "blue")), (.k (.str "red"))])]), (.tup [(.k (.str "legs")), (.k .none)])])])) [.val (.list (ns.map .int)), .val (.int 3), .no] = .nx [.val (.list (ns.map .int)), .val (.int 3), .val bk0] from rfl, thenF_nx, execs_cons]
  rw [last_ok 9 _ _ .no]
  rfl
end DL.Tx
open PySem PySem.W PySem.Calls PyProof.Rows DL DL.Tx in
theorem PySem.Challenge.cw_waysround_k77_prices_of_changes_holds : PySem.Challenge.rw_waysround_k77_prices_of_changes.Holds := by
  exact law_holds fun ns _ _ => DL.Tx.plain ns
