import PyProof.Rows.All
import Wide.All
import OpenK.AllK
import Wide.FinOn
import HandS.ForMost
import HandS.IsInst
import PyProof.EqLayable
import HandS.ForExc
import HandS.CallSlots
import HandS.Wide
import HandS.Iter
import HandS.Comp
import HandS.Conv
import HandS.Style
import HandS.Property
import HandS.ClsMeth
import PyProof.InstNe
import PyProof.InstSpecial
import KE.GoesMore
import HandS.SortInts
import HandS.Star
import HandS.TupAny
import HandS.TupMul
import HandS.CallLocal
import HandS.RaiseMore
import PyProof.ReprRoads
import KE.GoesEnum
import HandS.ExcInit
import HandS.TryMany
import HandS.ExcField
import KE.KExcIs
import HandS.Deep
import HandS.DictComp
import HandS.SetFor
import HandS.Strs
import KE.KUnpackStar
import KE.KUnpack
import HandS.FStr
import HandS.More
import HandS.TupSets
import KE.KEqNest
import PyProof.NeKinds
import KE.DataMinMax
import HandS.SortKw
import PyProof.Rows.TupDisplay
import PyProof.SumAny
import HandS.WordsDict
import HandS.Text
import HandS.StrMore
import HandS.Codes
import HandS.OwnEq
import PyProof.GenRules
import PyProof.GenQ
import HandS.GenYield
import HandS.GenList
import HandS.Defaults
import HandS.ListItems
import HandS.DictTup
import KE.KDictSum
import KE.KDictPairs
import PySem.Challenge.RW_nearswap_k54_schedules_checked
set_option Elab.async false
set_option linter.all false
set_option maxRecDepth 100000
/-! DL1: data, states, and the pure meanings of expressions and statements (own work: a data layer over HandS). -/
namespace DL
open PySem (Str)

/-- deep data; the Bool of a list, an instance, a dict: it is owned (nobody else has it) -/
inductive D where
  | non | bl (b : Bool) | int (i : Int) | str (x : Str)
  | lst (o : Bool) (xs : List D)
  | tup (xs : List D)
  | ins (o : Bool) (C : Nat) (fs : List (Str × D))
  | dic (o : Bool) (kvs : List (L2.Key × D))
  | dct (o : Bool) (kvs : List (List L2.Key × D))
  | scr (xs : List Int)
  | cls (C : Nat)
  | ty (n : String)
  | xc (C : Nat) (fs : List (Str × D))
  deriving Inhabited

/-- an exception: its class, its fields -/
structure Xc where
  C : Nat
  fs : List (Str × D)

abbrev Sl := List (Option D)

inductive Res (α : Type) where
  | ok (a : α) (st : Sl) | exc (x : Xc) (st : Sl) | fail

inductive SR where
  | next (st : Sl) | ret (d : D) (st : Sl) | brk (st : Sl) | cont (st : Sl) | exc (x : Xc) (st : Sl) | fail

inductive CR where
  | ok (d : D) (ps : Sl) | exc (x : Xc) (ps : Sl) | fail

abbrev ME := Sl → Res D
abbrev MA := Sl → Res (List D)
abbrev MT := Sl → Res Bool
abbrev MS := Sl → SR
abbrev MF := List D → CR
/-- an assignment's target -/
abbrev MG := D → Sl → Res Unit

mutual
def frz : D → D
  | .lst _ xs => .lst false (frzL xs)
  | .ins _ C fs => .ins false C (frzF fs)
  | .dic _ kvs => .dic false (frzK kvs)
  | .dct _ kvs => .dct false (frzT kvs)
  | .tup xs => .tup (frzL xs)
  | .non => .non
  | .bl b => .bl b
  | .int i => .int i
  | .str x => .str x
  | .scr xs => .scr xs
  | .cls C => .cls C
  | .ty n => .ty n
  | .xc C fs => .xc C fs
def frzL : List D → List D
  | [] => []
  | d :: ds => frz d :: frzL ds
def frzF : List (Str × D) → List (Str × D)
  | [] => []
  | (f, d) :: fs => (f, frz d) :: frzF fs
def frzK : List (L2.Key × D) → List (L2.Key × D)
  | [] => []
  | (f, d) :: fs => (f, frz d) :: frzK fs
def frzT : List (List L2.Key × D) → List (List L2.Key × D)
  | [] => []
  | (f, d) :: fs => (f, frz d) :: frzT fs
end

/-- owned at the top -/
def hot : D → Bool
  | .lst o _ => o
  | .ins o _ _ => o
  | .dic o _ => o
  | .dct o _ => o
  | _ => false

/-- what is read out of an owned thing must not be owned itself -/
def cold : D → Bool := fun d => !hot d

/-- the answer of an operation: a value without owned parts, a new list, a new tuple (of values without owned parts) -/
inductive Out where
  | val (d : D) | newL (ds : List D) | newT (ds : List D)
def Out.d : Out → D
  | .val d => d
  | .newL ds => .lst true ds
  | .newT ds => .tup ds

/-- an operand: any expression, or a slot that is only looked at (late) -/
inductive Opd where
  | v (m : ME) | s (i : Nat)

def Res.bind {α β : Type} (r : Res α) (k : α → Sl → Res β) : Res β :=
  match r with
  | .ok a st => k a st
  | .exc x st => .exc x st
  | .fail => .fail

def getS (st : Sl) (i : Nat) : Option D := (st[i]?).join

/-- operands from the left; k gets how their data is read at the end -/
def opds {β : Type} : List Opd → Sl → ((Sl → Option (List D)) → Sl → Res β) → Res β
  | [], st, k => k (fun _ => some []) st
  | .v m :: os, st, k => (m st).bind fun d st1 => opds os st1 fun gs st2 => k (fun s => (gs s).map (d :: ·)) st2
  | .s i :: os, st, k => if (getS st i).isSome then opds os st fun gs st2 => k (fun s => (getS s i).bind fun d => (gs s).map (d :: ·)) st2 else .fail

/-! ### expressions -/
def eC (d : D) : ME := fun st => .ok d st
/-- a name, its value handed on (frozen where it is owned) -/
def eN (i : Nat) : ME := fun st => match getS st i with
  | some d => if hot d then .ok (frz d) (st.set i (some (frz d))) else .ok d st
  | none => .fail
/-- a name for the last time -/
def eMv (i : Nat) : ME := fun st => match getS st i with
  | some d => .ok d (st.set i none)
  | none => .fail
/-- an operation that only looks at its operands -/
def eOp (f : List D → Option Out) (ks : List Opd) : ME := fun st => opds ks st fun gs st2 =>
  match (gs st2).bind f with
  | some o => .ok o.d st2
  | none => .fail
def eAnd (a b : ME) : ME := fun st => (a st).bind fun d st1 => match d with
  | .bl true => b st1
  | .bl false => .ok (.bl false) st1
  | _ => .fail
def eOr (a b : ME) : ME := fun st => (a st).bind fun d st1 => match d with
  | .bl true => .ok (.bl true) st1
  | .bl false => b st1
  | _ => .fail
def eNot (a : ME) : ME := fun st => (a st).bind fun d st1 => match d with
  | .bl b => .ok (.bl (!b)) st1
  | _ => .fail
def eIf (c : MT) (a b : ME) : ME := fun st => (c st).bind fun k st1 => if k then a st1 else b st1
/-- a op1 b op2 c -/
def eChain (f g : D → D → Option D) (a b c : ME) : ME := fun st => (a st).bind fun x st1 => (b st1).bind fun y st2 =>
  match f x y with
  | some (.bl true) => (c st2).bind fun z st3 => match g y z with
    | some r => .ok r st3
    | none => .fail
  | some (.bl false) => .ok (.bl false) st2
  | _ => .fail
/-- arguments whose values are handed over -/
def aNil : MA := fun st => .ok [] st
def aCons (m : ME) (ms : MA) : MA := fun st => (m st).bind fun d st1 => (ms st1).bind fun ds st2 => .ok (d :: ds) st2
/-- a list's display: its items may be owned -/
def eLst (ms : MA) : ME := fun st => (ms st).bind fun ds st1 => if ds.length ≤ 16777216 then .ok (.lst true ds) st1 else .fail
/-- a tuple's display: its items are frozen -/
def eTup (ms : MA) : ME := fun st => (ms st).bind fun ds st1 => if ds.length ≤ 16777216 then .ok (.tup (frzL ds)) st1 else .fail

/-! ### tests -/
def tE (m : ME) : MT := fun st => (m st).bind fun d st1 => match d with
  | .bl b => .ok b st1
  | _ => .fail
def tAndM (a b : MT) : MT := fun st => (a st).bind fun k st1 => if k then b st1 else .ok false st1
def tOrM (a b : MT) : MT := fun st => (a st).bind fun k st1 => if k then .ok true st1 else b st1
def tNotM (a : MT) : MT := fun st => (a st).bind fun k st1 => .ok (!k) st1

/-! ### calls of the text's defs -/
/-- a call; its arguments are handed over -/
def eCall (f : MF) (ms : MA) : ME := fun st => (ms st).bind fun ds st1 => match f ds with
  | .ok d _ => .ok d st1
  | .exc x _ => .exc x st1
  | .fail => .fail
/-- a call with a slot lent: ms the arguments ahead of it, ns behind it -/
def eCallL (f : MF) (ms : MA) (i : Nat) (ns : MA) : ME := fun st => (ms st).bind fun ds st1 => if (getS st1 i).isSome then (ns st1).bind fun es st2 =>
  (match getS st2 i with
  | some d => if hot d then (match f (ds ++ d :: es) with
      | .ok r ps => .ok r (st2.set i (getS ps ds.length))
      | .exc x ps => .exc x (st2.set i (getS ps ds.length))
      | .fail => .fail) else (match f (ds ++ d :: es) with
      | .ok r _ => .ok r st2
      | .exc x _ => .exc x st2
      | .fail => .fail)
  | none => .fail) else .fail

/-! ### statements -/
def Res.toS {α : Type} (r : Res α) (k : α → Sl → SR) : SR :=
  match r with
  | .ok a st => k a st
  | .exc x st => .exc x st
  | .fail => .fail
/-- a store's end: what a store raises is not followed -/
def Res.toN (r : Res Unit) (k : Sl → SR) : SR :=
  match r with
  | .ok _ st => k st
  | _ => .fail
def sNext : MS := fun st => .next st
def SR.thn (r : SR) (k : MS) : SR :=
  match r with
  | .next st => k st
  | r => r
def sSeq (a b : MS) : MS := fun st => (a st).thn b
def gN (i : Nat) : MG := fun d st => .ok () (st.set i (some d))
def sAsg (m : ME) (g : MG) : MS := fun st => (m st).toS fun d st1 => (g d st1).toN fun st2 => .next st2
def sExpr (m : ME) : MS := fun st => (m st).toS fun _ st1 => .next st1
def sRet (m : ME) : MS := fun st => (m st).toS fun d st1 => .ret d st1
def sRetN : MS := fun st => .ret .non st
def sIf (c : MT) (a b : MS) : MS := fun st => (c st).toS fun k st1 => if k then a st1 else b st1
def sBrk : MS := fun st => .brk st
def sCont : MS := fun st => .cont st
/-- a loop's turns -/
def forD (g : MG) (body : MS) : List D → Sl → SR
  | [], st => .next st
  | d :: ds, st => (g d st).toN fun st1 => match body st1 with
    | .next st2 => forD g body ds st2
    | .cont st2 => forD g body ds st2
    | .brk st2 => .next st2
    | r => r
def whileD (c : MT) (body : MS) : Nat → Sl → SR
  | 0, _ => .fail
  | n + 1, st => (c st).toS fun k st1 => if k then (match body st1 with
    | .next st2 => whileD c body n st2
    | .cont st2 => whileD c body n st2
    | .brk st2 => .next st2
    | r => r) else .next st1

/-! ### a def -/
/-- n parameters, w slots in all; L: the parameters that are never stored to -/
def keepL (L : List Nat) (n : Nat) (st : Sl) : Sl := (List.range n).map fun j => if j ∈ L then getS st j else none
def fn (n w : Nat) (L : List Nat) (body : MS) : MF := fun ds =>
  if ds.length = n then match body (ds.map some ++ List.replicate (w - n) none) with
    | .next st => .ok .non (keepL L n st)
    | .ret d st => .ok d (keepL L n st)
    | .exc x st => .exc x (keepL L n st)
    | _ => .fail
  else .fail
end DL

/-! DLO: the operations by data. -/
namespace DL
open PySem (Str)
/-- the items of a list or tuple that is read -/
def items : D → Option (List D)
  | .lst _ xs => some xs
  | .tup xs => some xs
  | .scr xs => some (xs.map .int)
  | _ => none
def colds (xs : List D) : Bool := xs.all cold
def newLc (xs : List D) : Option Out := if colds xs && decide (xs.length ≤ 16777216) then some (.newL xs) else none

def oAdd : List D → Option Out
  | [.int i, .int j] => some (.val (.int (i + j)))
  | [.lst _ xs, .lst _ ys] => newLc (xs ++ ys)
  | [.str x, .str y] => if x.length + y.length ≤ 16777216 then some (.val (.str (x ++ y))) else none
  | _ => none
def oSub : List D → Option Out
  | [.int i, .int j] => some (.val (.int (i - j)))
  | _ => none
def oMul : List D → Option Out
  | [.int i, .int j] => if (-(2 ^ 64) < i ∧ i < 2 ^ 64) ∨ (-(2 ^ 64) < j ∧ j < 2 ^ 64) then some (.val (.int (i * j))) else none
  | [.lst _ xs, .int k] => if colds xs && decide (-(2 ^ 63) ≤ k ∧ k < 2 ^ 63 ∧ xs.length * k.toNat ≤ 16777216) then some (.newL (List.replicate k.toNat xs).flatten) else none
  | _ => none
def oDiv : List D → Option Out
  | [.int i, .int j] => if 0 < j ∧ j.natAbs.log2 < 9000 then some (.val (.int (i / j))) else none
  | _ => none
def oMod : List D → Option Out
  | [.int i, .int j] => if 0 < j then some (.val (.int (i % j))) else none
  | _ => none
def oPow : List D → Option Out
  | [.int i, .int j] => if 0 ≤ j ∧ j ≤ 1000000 ∧ i.natAbs < 2 ^ 64 then some (.val (.int (i ^ j.toNat))) else none
  | _ => none
def oNeg : List D → Option Out
  | [.int i] => some (.val (.int (-i)))
  | _ => none
def pLt : D → D → Option D
  | .int i, .int j => some (.bl (decide (i < j)))
  | _, _ => none
def pLe : D → D → Option D
  | .int i, .int j => some (.bl (decide (i ≤ j)))
  | _, _ => none
def pGt : D → D → Option D
  | .int i, .int j => some (.bl (decide (j < i)))
  | _, _ => none
def pGe : D → D → Option D
  | .int i, .int j => some (.bl (decide (j ≤ i)))
  | _, _ => none
def o2 (p : D → D → Option D) : List D → Option Out
  | [x, y] => (p x y).map .val
  | _ => none

mutual
def toPy : D → PySem.PyData
  | .non => .none
  | .bl b => .bool b
  | .int i => .int i
  | .str x => .str x
  | .lst _ xs => .list (toPyL xs)
  | .tup xs => .tuple (toPyL xs)
  | .scr xs => .list (xs.map .int)
  | .ins _ _ _ => .dict []
  | .dic _ _ => .dict []
  | .dct _ _ => .dict []
  | .cls _ => .dict []
  | .ty _ => .dict []
  | .xc _ _ => .dict []
def toPyL : List D → List PySem.PyData
  | [] => []
  | d :: ds => toPy d :: toPyL ds
end
def pEq (x y : D) : Option D := if PySem.SeqAt.shaped (toPy x) && PySem.SeqAt.shaped (toPy y) then some (.bl (PySem.PyData.eqv (toPy x) (toPy y))) else none
def pNe (x y : D) : Option D := if PySem.SeqAt.shaped (toPy x) && PySem.SeqAt.shaped (toPy y) then some (.bl (!PySem.PyData.eqv (toPy x) (toPy y))) else none
def isN : D → Bool
  | .non => true
  | _ => false
def oIsN : List D → Option Out
  | [x, .non] => some (.val (.bl (isN x)))
  | _ => none
def oNotN : List D → Option Out
  | [x, .non] => some (.val (.bl (!isN x)))
  | _ => none
/-- flat data, for in -/
def flat : D → Bool
  | .non => true
  | .bl _ => true
  | .int _ => true
  | .str _ => true
  | _ => false
def eqF : D → D → Bool
  | .non, .non => true
  | .bl a, .bl b => a == b
  | .bl a, .int b => (if
      a then 1 else 0) == b
  | .int a, .bl b => a == (if
      b then 1 else 0)
  | .int a, .int b => a == b
  | .str a, .str b => a == b
  | _, _ => false
def oIn (neg : Bool) : List D → Option Out
  | [x, y] => match items y with
    | some ys => if flat x && ys.all flat then some (.val (.bl (if neg then !(ys.any fun z => eqF z x) else ys.any fun z => eqF z x))) else none
    | none => none
  | _ => none
/-- xs[i] -/
def oIx : List D → Option Out
  | [x, .int i] => match items x with
    | some xs => match L2.atI xs i with
      | some d => if cold d then some (.val d) else none
      | none => none
    | none => none
  | _ => none
def oLen : List D → Option Out
  | [x] => (items x).map fun xs => .val (.int xs.length)
  | _ => none
def oAbs : List D → Option Out
  | [.int i] => some (.val (.int (if i < 0 then -i else i)))
  | _ => none
def oMax2 : List D → Option Out
  | [.int i, .int j] => some (.val (.int (if j > i then j else i)))
  | _ => none
def oMin2 : List D → Option Out
  | [.int i, .int j] => some (.val (.int (if j < i then j else i)))
  | _ => none
def oInt : List D → Option Out
  | [.int i] => some (.val (.int i))
  | [.bl b] => some (.val (.int (if b then 1 else 0)))
  | _ => none
def asInts : List D → Option (List Int)
  | [] => some []
  | .int i :: r => (asInts r).map (i :: ·)
  | _ => none
def asBls : List D → Option (List Bool)
  | [] => some []
  | .bl i :: r => (asBls r).map (i :: ·)
  | _ => none
def lstItems : D → Option (List D)
  | .lst _ xs => some xs
  | .scr xs => some (xs.map .int)
  | _ => none
def oSum : List D → Option Out
  | [x] => ((lstItems x).bind asInts).map fun ns => .val (.int ns.sum)
  | _ => none
def oAny : List D → Option Out
  | [x] => ((lstItems x).bind asBls).map fun bs => .val (.bl (bs.any id))
  | _ => none
def oList : List D → Option Out
  | [x] => match items x with
    | some xs => newLc xs
    | none => none
  | _ => none
def oTuple : List D → Option Out
  | [.lst _ xs] => if colds xs && decide (xs.length ≤ 16777216) then some (.newT xs) else none
  | [.tup xs] => some (.val (.tup xs))
  | _ => none
/-- xs[lo:hi] of a list -/
def cutD (xs : List D) (lo hi : Option Int) : List D := (xs.drop (HT.sIx xs.length 0 lo)).take (HT.sIx xs.length xs.length hi - HT.sIx xs.length 0 lo)
def tyName : D → Option String
  | .non => some "NoneType"
  | .bl _ => some "bool"
  | .int _ => some "int"
  | .str _ => some "str"
  | .lst _ _ => some "list"
  | .scr _ => some "list"
  | .tup _ => some "tuple"
  | .dic _ _ => some "dict"
  | _ => none
end DL

/-! DL2: how data lie in the heap; the judgements. -/
namespace DL
open PySem L2

/-- all that was tracked is as it
    was -/
abbrev Ex (H H' : Hp) : Prop := ∀ a o, H a = some o → H' a = some o
/-- a region of addresses -/
abbrev Rg := Addr → Prop
abbrev Em : Rg := fun _ => False

theorem rd_ex {Hf Hf' : Hp} {a : Addr} {u : HO} (ef : Ex Hf Hf') (r : Rd Hf a u) : Rd Hf' a u := r.elim (fun e => .inl (ef _ _ e)) fun ⟨o, e⟩ => .inr ⟨o, ef _ _ e⟩
/-- a caught exception: its class, its dict -/
def XcO (a : Addr) (cls : Value) (d : Option Addr) : HO := .ext fun h => ∃ (o : Obj) (vs : Array Value), h.get? a = some o ∧ Zc cls d o ∧ o.data = .fields vs
section
variable (ca : Nat → Addr) (K : PySem.W.Frag)
mutual
/-- v is the datum d; what of it is owned lies in the region S -/
inductive Rep (Hf H : Hp) : Rg → V → D → Prop where
  | non {S} : Rep Hf H S .non .non
  | bl {S b} : Rep Hf H S (.bl b) (.bl b)
  | int {S i} : Rep Hf H S (.int i) (.int i)
  | str {S x} : Rep Hf H S (.str x) (.str x)
  | scr {S a xs} : SqL K Hf a (xs.map V.int) → Rep Hf H S (.ref a) (.scr xs)
  | cls {S C} : Rep Hf H S (.ref (ca C)) (.cls C)
  | ty {S n} : Rep Hf H S (.ty n) (.ty n)
  | lstF {S a vs ds} : Hf a = some (.lst vs) → RepL Hf H Em vs ds → Rep Hf H S (.ref a) (.lst false ds)
  | lstO {S a vs ds} : S a → H a = some (.lst vs) → RepL Hf H (fun b => S b ∧ b ≠ a) vs ds → Rep Hf H S (.ref a) (.lst true ds)
  | tup {S a vs ds} : Hf a = some (.tup vs) → RepL Hf H Em vs ds → Rep Hf H S (.ref a) (.tup ds)
  | insF {S a C dx fs gs} : Hf a = some (.ins (ca C) dx fs) → fs.map (·.1) = gs.map (·.1) → RepL Hf H Em (fs.map (·.2)) (gs.map (·.2)) → Rep Hf H S (.ref a) (.ins false C gs)
  | insO {S a C dx fs gs} : S a → H a = some (.ins (ca C) dx fs) → fs.map (·.1) = gs.map (·.1) → RepL Hf H (fun b => S b ∧ b ≠ a) (fs.map (·.2)) (gs.map (·.2)) → Rep Hf H S (.ref a) (.ins true C gs)
  | dicF {S a kvs ds} : Hf a = some (.dK kvs) → kvs.map (·.1) = ds.map (·.1) → RepL Hf H Em (kvs.map (·.2)) (ds.map (·.2)) → Rep Hf H S (.ref a) (.dic false ds)
  | dicO {S a kvs ds} : S a → H a = some (.dK kvs) → kvs.map (·.1) = ds.map (·.1) → RepL Hf H (fun b => S b ∧ b ≠ a) (kvs.map (·.2)) (ds.map (·.2)) → Rep Hf H S (.ref a) (.dic true ds)
  | dctF {S a kvs ds} : Rd Hf a (.dT kvs) → kvs.map (·.1) = ds.map (·.1) → RepL Hf H Em (kvs.map (·.2)) (ds.map (·.2)) → Rep Hf H S (.ref a) (.dct false ds)
  | dctO {S a kvs ds} : S a → H a = some (.dT kvs) → kvs.map (·.1) = ds.map (·.1) → RepL Hf H (fun b => S b ∧ b ≠ a) (kvs.map (·.2)) (ds.map (·.2)) → Rep Hf H S (.ref a) (.dct true ds)
  | xc {S a dd C fs gs} : Hf a = some (XcO a (.ref (ca C)) (some dd)) → Hf dd = some (.xd fs) → fs.map (·.1) = gs.map (·.1) → RepL Hf H Em (fs.map (·.2)) (gs.map (·.2)) → Rep Hf H S (.ref a) (.xc C gs)
inductive RepL (Hf H : Hp) : Rg → List V → List D → Prop where
  | nil {S} : RepL Hf H S [] []
  | cons {S S1 S2 v d vs ds} : Rep Hf H S1 v d → RepL Hf H S2 vs ds → (∀ b, S1 b → S b) → (∀ b, S2 b → S b) → (∀ b, S1 b → S2 b → False) → RepL Hf H S (v :: vs) (d :: ds)
end
end

section
variable {ca : Nat → Addr} {K : PySem.W.Frag} {Hf H Hf' H' : Hp} {S S' : Rg} {v : V} {d : D} {vs : List V} {ds : List D}

theorem RepL.mono (r : RepL ca K Hf H S vs ds) (h : ∀ b, S b → S' b) : RepL ca K Hf H S' vs ds := by
  cases r with
  | nil => exact .nil
  | cons r1 r2 h1 h2 h3 => exact .cons r1 r2 (fun b q => h b (h1 b q)) (fun b q => h b (h2 b q)) h3
theorem Rep.mono (r : Rep ca K Hf H S v d) (h : ∀ b, S b → S' b) : Rep ca K Hf H S' v d := by
  cases r with
  | non => exact .non
  | bl => exact .bl
  | int => exact .int
  | str => exact .str
  | scr h => exact .scr h
  | cls => exact .cls
  | ty => exact .ty
  | lstF e r => exact .lstF e r
  | lstO s e r => exact .lstO (h _ s) e (r.mono fun b q => ⟨h b q.1, q.2⟩)
  | tup e r => exact .tup e r
  | insF e k r => exact .insF e k r
  | insO s e k r => exact .insO (h _ s) e k (r.mono fun b q => ⟨h b q.1, q.2⟩)
  | dicF e k r => exact .dicF e k r
  | dicO s e k r => exact .dicO (h _ s) e k (r.mono fun b q => ⟨h b q.1, q.2⟩)
  | dctF e k r => exact .dctF e k r
  | dctO s e k r => exact .dctO (h _ s) e k (r.mono fun b q => ⟨h b q.1, q.2⟩)
  | xc e e2 k r => exact .xc e e2 k r
/-- what is not owned lies nowhere -/
theorem Rep.cold (r : Rep ca K Hf H S v d) (h : hot d = false) : Rep ca K Hf H S' v d := by
  cases r with
  | non => exact .non
  | bl => exact .bl
  | int => exact .int
  | str => exact .str
  | scr h' => exact .scr h'
  | cls => exact .cls
  | ty => exact .ty
  | lstF e r => exact .lstF e r
  | lstO s e r => exact absurd h (by simp [hot])
  | tup e r => exact .tup e r
  | insF e k r => exact .insF e k r
  | insO s e k r => exact absurd h (by simp [hot])
  | dicF e k r => exact .dicF e k r
  | dicO s e k r => exact absurd h (by simp [hot])
  | dctF e k r => exact .dctF e k r
  | dctO s e k r => exact absurd h (by simp [hot])
  | xc e e2 k r => exact .xc e e2 k r

mutual
theorem Rep.keep (ef : Ex Hf Hf') : ∀ {S : Rg} {v : V} {d : D}, Rep ca K Hf H S v d → (∀ b, S b → ∀ o, H b = some o → H' b = some o) → Rep ca K Hf' H' S v d
  | _, _, _, .non, _ => .non
  | _, _, _, .bl, _ => .bl
  | _, _, _, .int, _ => .int
  | _, _, _, .str, _ => .str
  | _, _, _, .scr h, _ => .scr (by
      rcases h with h | h
      · refine Or.inl ?_
        rcases h with h | ⟨o, h⟩
        · exact Or.inl (ef _ _ h)
        · exact Or.inr ⟨o, ef _ _ h⟩
      · exact Or.inr h)
  | _, _, _, .cls, _ => .cls
  | _, _, _, .ty, _ => .ty
  | _, _, _, .lstF e r, _ => .lstF (ef _ _ e) (RepL.keep ef r fun _ q => q.elim)
  | _, _, _, .lstO s e r, k => .lstO s (k _ s _ e) (RepL.keep ef r fun b q => k b q.1)
  | _, _, _, .tup e r, _ => .tup (ef _ _ e) (RepL.keep ef r fun _ q => q.elim)
  | _, _, _, .insF e kk r, _ => .insF (ef _ _ e) kk (RepL.keep ef r fun _ q => q.elim)
  | _, _, _, .insO s e kk r, k => .insO s (k _ s _ e) kk (RepL.keep ef r fun b q => k b q.1)
  | _, _, _, .dicF e kk r, _ => .dicF (ef _ _ e) kk (RepL.keep ef r fun _ q => q.elim)
  | _, _, _, .dicO s e kk r, k => .dicO s (k _ s _ e) kk (RepL.keep ef r fun b q => k b q.1)
  | _, _, _, .dctF e kk r, _ => .dctF (rd_ex ef e) kk (RepL.keep ef r fun _ q => q.elim)
  | _, _, _, .dctO s e kk r, k => .dctO s (k _ s _ e) kk (RepL.keep ef r fun b q => k b q.1)
  | _, _, _, .xc e e2 kk r, _ => .xc (ef _ _ e) (ef _ _ e2) kk (RepL.keep ef r fun _ q => q.elim)
theorem RepL.keep (ef : Ex Hf Hf') : ∀ {S : Rg} {vs : List V} {ds : List D}, RepL ca K Hf H S vs ds → (∀ b, S b → ∀ o, H b = some o → H' b = some o) → RepL ca K Hf' H' S vs ds
  | _, _, _, .nil, _ => .nil
  | _, _, _, .cons r1 r2 h1 h2 h3, k => .cons (Rep.keep ef r1 fun b q => k b (h1 b q)) (RepL.keep ef r2 fun b q => k b (h2 b q)) h1 h2 h3
end

theorem frzF_keys : ∀ gs : List (Str × D), (frzF gs).map (·.1) = gs.map (·.1)
  | [] => rfl
  | (f, d) :: r => by simp [frzF, frzF_keys r]
theorem frzK_keys : ∀ gs : List (Key × D), (frzK gs).map (·.1) = gs.map (·.1)
  | [] => rfl
  | (f, d) :: r => by simp [frzK, frzK_keys r]
theorem frzF_vals : ∀ gs : List (Str × D), (frzF gs).map (·.2) = frzL (gs.map (·.2))
  | [] => rfl
  | (f, d) :: r => by simp [frzF, frzL, frzF_vals r]
theorem frzK_vals : ∀ gs : List (Key × D), (frzK gs).map (·.2) = frzL (gs.map (·.2))
  | [] => rfl
  | (f, d) :: r => by simp [frzK, frzL, frzK_vals r]
theorem frzT_keys : ∀ gs : List (List Key × D), (frzT gs).map (·.1) = gs.map (·.1)
  | [] => rfl
  | (f, d) :: r => by simp [frzT, frzT_keys r]
theorem frzT_vals : ∀ gs : List (List Key × D), (frzT gs).map (·.2) = frzL (gs.map (·.2))
  | [] => rfl
  | (f, d) :: r => by simp [frzT, frzL, frzT_vals r]
mutual
/-- the owned parts are let stand: Hf' holds them from now on -/
theorem Rep.frz (ef : Ex Hf Hf') : ∀ {S S' : Rg} {v : V} {d : D}, Rep ca K Hf H S v d → (∀ b, S b → ∀ o, H b = some o → Hf' b = some o) → Rep ca K Hf' H' S' v (DL.frz d)
  | _, _, _, _, .non, _ => by rw [DL.frz]; exact .non
  | _, _, _, _, .bl, _ => by rw [DL.frz]; exact .bl
  | _, _, _, _, .int, _ => by rw [DL.frz]; exact .int
  | _, _, _, _, .str, _ => by rw [DL.frz]; exact .str
  | _, _, _, _, .scr h, _ => by
      rw [DL.frz]
      refine .scr ?_
      rcases h with h | h
      · refine Or.inl ?_
        rcases h with h | ⟨o, h⟩
        · exact Or.inl (ef _ _ h)
        · exact Or.inr ⟨o, ef _ _ h⟩
      · exact Or.inr h
  | _, _, _, _, .cls, _ => by rw [DL.frz]; exact .cls
  | _, _, _, _, .ty, _ => by rw [DL.frz]; exact .ty
  | _, _, _, _, .lstF e r, _ => by rw [DL.frz]; exact .lstF (ef _ _ e) (RepL.frz ef r fun _ q => q.elim)
  | _, _, _, _, .lstO s e r, k => by rw [DL.frz]; exact .lstF (k _ s _ e) (RepL.frz ef r fun b q => k b q.1)
  | _, _, _, _, .tup e r, _ => by rw [DL.frz]; exact .tup (ef _ _ e) (RepL.frz ef r fun _ q => q.elim)
  | _, _, _, _, .insF e kk r, _ => by
      rw [DL.frz]
      exact .insF (ef _ _ e) (kk.trans (frzF_keys _).symm) (by rw [frzF_vals]; exact RepL.frz ef r fun _ q => q.elim)
  | _, _, _, _, .insO s e kk r, k => by
      rw [DL.frz]
      exact .insF (k _ s _ e) (kk.trans (frzF_keys _).symm) (by rw [frzF_vals]; exact RepL.frz ef r fun b q => k b q.1)
  | _, _, _, _, .dicF e kk r, _ => by
      rw [DL.frz]
      exact .dicF (ef _ _ e) (kk.trans (frzK_keys _).symm) (by rw [frzK_vals]; exact RepL.frz ef r fun _ q => q.elim)
  | _, _, _, _, .dicO s e kk r, k => by
      rw [DL.frz]
      exact .dicF (k _ s _ e) (kk.trans (frzK_keys _).symm) (by rw [frzK_vals]; exact RepL.frz ef r fun b q => k b q.1)
  | _, _, _, _, .dctF e kk r, _ => by
      rw [DL.frz]
      exact .dctF (rd_ex ef e) (kk.trans (frzT_keys _).symm) (by rw [frzT_vals]; exact RepL.frz ef r fun _ q => q.elim)
  | _, _, _, _, .dctO s e kk r, k => by
      rw [DL.frz]
      exact .dctF (.inl (k _ s _ e)) (kk.trans (frzT_keys _).symm) (by rw [frzT_vals]; exact RepL.frz ef r fun b q => k b q.1)
  | _, _, _, _, .xc e e2 kk r, _ => by
      rw [DL.frz]
      exact .xc (ef _ _ e) (ef _ _ e2) kk (RepL.keep ef r fun _ q => q.elim)
theorem RepL.frz (ef : Ex Hf Hf') : ∀ {S S' : Rg} {vs : List V} {ds : List D}, RepL ca K Hf H S vs ds → (∀ b, S b → ∀ o, H b = some o → Hf' b = some o) → RepL ca K Hf' H' S' vs (frzL ds)
  | _, _, _, _, .nil, _ => by rw [frzL]; exact .nil
  | _, _, _, _, .cons r1 r2 h1 h2 h3, k => by
      rw [frzL]
      exact .cons (S1 := Em) (S2 := Em) (Rep.frz ef r1 fun b q => k b (h1 b q)) (RepL.frz ef r2 fun b q => k b (h2 b q)) (fun _ q => q.elim) (fun _ q => q.elim) (fun _ q => q.elim)
end
theorem RepL.length : ∀ {S : Rg} {vs : List V} {ds : List D}, RepL ca K Hf H S vs ds → vs.length = ds.length
  | _, _, _, .nil => rfl
  | _, _, _, .cons _ r _ _ _ => by simp [RepL.length r]
theorem RepL.one (r : Rep ca K Hf H S v d) : RepL ca K Hf H S [v] [d] := .cons r (S2 := Em) .nil (fun _ q => q) (fun _ q => q.elim) (fun _ _ q => q)
end

/-! ### the state -/
/-- every tuple that is tracked stands -/
def TpH (Hf H : Hp) : Prop := ∀ b xs, H b = some (.tup xs) → Hf b = some (.tup xs)
/-- tracked, not let stand -/
structure Wl (Hf H : Hp) (S : Rg) : Prop where
  ex : Ex Hf H
  dm : ∀ b, S b → ∃ o, H b = some o
  nf : ∀ b, S b → Hf b = none
  tp : TpH Hf H
theorem TpH.em : TpH (fun _ => none) (fun _ => none) := fun _ _ e => by cases e
/-- no tuple is laid -/
theorem TpH.upd {Hf H : Hp} {a : Addr} {o : HO} (t : TpH Hf H) (h : ∀ xs, o ≠ .tup xs) : TpH Hf (L2.upd H a o) := fun b xs e => by
  by_cases z : b = a
  · subst z; rw [upd_same] at e; cases e; exact (h _ rfl).elim
  · rw [upd_ne z] at e; exact t b xs e
/-- laid and let stand -/
theorem TpH.upd2 {Hf H : Hp} {a : Addr} {o : HO} (t : TpH Hf H) : TpH (L2.upd Hf a o) (L2.upd H a o) := fun b xs e => by
  by_cases z : b = a
  · subst z; rw [upd_same] at e ⊢; exact e
  · rw [upd_ne z] at e ⊢; exact t b xs e
/-- more is let stand -/
theorem TpH.more {Hf Hf' H : Hp} (t : TpH Hf H) (h : Ex Hf Hf') : TpH Hf' H := fun b xs e => h _ _ (t b xs e)
theorem Wl.mono {Hf H : Hp} {S S' : Rg} (w : Wl Hf H S) (h : ∀ b, S' b → S b) : Wl Hf H S' := ⟨w.ex, fun b q => w.dm b (h b q), fun b q => w.nf b (h b q), w.tp⟩

/-- all slots' regions -/
abbrev tot (R : Nat → Rg) : Rg := fun b => ∃ i, R i b
abbrev jn (P : Rg) (R : Nat → Rg) : Rg := fun b => P b ∨ tot R b

/-- the slots hold the data; a pending thing (pp) lies in P -/
structure PR (ca : Nat → Addr) (K : PySem.W.Frag) (Hf H : Hp) (P : Rg) (pp : Prop) (R : Nat → Rg) (σ : L2.St) (st : Sl) : Prop where
  pend : pp
  len : st.length = σ.length
  at_ : ∀ i d, getS st i = some d → ∃ v, σ[i]? = some (some v) ∧ Rep ca K Hf H (R i) v d
  dj : ∀ i j b, R i b → R j b → i = j
  dp : ∀ i b, P b → R i b → False
  w : Wl Hf H (jn P R)

/-- what a step may do: S the region it had, S' the region it leaves -/
structure Tr (S : Rg) (Hf H : Hp) (S' : Rg) (Hf' H' : Hp) : Prop where
  fx : Ex Hf Hf'
  keep : ∀ b o, H b = some o → ¬ S b → H' b = some o
  nw : ∀ b, S' b → S b ∨ H b = none
  fz : ∀ b o, Hf' b = some o → Hf b = some o ∨ S b ∨ H b = none

section
variable {ca : Nat → Addr} {K : PySem.W.Frag} {Hf H Hf1 H1 Hf2 H2 : Hp} {S S1 S2 P : Rg} {R R1 R2 : Nat → Rg} {pp qq : Prop} {σ : L2.St} {st : Sl} {v : V} {d : D}
theorem Tr.refl (h : ∀ b, S1 b → S b) : Tr S Hf H S1 Hf H := ⟨fun _ _ e => e, fun _ _ e _ => e, fun b q => .inl (h b q), fun _ _ e => .inl e⟩
theorem Tr.trans (a : Tr S Hf H S1 Hf1 H1) (b : Tr S1 Hf1 H1 S2 Hf2 H2) : Tr S Hf H S2 Hf2 H2 where
  fx := fun x o e => b.fx x o (a.fx x o e)
  keep := fun x o e n => b.keep x o (a.keep x o e n) fun q => by
    rcases a.nw x q with q | q
    · exact n q
    · rw [e] at q; cases q
  nw := fun x q => by
    rcases b.nw x q with q | q
    · exact a.nw x q
    · cases e : H x with
      | none => exact .inr rfl
      | some o =>
        refine .inl (Classical.byContradiction fun n => ?_)
        rw [a.keep x o e n] at q; cases q
  fz := fun x o q => by
    rcases b.fz x o q with q | q | q
    · exact a.fz x o q
    · rcases a.nw x q with q | q
      · exact .inr (.inl q)
      · exact .inr (.inr q)
    · cases e : H x with
      | none => exact .inr (.inr rfl)
      | some o =>
        refine .inr (.inl (Classical.byContradiction fun n => ?_))
        rw [a.keep x o e n] at q; cases q
/-- a smaller region behind -/
theorem Tr.less (a : Tr S Hf H S1 Hf1 H1) (h : ∀ b, S2 b → S1 b) : Tr S Hf H S2 Hf1 H1 := ⟨a.fx, a.keep, fun b q => a.nw b (h b q), a.fz⟩
theorem Tr.more (a : Tr S Hf H S1 Hf1 H1) (h : ∀ b, S b → S2 b) : Tr S2 Hf H S1 Hf1 H1 :=
  ⟨a.fx, fun b o e n => a.keep b o e fun q => n (h b q), fun b q => (a.nw b q).imp_left (h b), fun b o q => (a.fz b o q).imp_right fun q => q.imp_left (h b)⟩
/-- what lies beside the region stays -/
theorem Tr.beside (a : Tr S Hf H S1 Hf1 H1) (w1 : Wl Hf H P) (dj : ∀ b, P b → S b → False) : (∀ b, P b → ∀ o, H b = some o → H1 b = some o) ∧ (∀ b, P b → S1 b → False) ∧ (∀ b, P b → (∃ o, H1 b = some o) ∧ Hf1 b = none) := by
  refine ⟨fun b q o e => a.keep b o e (dj b q), fun b q r => ?_, fun b q => ⟨?_, ?_⟩⟩
  · rcases a.nw b r with r | r
    · exact dj b q r
    · obtain ⟨o, e⟩ := w1.dm b q
      rw [e] at r; cases r
  · obtain ⟨o, e⟩ := w1.dm b q
    exact ⟨o, a.keep b o e (dj b q)⟩
  · cases e : Hf1 b with
    | none => rfl
    | some o =>
      rcases a.fz b o e with r | r | r
      · rw [w1.nf b q] at r; cases r
      · exact (dj b q r).elim
      · obtain ⟨o, e⟩ := w1.dm b q
        rw [e] at r; cases r
/-- with what lies beside, the step is one of the whole -/
theorem Tr.with (a : Tr S Hf H S1 Hf1 H1) (P : Rg) : Tr (fun b => P b ∨ S b) Hf H (fun b => P b ∨ S1 b) Hf1 H1 :=
  ⟨a.fx, fun b o e n => a.keep b o e fun q => n (.inr q), fun b q => by
    rcases q with q | q
    · exact .inl (.inl q)
    · exact (a.nw b q).imp_left .inr, fun b o q => (a.fz b o q).imp_right fun q => q.imp_left .inr⟩
theorem mkTp {Hf H : Hp} (h : TpH Hf H := by (repeat (first | refine TpH.upd2 ?_ | refine TpH.upd ?_ (by intro _ z; cases z))); first | assumption | exact Wl.tp (by assumption) | exact Wl.tp (PR.w (by assumption)) | exact TpH.more (Wl.tp (by assumption)) (by assumption) | exact TpH.more (Wl.tp (PR.w (by assumption))) (by assumption)) : TpH Hf H := h
theorem PR.drop (p : PR ca K Hf H P pp R σ st) : PR ca K Hf H Em True R σ st :=
  ⟨trivial, p.len, p.at_, p.dj, fun _ _ q => q.elim, p.w.mono fun b q => q.elim (fun q => q.elim) .inr⟩
theorem PR.imp (p : PR ca K Hf H P pp R σ st) (h : pp → qq) : PR ca K Hf H P qq R σ st := ⟨h p.pend, p.len, p.at_, p.dj, p.dp, p.w⟩
/-- the pending thing's region may be taken smaller -/
theorem PR.toP {P' : Rg} (p : PR ca K Hf H P pp R σ st) (h : ∀ b, P' b → P b) (q : qq) : PR ca K Hf H P' qq R σ st :=
  ⟨q, p.len, p.at_, p.dj, fun i b x y => p.dp i b (h b x) y, p.w.mono fun b q => q.imp_left (h b)⟩
theorem PR.put (p : PR ca K Hf H Em True R σ st) (q : Rep ca K Hf H Em v d) : PR ca K Hf H Em (Rep ca K Hf H Em v d) R σ st := p.toP (fun _ q => q) q
end

/-! ### the judgements -/
/-- the exception's wish in any context: what it wants is exactly so -/
def wX (X : Cx) : WX := fun cls d σ H => ∀ u s', XE X (fun c' d' σ' H' => c' = cls ∧ d' = d ∧ σ' = σ ∧ H' = H) u s' → X.xe u s'
theorem takes_wX (X : Cx) : Takes X (wX X) := fun u s' ⟨a, B, sI, pins, σ, H, cls, d, h1, h2, h3, h4, h5, h6, h7, h8, h9⟩ =>
  h9 u s' ⟨a, B, sI, pins, σ, H, cls, d, h1, h2, h3, h4, h5, h6, h7, h8, rfl, rfl, rfl, rfl⟩
theorem wX_of {X : Cx} {W : WX} (t : Takes X W) {cls : Value} {d : Option Addr} {σ : L2.St} {H : Hp} (w : W cls d σ H) : wX X cls d σ H := fun u s' ⟨a, B, sI, pins, σ1, H1, cls1, d1, h1, h2, h3, h4, h5, h6, h7, h8, e1, e2, e3, e4⟩ => by
  subst e1; subst e2; subst e3; subst e4
  exact t u s' ⟨a, B, sI, pins, _, _, _, _, h1, h2, h3, h4, h5, h6, h7, h8, w⟩

structure We (X : Cx) (e : Expr) (σ : L2.St) (H : Hp) (Q : VK) : Prop where
  run : ∀ (pins : List (Addr × Obj)) (s : Shared), Inv X pins σ H s → wpAny (model X.prog X.w) X.A (eval e X.env) (EP X pins σ Q) X.xe s
structure Wt (X : Cx) (e : Expr) (σ : L2.St) (H : Hp) (Q : Bool → Hp → Prop) : Prop where
  run : ∀ (pins : List (Addr × Obj)) (s : Shared), Inv X pins σ H s → wpAny (model X.prog X.w) X.A (isTrue e X.env (eval e X.env)) (TP X pins σ Q) X.xe s
structure Wa (X : Cx) (es : List Expr) (σ : L2.St) (H : Hp) (Q : List V → Hp → Prop) : Prop where
  run : ∀ (pos : Pos) (pins : List (Addr × Obj)) (s : Shared), Inv X pins σ H s → wpAny (model X.prog X.w) X.A (spliced (backTo pos (starEach es X.env))) (AP X pins σ Q) X.xe s
structure Ws (X : Cx) (st : Stmt) (D : Ends) (σ : L2.St) (H : Hp) : Prop where
  run : ∀ (pins : List (Addr × Obj)) (s : Shared), Inv X pins σ H s → wpAny (model X.prog X.w) X.A (exec st X.env) (SP X pins D) X.xe s
structure Wss (X : Cx) (st : List Stmt) (D : Ends) (σ : L2.St) (H : Hp) : Prop where
  run : ∀ (pins : List (Addr × Obj)) (s : Shared), Inv X pins σ H s → wpAny (model X.prog X.w) X.A (execs st X.env) (SP X pins D) X.xe s
instance {X : Cx} {e : Expr} {σ : L2.St} {H : Hp} {Q : VK} : CoeFun (We X e σ H Q) (fun _ => ∀ (pins : List (Addr × Obj)) (s : Shared), Inv X pins σ H s → wpAny (model X.prog X.w) X.A (eval e X.env) (EP X pins σ Q) X.xe s) := ⟨We.run⟩
instance {X : Cx} {e : Expr} {σ : L2.St} {H : Hp} {Q : Bool → Hp → Prop} : CoeFun (Wt X e σ H Q) (fun _ => ∀ (pins : List (Addr × Obj)) (s : Shared), Inv X pins σ H s → wpAny (model X.prog X.w) X.A (isTrue e X.env (eval e X.env)) (TP X pins σ Q) X.xe s) := ⟨Wt.run⟩
instance {X : Cx} {es : List Expr} {σ : L2.St} {H : Hp} {Q : List V → Hp → Prop} : CoeFun (Wa X es σ H Q) (fun _ => ∀ (pos : Pos) (pins : List (Addr × Obj)) (s : Shared), Inv X pins σ H s → wpAny (model X.prog X.w) X.A (spliced (backTo pos (starEach es X.env))) (AP X pins σ Q) X.xe s) := ⟨Wa.run⟩
instance {X : Cx} {st : Stmt} {D : Ends} {σ : L2.St} {H : Hp} : CoeFun (Ws X st D σ H) (fun _ => ∀ (pins : List (Addr × Obj)) (s : Shared), Inv X pins σ H s → wpAny (model X.prog X.w) X.A (exec st X.env) (SP X pins D) X.xe s) := ⟨Ws.run⟩
instance {X : Cx} {st : List Stmt} {D : Ends} {σ : L2.St} {H : Hp} : CoeFun (Wss X st D σ H) (fun _ => ∀ (pins : List (Addr × Obj)) (s : Shared), Inv X pins σ H s → wpAny (model X.prog X.w) X.A (execs st X.env) (SP X pins D) X.xe s) := ⟨Wss.run⟩
theorem we_pe (X : Cx) (e : Expr) : PE X e (We X e) := ⟨fun pins s _ _ _ I h => h pins s I⟩
theorem we_of {X : Cx} {e : Expr} {t : TE} (p : PE X e t) {σ : L2.St} {H : Hp} {Q : VK} (h : t σ H Q) : We X e σ H Q := ⟨fun pins s I => p.run pins s σ H Q I h⟩
theorem wt_pt (X : Cx) (e : Expr) : PT X e (Wt X e) := ⟨fun pins s _ _ _ I h => h pins s I⟩
theorem wt_of {X : Cx} {e : Expr} {t : TT} (p : PT X e t) {σ : L2.St} {H : Hp} {Q : Bool → Hp → Prop} (h : t σ H Q) : Wt X e σ H Q := ⟨fun pins s I => p.run pins s σ H Q I h⟩
theorem wa_pa (X : Cx) (es : List Expr) : PA X es (Wa X es) := ⟨fun pos pins s _ _ _ I h => h pos pins s I⟩
theorem wa_of {X : Cx} {es : List Expr} {t : TA} (p : PA X es t) {σ : L2.St} {H : Hp} {Q : List V → Hp → Prop} (h : t σ H Q) : Wa X es σ H Q := ⟨fun pos pins s I => p.run pos pins s σ H Q I h⟩
theorem ws_ps (X : Cx) (st : Stmt) : PS X st (Ws X st) := ⟨fun pins s _ _ _ I h => h pins s I⟩
theorem ws_of {X : Cx} {st : Stmt} {t : TS} (p : PS X st t) {D : Ends} {σ : L2.St} {H : Hp} (h : t D σ H) : Ws X st D σ H := ⟨fun pins s I => p.run pins s σ H D I h⟩
theorem wss_pss (X : Cx) (st : List Stmt) : PSs X st (Wss X st) := ⟨fun pins s _ _ _ I h => h pins s I⟩
theorem wss_of {X : Cx} {st : List Stmt} {t : TS} (p : PSs X st t) {D : Ends} {σ : L2.St} {H : Hp} (h : t D σ H) : Wss X st D σ H := ⟨fun pins s I => p.run pins s σ H D I h⟩

/-- an exception's own dict holds the fields -/
def XcR (ca : Nat → Addr) (K : PySem.W.Frag) (Hf H : Hp) (cls : Value) (dd : Option Addr) (x : Xc) : Prop :=
  cls = .ref (ca x.C) ∧ ∃ (a : Addr) (fs : List (Str × V)), dd = some a ∧ H a = some (.xd fs) ∧ Hf a = some (.xd fs) ∧ fs.map (·.1) = x.fs.map (·.1) ∧ RepL ca K Hf H Em (fs.map (·.2)) (x.fs.map (·.2))

section
variable (ca : Nat → Addr) (X : Cx)
/-- what is wanted of a step's answer, a value: R the slots' regions ahead -/
def Post (Hf H : Hp) (S : Rg) (σ : L2.St) (r : Res D) (Q : VK) : Prop :=
  match r with
  | .ok d st => ∀ Hf' H' P R' v, Tr S Hf H (jn P R') Hf' H' → PR ca X.K Hf' H' P (Rep ca X.K Hf' H' P v d) R' σ st → Q v H'
  | .exc x st => ∀ Hf' H' R' cls dd, Tr S Hf H (jn Em R') Hf' H' → PR ca X.K Hf' H' Em (XcR ca X.K Hf' H' cls dd x) R' σ st → wX X cls dd σ H'
  | .fail => False
def PostL (Hf H : Hp) (S : Rg) (σ : L2.St) (r : Res (List D)) (Q : List V → Hp → Prop) : Prop :=
  match r with
  | .ok ds st => ∀ Hf' H' P R' vs, Tr S Hf H (jn P R') Hf' H' → PR ca X.K Hf' H' P (RepL ca X.K Hf' H' P vs ds) R' σ st → Q vs H'
  | .exc x st => ∀ Hf' H' R' cls dd, Tr S Hf H (jn Em R') Hf' H' → PR ca X.K Hf' H' Em (XcR ca X.K Hf' H' cls dd x) R' σ st → wX X cls dd σ H'
  | .fail => False
def PostB (Hf H : Hp) (S : Rg) (σ : L2.St) (r : Res Bool) (Q : Bool → Hp → Prop) : Prop :=
  match r with
  | .ok k st => ∀ Hf' H' R', Tr S Hf H (jn Em R') Hf' H' → PR ca X.K Hf' H' Em True R' σ st → Q k H'
  | .exc x st => ∀ Hf' H' R' cls dd, Tr S Hf H (jn Em R') Hf' H' → PR ca X.K Hf' H' Em (XcR ca X.K Hf' H' cls dd x) R' σ st → wX X cls dd σ H'
  | .fail => False
/-- the parameters that are never stored to keep their values -/
def Lk (L : List Nat) (σ σ' : L2.St) : Prop := σ'.length = σ.length ∧ ∀ i ∈ L, σ'[i]? = σ[i]?
theorem Lk.refl {L : List Nat} {σ : L2.St} : Lk L σ σ := ⟨rfl, fun _ _ => rfl⟩
theorem Lk.trans {L : List Nat} {σ σ' σ2 : L2.St} (a : Lk L σ σ') (b : Lk L σ' σ2) : Lk L σ σ2 := ⟨b.1.trans a.1, fun j hj => (b.2 j hj).trans (a.2 j hj)⟩
def PostS (L : List Nat) (Hf H : Hp) (S : Rg) (σ : L2.St) (r : SR) (E : Ends) : Prop :=
  match r with
  | .next st => ∀ Hf' H' R' σ', Tr S Hf H (jn Em R') Hf' H' → PR ca X.K Hf' H' Em True R' σ' st → Lk L σ σ' → E.nx σ' H'
  | .brk st => ∀ Hf' H' R' σ', Tr S Hf H (jn Em R') Hf' H' → PR ca X.K Hf' H' Em True R' σ' st → Lk L σ σ' → E.bk σ' H'
  | .cont st => ∀ Hf' H' R' σ', Tr S Hf H (jn Em R') Hf' H' → PR ca X.K Hf' H' Em True R' σ' st → Lk L σ σ' → E.ct σ' H'
  | .ret d st => ∀ Hf' H' P R' σ' v, Tr S Hf H (jn P R') Hf' H' → PR ca X.K Hf' H' P (Rep ca X.K Hf' H' P v d) R' σ' st → Lk L σ σ' → E.rt v H'
  | .exc x st => ∀ Hf' H' R' σ' cls dd, Tr S Hf H (jn Em R') Hf' H' → PR ca X.K Hf' H' Em (XcR ca X.K Hf' H' cls dd x) R' σ' st → Lk L σ σ' → wX X cls dd σ' H'
  | .fail => False

/-- the expression's meaning -/
def CE (e : Expr) (m : ME) : Prop := ∀ (Hf H : Hp) (R : Nat → Rg) (σ : L2.St) (st : Sl) (Q : VK), PR ca X.K Hf H Em True R σ st → Post ca X Hf H (jn Em R) σ (m st) Q → We X e σ H Q
def CT (e : Expr) (m : MT) : Prop := ∀ (Hf H : Hp) (R : Nat → Rg) (σ : L2.St) (st : Sl) (Q : Bool → Hp → Prop), PR ca X.K Hf H Em True R σ st → PostB ca X Hf H (jn Em R) σ (m st) Q → Wt X e σ H Q
def CS (L : List Nat) (s : Stmt) (m : MS) : Prop := ∀ (Hf H : Hp) (R : Nat → Rg) (σ : L2.St) (st : Sl) (E : Ends), PR ca X.K Hf H Em True R σ st → PostS ca X L Hf H (jn Em R) σ (m st) E → Ws X s E σ H
def CSs (L : List Nat) (s : List Stmt) (m : MS) : Prop := ∀ (Hf H : Hp) (R : Nat → Rg) (σ : L2.St) (st : Sl) (E : Ends), PR ca X.K Hf H Em True R σ st → PostS ca X L Hf H (jn Em R) σ (m st) E → Wss X s E σ H
/-- a target's store: the value v of the datum d, lying in P, goes to the slots -/
def CG (L : List Nat) (e : Expr) (t : TG) (m : MG) : Prop := PG X e t ∧ ∀ (Hf H : Hp) (P : Rg) (R : Nat → Rg) (σ : L2.St) (st : Sl) (v : V) (d : D) (Q : L2.St → Hp → Prop), PR ca X.K Hf H P (Rep ca X.K Hf H P v d) R σ st →
  (match m d st with
    | .ok _ st' => ∀ Hf' H' R' σ', Tr (jn P R) Hf H (jn Em R') Hf' H' → PR ca X.K Hf' H' Em True R' σ' st' → Lk L σ σ' → Q σ' H'
    | _ => False) → t v σ H Q
end
end DL

/-! DL3: the rules for expressions: names, constants, operations that look at their operands. -/
namespace DL
open PySem L2 PyProof.Rows
/-- what is only looked at -/
inductive RdL (ca : Nat → Addr) (K : PySem.W.Frag) (Hf H : Hp) : List V → List D → Prop where
  | nil : RdL ca K Hf H [] []
  | cons {S v d vs ds} : Rep ca K Hf H S v d → RdL ca K Hf H vs ds → RdL ca K Hf H (v :: vs) (d :: ds)
def CO (ca : Nat → Addr) (X : Cx) (e : Expr) : Opd → Prop
  | .v m => CE ca X e m
  | .s i => PE X e (tVar i)
inductive COs (ca : Nat → Addr) (X : Cx) : List Expr → List Opd → Prop where
  | nil : COs ca X [] []
  | cons {e o es os} : CO ca X e o → COs ca X es os → COs ca X (e :: es) (o :: os)

section
variable {ca : Nat → Addr} {K : PySem.W.Frag} {Hf H Hf1 H1 Hf2 H2 : Hp} {S S1 S2 P : Rg} {R R1 R2 : Nat → Rg} {pp qq : Prop} {σ σ' : L2.St} {st st' : Sl} {v : V} {d : D} {vs : List V} {ds : List D} {X : Cx} {L : List Nat}

theorem getS_set {st : Sl} {i j : Nat} {o : Option D} : getS (st.set i o) j = if i = j then (if j < st.length then o else none) else getS st j := by
  unfold getS
  rw [List.getElem?_set]
  by_cases h : i = j
  · subst h
    rw [if_pos rfl, if_pos rfl]
    split <;> rfl
  · rw [if_neg h, if_neg h]
theorem getS_lt {st : Sl} {i : Nat} {d : D} (h : getS st i = some d) : i < st.length := by
  unfold getS at h
  cases e : st[i]? with
  | none =>
    rw [e] at h
    cases h
  | some o => exact (List.getElem?_eq_some_iff.mp e).1

/-! ### carrying a wish along a step -/
theorem Post.from {r : Res D} {Q : VK} (t : Tr S Hf H S1 Hf1 H1) (h : Post ca X Hf H S σ r Q) : Post ca X Hf1 H1 S1 σ r Q := by
  cases r with
  | ok d st => exact fun Hf' H' P R' v t' p => h Hf' H' P R' v (t.trans t') p
  | exc x st => exact fun Hf' H' R' cls dd t' p => h Hf' H' R' cls dd (t.trans t') p
  | fail => exact h
theorem PostL.from {r : Res (List D)} {Q : List V → Hp → Prop} (t : Tr S Hf H S1 Hf1 H1) (h : PostL ca X Hf H S σ r Q) : PostL ca X Hf1 H1 S1 σ r Q := by
  cases r with
  | ok d st => exact fun Hf' H' P R' v t' p => h Hf' H' P R' v (t.trans t') p
  | exc x st => exact fun Hf' H' R' cls dd t' p => h Hf' H' R' cls dd (t.trans t') p
  | fail => exact h
theorem PostB.from {r : Res Bool} {Q : Bool → Hp → Prop} (t : Tr S Hf H S1 Hf1 H1) (h : PostB ca X Hf H S σ r Q) : PostB ca X Hf1 H1 S1 σ r Q := by
  cases r with
  | ok d st => exact fun Hf' H' R' t' p => h Hf' H' R' (t.trans t') p
  | exc x st => exact fun Hf' H' R' cls dd t' p => h Hf' H' R' cls dd (t.trans t') p
  | fail => exact h
theorem PostS.from {r : SR} {E : Ends} (t : Tr S Hf H S1 Hf1 H1) (k : Lk L σ σ') (h : PostS ca X L Hf H S σ r E) : PostS ca X L Hf1 H1 S1 σ' r E := by
  have kk : ∀ σ'' : L2.St, Lk L σ' σ'' → Lk L σ σ'' := fun σ'' q => Lk.trans k q
  cases r with
  | next st => exact fun Hf' H' R' s2 t' p q => h Hf' H' R' s2 (t.trans t') p (kk _ q)
  | brk st => exact fun Hf' H' R' s2 t' p q => h Hf' H' R' s2 (t.trans t') p (kk _ q)
  | cont st => exact fun Hf' H' R' s2 t' p q => h Hf' H' R' s2 (t.trans t') p (kk _ q)
  | ret d st => exact fun Hf' H' P R' s2 v t' p q => h Hf' H' P R' s2 v (t.trans t') p (kk _ q)
  | exc x st => exact fun Hf' H' R' s2 cls dd t' p q => h Hf' H' R' s2 cls dd (t.trans t') p (kk _ q)
  | fail => exact h
/-! ### ends of an expression -/
/-- a value without owned parts; nothing changed -/
theorem post_val {Q : VK} (p : PR ca X.K Hf H P pp R σ st) (h : Post ca X Hf H S σ (.ok d st) Q) (hS : ∀ b, tot R b → S b) (r : Rep ca X.K Hf H Em v d) : Q v H :=
  h Hf H Em R v (Tr.refl fun b q => q.elim (fun q => q.elim) (hS b)) (p.drop.put r)
theorem hf_none {a : Addr} (w : Wl Hf H S) (hn : H a = none) : Hf a = none := by
  cases e : Hf a with
  | none => rfl
  | some o => rw [w.ex a o e] at hn; cases hn
theorem wl_new {a : Addr} {o : HO} (w : Wl Hf H S) (hn : H a = none) (ho : ∀ xs, o ≠ .tup xs := by intro _ z; cases z) : Wl Hf (upd H a o) S ∧ Hf a = none := by
  have h0 : Hf a = none := by
    cases e : Hf a with
    | none => rfl
    | some o => rw [w.ex a o e] at hn; cases hn
  refine ⟨⟨fun b u e => ?_, fun b q => ?_, w.nf, w.tp.upd ho⟩, h0⟩
  · by_cases hb : b = a
    · subst hb; rw [h0] at e; cases e
    · rw [upd_ne hb]; exact w.ex b u e
  · obtain ⟨u, e⟩ := w.dm b q
    exact ⟨u, by rw [upd_ne (fun z => by subst z; rw [hn] at e; cases e)]; exact e⟩
theorem upd_keep {a : Addr} {o : HO} (hn : H a = none) : ∀ b u, H b = some u → upd H a o b = some u := fun b u e => by
  rw [upd_ne (fun z => by subst z; rw [hn] at e; cases e)]; exact e
/-- the slots over a heap with one object more -/
theorem PR.grow {a : Addr} {o : HO} (p : PR ca K Hf H Em True R σ st) (hn : H a = none) {P' : Rg} (q : qq) (hP : ∀ b, P' b → b = a) (ho : ∀ xs, o ≠ .tup xs := by intro _ z; cases z) : PR ca K Hf (upd H a o) P' qq R σ st where
  pend := q
  len := p.len
  at_ := fun i d e => by
    obtain ⟨v, e1, r⟩ := p.at_ i d e
    exact ⟨v, e1, r.keep (fun _ _ e => e) fun b _ o e => upd_keep hn b o e⟩
  dj := p.dj
  dp := fun i b h1 h2 => by
    have := hP b h1
    subst this
    obtain ⟨o, e⟩ := p.w.dm b (.inr ⟨i, h2⟩)
    rw [hn] at e; cases e
  w := by
    obtain ⟨w1, w2⟩ := wl_new (o := o) p.w hn ho
    refine ⟨w1.ex, fun b h => ?_, fun b h => ?_, w1.tp⟩
    · rcases h with h | h
      · have := hP b h
        subst this
        exact ⟨o, upd_same⟩
      · exact w1.dm b (.inr h)
    · rcases h with h | h
      · have := hP b h
        subst this
        exact w2
      · exact w1.nf b (.inr h)
/-- a new owned list -/
theorem post_newL {Q : VK} {a : Addr} (p : PR ca X.K Hf H P pp R σ st) (h : Post ca X Hf H S σ (.ok (.lst true ds) st) Q) (hS : ∀ b, tot R b → S b) (hn : H a = none) (r : RepL ca X.K Hf H Em vs ds) : Q (.ref a) (upd H a (.lst vs)) := by
  refine h Hf (upd H a (.lst vs)) (fun b => b = a) R (.ref a) ⟨fun _ _ e => e, fun b o e _ => upd_keep hn b o e, fun b q => ?_, fun _ _ e => .inl e⟩ (p.drop.grow hn (.lstO rfl upd_same ((r.keep (fun _ _ e => e) fun _ q => q.elim).mono fun _ q => q.elim)) fun _ q => q)
  rcases q with q | q
  · subst q; exact .inr hn
  · exact .inl (hS b q)
/-- an object let stand at once -/
theorem PR.stand {a : Addr} {o : HO} (p : PR ca K Hf H Em True R σ st) (hn : H a = none) : PR ca K (upd Hf a o) (upd H a o) Em True R σ st := by
  have h0 := hf_none p.w hn
  have hx : Ex Hf (upd Hf a o) := fun b u e => upd_keep h0 b u e
  refine ⟨trivial, p.len, fun i d e => ?_, p.dj, fun _ _ q => q.elim, ?_⟩
  · obtain ⟨v, e1, r⟩ := p.at_ i d e
    exact ⟨v, e1, r.keep hx fun b _ o e => upd_keep hn b o e⟩
  · refine ⟨fun b u e => ?_, fun b q => ?_, fun b q => ?_, mkTp⟩
    · by_cases hb : b = a
      · subst hb; rw [upd_same] at e ⊢; exact e
      · rw [upd_ne hb] at e ⊢; exact p.w.ex b u e
    · obtain ⟨u, e⟩ := p.w.dm b q
      exact ⟨u, upd_keep hn b u e⟩
    · have : b ≠ a := fun z => by
        subst z
        obtain ⟨u, e⟩ := p.w.dm b q
        rw [hn] at e; cases e
      rw [upd_ne this]; exact p.w.nf b q
theorem post_newT {Q : VK} {a : Addr} (p : PR ca X.K Hf H P pp R σ st) (h : Post ca X Hf H S σ (.ok (.tup ds) st) Q) (hS : ∀ b, tot R b → S b) (hn : H a = none) (r : RepL ca X.K Hf H Em vs ds) : Q (.ref a) (upd H a (.tup vs)) := by
  have h0 := hf_none p.w hn
  have p1 := p.drop.stand (o := .tup vs) hn
  refine h (upd Hf a (.tup vs)) (upd H a (.tup vs)) Em R (.ref a) ⟨fun b u e => upd_keep h0 b u e, fun b o e _ => upd_keep hn b o e, fun b q => ?_, fun b o e => ?_⟩ (p1.put (.tup upd_same (r.keep (fun b u e => upd_keep h0 b u e) fun _ q => q.elim)))
  · rcases q with q | q
    · exact q.elim
    · exact .inl (hS b q)
  · by_cases hb : b = a
    · subst hb; exact .inr (.inr hn)
    · rw [upd_ne hb] at e; exact .inl e

/-! ### constants and names -/
theorem ce_c {e : Expr} (p : PE X e (tC v)) (r : ∀ Hf H, Rep ca X.K Hf H Em v d) : CE ca X e (eC d) := fun Hf H R σ st Q pr h =>
  we_of p (post_val (v := v) pr h (fun b q => .inr q) (r Hf H))
theorem ce_int {i j pos} : CE ca X (.Constant (.int i) j pos) (eC (.int i)) := ce_c pe_int fun _ _ => .int
theorem ce_bl {b j pos} : CE ca X (.Constant (.bool b) j pos) (eC (.bl b)) := ce_c pe_bl fun _ _ => .bl
theorem ce_non {j pos} : CE ca X (.Constant .none j pos) (eC .non) := ce_c pe_non fun _ _ => .non
theorem ce_str {x j pos} : CE ca X (.Constant (.str x) j pos) (eC (.str x)) := ce_c pe_str fun _ _ => .str

theorem set_get {st : Sl} {i j : Nat} {o : Option D} {d : D} (h : getS (st.set i o) j = some d) : (i = j ∧ o = some d) ∨ (i ≠ j ∧ getS st j = some d) := by
  rw [getS_set] at h
  by_cases e : i = j
  · rw [if_pos e] at h
    split at h
    · exact .inl ⟨e, h⟩
    · cases h
  · rw [if_neg e] at h
    exact .inr ⟨e, h⟩
/-- a slot's data let stand -/
theorem PR.freeze {i : Nat} (p : PR ca K Hf H Em True R σ st) (h : getS st i = some d) :
    ∃ Hf' v, σ[i]? = some (some v) ∧ Rep ca K Hf' H Em v (frz d) ∧ Tr (jn Em R) Hf H (jn Em fun j b => j ≠ i ∧ R j b) Hf' H ∧ PR ca K Hf' H Em True (fun j b => j ≠ i ∧ R j b) σ (st.set i (some (frz d))) := by
  obtain ⟨v, e1, r⟩ := p.at_ i d h
  let Hf' : Hp := fun b => if Classical.propDecidable (R i b) |>.decide then H b else Hf b
  have hy : ∀ b, R i b → Hf' b = H b := fun b q => by
    show (if _ then _ else _) = _
    rw [if_pos (by simpa using q)]
  have hno : ∀ b, ¬ R i b → Hf' b = Hf b := fun b q => by
    show (if _ then _ else _) = _
    rw [if_neg (by simpa using q)]
  have hx : Ex Hf Hf' := fun b o e => by
    by_cases q : R i b
    · rw [hy b q]; exact p.w.ex b o e
    · rw [hno b q]; exact e
  have hfz : Rep ca K Hf' H Em v (frz d) := r.frz hx fun b q o e => by rw [hy b q]; exact e
  refine ⟨Hf', v, e1, hfz, ⟨hx, fun _ _ e _ => e, fun b q => .inl ?_, fun b o e => ?_⟩, ⟨trivial, ?_, fun j d' e => ?_, fun j k b q1 q2 => p.dj j k b q1.2 q2.2, fun _ _ q => q.elim, ?_⟩⟩
  · rcases q with q | ⟨j, q⟩
    · exact q.elim
    · exact .inr ⟨j, q.2⟩
  · by_cases q : R i b
    · exact .inr (.inl (.inr ⟨i, q⟩))
    · rw [hno b q] at e; exact .inl e
  · rw [List.length_set]; exact p.len
  · rcases set_get e with ⟨q1, q2⟩ | ⟨q1, q2⟩
    · subst q1
      cases q2
      exact ⟨v, e1, hfz.mono fun _ q => q.elim⟩
    · obtain ⟨v', e2, r2⟩ := p.at_ j d' q2
      exact ⟨v', e2, (r2.keep hx fun _ _ _ e => e).mono fun b q => ⟨Ne.symm q1, q⟩⟩
  · refine ⟨fun b o e => ?_, fun b q => ?_, fun b q => ?_, mkTp⟩
    · by_cases z : R i b
      · rw [hy b z] at e; exact e
      · rw [hno b z] at e; exact p.w.ex b o e
    · rcases q with q | ⟨j, q⟩
      · exact q.elim
      · exact p.w.dm b (.inr ⟨j, q.2⟩)
    · rcases q with q | ⟨j, q⟩
      · exact q.elim
      · rw [hno b fun z => q.1 (p.dj j i b q.2 z)]; exact p.w.nf b (.inr ⟨j, q.2⟩)
theorem ce_n {e : Expr} {i : Nat} (hp : PE X e (tVar i)) : CE ca X e (eN i) := fun Hf H R σ st Q p h => by
  refine we_of hp ?_
  unfold eN at h
  cases g : getS st i with
  | none => rw [g] at h; exact h.elim
  | some d =>
    rw [g] at h
    by_cases hh : hot d
    · simp only [hh, if_true] at h
      obtain ⟨Hf', v, e1, r, t, p1⟩ := p.freeze g
      exact ⟨v, e1, h Hf' H Em _ v (t.less fun b q => q) (p1.put r)⟩
    · simp only [Bool.not_eq_true] at hh
      simp only [hh, Bool.false_eq_true, if_false] at h
      obtain ⟨v, e1, r⟩ := p.at_ i d g
      exact ⟨v, e1, post_val p h (fun b q => .inr q) (r.cold hh)⟩
/-- a slot's data taken out -/
theorem PR.take {i : Nat} (p : PR ca K Hf H Em True R σ st) (h : getS st i = some d) :
    ∃ v, σ[i]? = some (some v) ∧ PR ca K Hf H (R i) (Rep ca K Hf H (R i) v d) (fun j b => j ≠ i ∧ R j b) σ (st.set i none) := by
  obtain ⟨v, e1, r⟩ := p.at_ i d h
  refine ⟨v, e1, r, ?_, fun j d' e => ?_, fun j k b q1 q2 => p.dj j k b q1.2 q2.2, fun j b q1 q2 => q2.1 (p.dj j i b q2.2 q1), ?_⟩
  · rw [List.length_set]; exact p.len
  · rcases set_get e with ⟨q1, q2⟩ | ⟨q1, q2⟩
    · cases q2
    · obtain ⟨v', e2, r2⟩ := p.at_ j d' q2
      exact ⟨v', e2, r2.mono fun b q => ⟨Ne.symm q1, q⟩⟩
  · exact p.w.mono fun b q => q.elim (fun q => .inr ⟨i, q⟩) fun ⟨j, q⟩ => .inr ⟨j, q.2⟩
theorem ce_mv {e : Expr} {i : Nat} (hp : PE X e (tVar i)) : CE ca X e (eMv i) := fun Hf H R σ st Q p h => by
  refine we_of hp ?_
  unfold eMv at h
  cases g : getS st i with
  | none => rw [g] at h; exact h.elim
  | some d =>
    rw [g] at h
    obtain ⟨v, e1, p1⟩ := p.take g
    refine ⟨v, e1, h Hf H (R i) _ v (Tr.refl fun b q => ?_) p1⟩
    rcases q with q | ⟨j, q⟩
    · exact .inr ⟨i, q⟩
    · exact .inr ⟨j, q.2⟩

/-! ### operands -/
theorem RdL.keep (r : RdL ca K Hf H vs ds) (hx : Ex Hf Hf1) (hk : Ex H H1) : RdL ca K Hf1 H1 vs ds := by
  induction r with
  | nil => exact .nil
  | cons r1 _ ih => exact .cons (r1.keep hx fun b _ o e => hk b o e) ih

theorem co_v {e : Expr} {m : ME} (h : CE ca X e m) : CO ca X e (.v m) := h
theorem co_s {e : Expr} {i : Nat} (h : PE X e (tVar i)) : CO ca X e (.s i) := h
/-- expressions from the left -/
def WL (X : Cx) : List Expr → L2.St → Hp → (List V → Hp → Prop) → Prop
  | [], _, H, Q => Q [] H
  | e :: es, σ, H, Q => We X e σ H fun x H1 => WL X es σ H1 fun xs H2 => Q (x :: xs) H2

/-- the wish for exceptions alone -/
theorem ops_sound : ∀ {es : List Expr} {os : List Opd}, COs ca X es os → ∀ {Hf H : Hp} {R : Nat → Rg} {σ : L2.St} {st : Sl} {k : (Sl → Option (List D)) → Sl → Res D} {Q' : VK} {Q : List V → Hp → Prop},
    PR ca X.K Hf H Em True R σ st → Post ca X Hf H (jn Em R) σ (opds os st k) Q' →
    (∀ gs st2 Hf2 H2 R2 vs, Tr (jn Em R) Hf H (jn Em R2) Hf2 H2 → PR ca X.K Hf2 H2 Em True R2 σ st2 → (∀ ds, gs st2 = some ds → RdL ca X.K Hf2 H2 vs ds) → Post ca X Hf2 H2 (jn Em R2) σ (k gs st2) Q' → Q vs H2) → WL X es σ H Q
  | _, _, .nil, Hf, H, R, σ, st, k, Q', Q, p, h, c => c _ st Hf H R [] (Tr.refl fun _ q => q) p (fun ds e => by cases e; exact .nil) h
  | _, _, .cons (o := .v m) (os := os) hc hcs, Hf, H, R, σ, st, k, Q', Q, p, h, c => by
    refine hc Hf H R σ st _ p ?_
    rw [opds] at h
    cases e : m st with
    | fail => rw [e] at h; exact h
    | exc x st1 => rw [e] at h; exact h
    | ok d st1 =>
      rw [e] at h
      intro Hf1 H1 P R1 v t1 p1
      have h1 : Post ca X Hf1 H1 (jn Em R1) σ (opds os st1 fun gs st2 => k (fun s => (gs s).map (d :: ·)) st2) Q' := Post.from (t1.less fun b q => q.elim (fun q => q.elim) .inr) h
      refine ops_sound hcs p1.drop h1 fun gs st2 Hf2 H2 R2 vs t2 p2 hr hk => ?_
      have t1' := t1.less (S2 := jn Em R1) fun b q => q.elim (fun q => q.elim) .inr
      refine c _ st2 Hf2 H2 R2 (v :: vs) (t1'.trans t2) p2 (fun ds e => ?_) hk
      cases g : gs st2 with
      | none => rw [g] at e; cases e
      | some ds' =>
        rw [g] at e
        cases e
        have wP : Wl Hf1 H1 P := p1.w.mono fun b q => .inl q
        have bs := t2.beside wP fun b q1 q2 => q2.elim (fun q => q.elim) fun ⟨i, q⟩ => p1.dp i b q1 q
        exact .cons (p1.pend.keep t2.fx bs.1) (hr _ g)
  | _, _, .cons (e := ex) (o := .s i) (es := es) (os := os) hc hcs, Hf, H, R, σ, st, k, Q', Q, p, h, c => by
    rw [opds] at h
    cases gi : getS st i with
    | none =>
      rw [gi] at h
      exact h.elim
    | some d0 =>
      rw [gi] at h
      obtain ⟨v, ev, _⟩ := p.at_ i d0 gi
      refine we_of hc ⟨v, ev, ?_⟩
      refine ops_sound hcs p h fun gs st2 Hf2 H2 R2 vs t2 p2 hr hk => c _ st2 Hf2 H2 R2 (v :: vs) t2 p2 (fun ds e => ?_) hk
      cases g0 : getS st2 i with
      | none => rw [g0] at e; cases e
      | some d =>
        rw [g0] at e
        cases g : gs st2 with
        | none =>
          rw [g] at e
          cases e
        | some ds' =>
          rw [g] at e
          cases e
          obtain ⟨v', e2, r⟩ := p2.at_ i d g0
          rw [ev] at e2
          cases e2
          exact .cons r (hr _ g)
end
end DL

/-! DL4: operations by data; and, or, not, if; displays; tests. -/
namespace DL
open PySem L2 PyProof.Rows

/-- what an operation that only looks hands on -/
def OutQ (ca : Nat → Addr) (K : PySem.W.Frag) (Hf H : Hp) (o : Out) (Q : VK) : Prop :=
  match o with
  | .val d => ∀ v, Rep ca K Hf H Em v d → Q v H
  | .newL ds => ∀ p vs, H p = none → RepL ca K Hf H Em vs ds → Q (.ref p) (upd H p (.lst vs))
  | .newT ds => ∀ p vs, H p = none → RepL ca K Hf H Em vs ds → Q (.ref p) (upd H p (.tup vs))
def rl1 (r : V → Hp → VK → Prop) : List V → Hp → VK → Prop
  | [x], H, Q => r x H Q
  | _, _, _ => False
def rl2 (r : L2.R2) : List V → Hp → VK → Prop
  | [x, y], H, Q => r x y H Q
  | _, _, _ => False
def f2 (f : D → D → Option D) : List D → Option Out
  | [x, y] => (f x y).map .val
  | _ => none
/-- an operation by values (rl) is what f says of the data -/
def OpS (ca : Nat → Addr) (K : PySem.W.Frag) (rl : List V → Hp → VK → Prop) (f : List D → Option Out) : Prop :=
  ∀ (Hf H : Hp) (vs : List V) (ds : List D) (o : Out) (Q : VK), Ex Hf H → RdL ca K Hf H vs ds → f ds = some o → OutQ ca K Hf H o Q → rl vs H Q

section
variable {ca : Nat → Addr} {K : PySem.W.Frag} {Hf H Hf1 H1 Hf2 H2 : Hp} {S S1 S2 P : Rg} {R R1 R2 : Nat → Rg} {pp qq : Prop} {σ σ' : L2.St} {st st' : Sl} {v : V} {d : D} {vs : List V} {ds : List D} {X : Cx} {L : List Nat}

theorem outQ_of {o : Out} {Q : VK} (p : PR ca X.K Hf H P pp R σ st) (h : Post ca X Hf H S σ (.ok o.d st) Q) (hS : ∀ b, tot R b → S b) : OutQ ca X.K Hf H o Q := by
  cases o with
  | val d => exact fun v r => post_val p h hS r
  | newL ds => exact fun a vs hn r => post_newL p h hS hn r
  | newT ds => exact fun a vs hn r => post_newT p h hS hn r
/-- THE RULE for an operation that only looks at its operands -/
theorem ce_op {e : Expr} {es : List Expr} {os : List Opd} {rl : List V → Hp → VK → Prop} {f : List D → Option Out} (hw : ∀ σ H Q, WL X es σ H (fun vs H2 => rl vs H2 Q) → We X e σ H Q) (hc : COs ca X es os) (ho : OpS ca X.K rl f) : CE ca X e (eOp f os) :=
  fun Hf H R σ st Q p h => by
    refine hw σ H Q (ops_sound hc p h fun gs st2 Hf2 H2 R2 vs t2 p2 hr hk => ?_)
    cases g : gs st2 with
    | none => rw [g] at hk; exact hk.elim
    | some ds =>
      rw [g] at hk
      cases g2 : f ds with
      | none =>
        have hk' : Post ca X Hf2 H2 (jn Em R2) σ (match f ds with | some o => .ok o.d st2 | none => .fail) Q := hk
        rw [g2] at hk'; exact hk'.elim
      | some o =>
        have hk' : Post ca X Hf2 H2 (jn Em R2) σ (match f ds with | some o => .ok o.d st2 | none => .fail) Q := hk
        rw [g2] at hk'
        exact ho Hf2 H2 vs ds o Q p2.w.ex (hr ds g) g2 (outQ_of p2 hk' fun b q => .inr q)
/-! ### the forms -/
theorem ce_bin {a b : Expr} {oa ob : Opd} {op : Operator} {pos : Pos} {r : L2.R2} {f : List D → Option Out} (ho : OpR X (binaryOp op) r) (hs : OpS ca X.K (rl2 r) f) (ha : CO ca X a oa) (hb : CO ca X b ob) :
    CE ca X (.BinOp a op b pos) (eOp f [oa, ob]) := ce_op (es := [a, b]) (rl := rl2 r) (fun σ H Q h => we_of (pe_op ho (we_pe X a) (we_pe X b)) h) (.cons ha (.cons hb .nil)) hs
theorem ce_cmp {a b : Expr} {oa ob : Opd} {op : CmpOp} {pos : Pos} {r : L2.R2} {f : List D → Option Out} (ho : OpR X (compareOp op) r) (hs : OpS ca X.K (rl2 r) f) (ha : CO ca X a oa) (hb : CO ca X b ob) (hm : behindInMarks op b = false) :
    CE ca X (.Compare a [op] [b] pos) (eOp f [oa, ob]) := ce_op (es := [a, b]) (rl := rl2 r) (fun σ H Q h => we_of (pe_cmpR ho (we_pe X a) (we_pe X b) hm) h) (.cons ha (.cons hb .nil)) hs
theorem ce_un {a : Expr} {oa : Opd} {op : UnaryOp} {pos : Pos} {r : V → Hp → VK → Prop} {f : List D → Option Out} (ho : UnR X (unaryOp op) r) (hs : OpS ca X.K (rl1 r) f) (ha : CO ca X a oa) :
    CE ca X (.UnaryOp op a pos) (eOp f [oa]) := ce_op (es := [a]) (rl := rl1 r) (fun σ H Q h => we_of (pe_un ho (we_pe X a)) h) (.cons ha .nil) hs
theorem ce_ix {a b : Expr} {oa ob : Opd} {pos : Pos} {r : L2.R2} {f : List D → Option Out} (hr : IxR X r) (hs : OpS ca X.K (rl2 r) f) (ha : CO ca X a oa) (hb : CO ca X b ob) (hp : PlainIx b) :
    CE ca X (.Subscript a b pos) (eOp f [oa, ob]) := ce_op (es := [a, b]) (rl := rl2 r) (fun σ H Q h => we_of (pe_ix hr (we_pe X a) (we_pe X b) hp) h) (.cons ha (.cons hb .nil)) hs
/-- the arguments of a call of a built-in, by values -/
theorem wa_wl : ∀ {es : List Expr}, (∀ e r, (e :: r) <:+ es → starEach (e :: r) X.env = (false, eval e X.env) :: starEach r X.env) → ∀ {σ : L2.St} {H : Hp} {Q : List V → Hp → Prop}, WL X es σ H Q → Wa X es σ H Q
  | [], _, _, _, _, h => wa_of pa_nil h
  | e :: es, hs, _, _, _, h => wa_of (pa_cons (we_pe X e) (wa_pa X es) (hs e es (List.suffix_refl _))) (We.mk fun pins s I => thn (We.run h pins s I) fun u s1 ⟨v, H1, I1, r1, q1⟩ => ⟨v, H1, I1, r1, wa_wl (fun e' r' q => hs e' r' (q.trans (List.suffix_cons _ _))) q1⟩)
end
/-- no star among the arguments -/
def NoStar : List Expr → Prop
  | [] => True
  | e :: es => (∀ env, starEach (e :: es) env = (false, eval e env) :: starEach es env) ∧ NoStar es
theorem noStar_suf : ∀ {es : List Expr}, NoStar es → ∀ e r, (e :: r) <:+ es → ∀ env, starEach (e :: r) env = (false, eval e env) :: starEach r env
  | [], _, e, r, q, _ => by simp at q
  | x :: es, h, e, r, q, env => by
    rcases List.suffix_cons_iff.mp q with q | q
    · cases q; exact h.1 env
    · exact noStar_suf h.2 e r q env
section
variable {ca : Nat → Addr} {K : PySem.W.Frag} {X : Cx} {L : List Nat}
/-- f(e, ..), f a built-in function; T(e, ..), T a built-in type -/
theorem ce_callB {x : Str} {p pos : Pos} {e : Expr} {es : List Expr} {os : List Opd} {id : String} {r : List V → Hp → VK → Prop} {f : List D → Option Out} (hc : CallR X (.builtin id) r) (hg : Gl X x) (hm : X.mg x = none) (hv : bootBuiltins x = some (.builtin id)) (hs : OpS ca X.K r f)
    (ha : COs ca X (e :: es) os) (hn : x ≠ "__name__" := by decide) (hdb : (x == ("__debug__" : Str)) = false := by decide) (hst : NoStar (e :: es) := by exact ⟨fun _ => rfl, trivial⟩)
    (hpl : (backTo pos (starEach es X.env)).any (·.1) = false := by rfl) : CE ca X (.Call (.Name x p) (e :: es) [] pos) (eOp f os) :=
  ce_op (es := e :: es) (fun σ H Q h => we_of (pe_callB hc hg hm hv (wa_pa X (e :: es)) hn hdb (hst.1 _) hpl) (wa_wl (fun e' r' q => noStar_suf hst e' r' q _) h)) ha hs
theorem ce_callTy {x : Str} {p pos : Pos} {e : Expr} {es : List Expr} {os : List Opd} {T : String} {r : List V → Hp → VK → Prop} {f : List D → Option Out} (hc : CallR X (.type T) r) (hg : Gl X x) (hm : X.mg x = none) (hv : bootBuiltins x = some (.type T)) (hs : OpS ca X.K r f)
    (ha : COs ca X (e :: es) os) (hn : x ≠ "__name__" := by decide) (hdb : (x == ("__debug__" : Str)) = false := by decide) (hst : NoStar (e :: es) := by exact ⟨fun _ => rfl, trivial⟩)
    (hpl : (backTo pos (starEach es X.env)).any (·.1) = false := by rfl) : CE ca X (.Call (.Name x p) (e :: es) [] pos) (eOp f os) :=
  ce_op (es := e :: es) (fun σ H Q h => we_of (pe_callTy hc hg hm hv (wa_pa X (e :: es)) hn hdb (hst.1 _) hpl) (wa_wl (fun e' r' q => noStar_suf hst e' r' q _) h)) ha hs
end

section
variable {ca : Nat → Addr} {K : PySem.W.Frag} {Hf H Hf1 H1 Hf2 H2 : Hp} {S S1 S2 P : Rg} {R R1 R2 : Nat → Rg} {pp qq : Prop} {σ σ' : L2.St} {st st' : Sl} {v : V} {d : D} {vs : List V} {ds : List D} {X : Cx} {L : List Nat}
/-! ### and, or, not, if -/
theorem less0 {P' : Rg} (t : Tr S Hf H (jn P' R1) Hf1 H1) : Tr S Hf H (jn Em R1) Hf1 H1 := t.less fun _ q => q.elim (fun q => q.elim) .inr
theorem rep_bl (r : Rep ca K Hf H S v (.bl b)) : v = .bl b := by cases r; rfl
theorem rep_int (r : Rep ca K Hf H S v (.int i)) : v = .int i := by cases r; rfl
theorem rep_str (r : Rep ca K Hf H S v (.str x)) : v = .str x := by cases r; rfl
theorem rep_non (r : Rep ca K Hf H S v .non) : v = .non := by cases r; rfl
theorem ce_and {a b : Expr} {ma mb : ME} {pos : Pos} (ha : CE ca X a ma) (hb : CE ca X b mb) : CE ca X (.BoolOp .And [a, b] pos) (eAnd ma mb) := fun Hf H R σ st Q p h => by
  refine we_of (pe_and (we_pe X a) (pe_one (we_pe X b))) ?_
  refine ha Hf H R σ st _ p ?_
  unfold eAnd at h
  cases e : ma st with
  | fail => rw [e] at h; exact h
  | exc x st1 => rw [e] at h; exact h
  | ok d st1 =>
    rw [e] at h
    intro Hf1 H1 P R1 v t1 p1
    cases d with
    | bl k =>
      cases k with
      | true => exact ⟨true, rep_bl p1.pend, hb Hf1 H1 R1 σ st1 Q p1.drop (Post.from (less0 t1) h)⟩
      | false => exact ⟨false, rep_bl p1.pend, h Hf1 H1 Em R1 (.bl false) (less0 t1) (p1.drop.put .bl)⟩
    | _ => exact h.elim
theorem ce_or {a b : Expr} {ma mb : ME} {pos : Pos} (ha : CE ca X a ma) (hb : CE ca X b mb) : CE ca X (.BoolOp .Or [a, b] pos) (eOr ma mb) := fun Hf H R σ st Q p h => by
  refine we_of (pe_or (we_pe X a) (pe_one (we_pe X b))) ?_
  refine ha Hf H R σ st _ p ?_
  unfold eOr at h
  cases e : ma st with
  | fail => rw [e] at h; exact h
  | exc x st1 => rw [e] at h; exact h
  | ok d st1 =>
    rw [e] at h
    intro Hf1 H1 P R1 v t1 p1
    cases d with
    | bl k =>
      cases k with
      | true => exact ⟨true, rep_bl p1.pend, h Hf1 H1 Em R1 (.bl true) (less0 t1) (p1.drop.put .bl)⟩
      | false => exact ⟨false, rep_bl p1.pend, hb Hf1 H1 R1 σ st1 Q p1.drop (Post.from (less0 t1) h)⟩
    | _ => exact h.elim
theorem ce_and' {a b c : Expr} {r : List Expr} {ma mb : ME} {pos : Pos} (ha : CE ca X a ma) (hb : CE ca X (.BoolOp .And (b :: c :: r) pos) mb) : CE ca X (.BoolOp .And (a :: b :: c :: r) pos) (eAnd ma mb) := fun Hf H R σ st Q p h => by
  refine we_of (pe_and (we_pe X a) (we_pe X _)) ?_
  refine ha Hf H R σ st _ p ?_
  unfold eAnd at h
  cases e : ma st with
  | fail => rw [e] at h; exact h
  | exc x st1 => rw [e] at h; exact h
  | ok d st1 =>
    rw [e] at h
    intro Hf1 H1 P R1 v t1 p1
    cases d with
    | bl k =>
      cases k with
      | true => exact ⟨true, rep_bl p1.pend, hb Hf1 H1 R1 σ st1 Q p1.drop (Post.from (less0 t1) h)⟩
      | false => exact ⟨false, rep_bl p1.pend, h Hf1 H1 Em R1 (.bl false) (less0 t1) (p1.drop.put .bl)⟩
    | _ => exact h.elim
theorem ce_not {a : Expr} {ma : ME} {pos : Pos} (ha : CE ca X a ma) : CE ca X (.UnaryOp .Not a pos) (eNot ma) := fun Hf H R σ st Q p h => by
  refine we_of (pe_not (we_pe X a)) ?_
  refine ha Hf H R σ st _ p ?_
  unfold eNot at h
  cases e : ma st with
  | fail => rw [e] at h; exact h
  | exc x st1 => rw [e] at h; exact h
  | ok d st1 =>
    rw [e] at h
    intro Hf1 H1 P R1 v t1 p1
    cases d with
    | bl k => exact ⟨k, rep_bl p1.pend, h Hf1 H1 Em R1 (.bl !k) (less0 t1) (p1.drop.put .bl)⟩
    | _ => exact h.elim
/-! ### tests -/
theorem ct_e {e : Expr} {m : ME} (hp : PT X e (tB (We X e))) (h : CE ca X e m) : CT ca X e (tE m) := fun Hf H R σ st Q p hq => by
  refine wt_of hp ?_
  refine h Hf H R σ st _ p ?_
  unfold tE at hq
  cases e : m st with
  | fail => rw [e] at hq; exact hq
  | exc x st1 => rw [e] at hq; exact hq
  | ok d st1 =>
    rw [e] at hq
    intro Hf1 H1 P R1 v t1 p1
    cases d with
    | bl k => exact ⟨k, rep_bl p1.pend, hq Hf1 H1 R1 (less0 t1) p1.drop⟩
    | _ => exact hq.elim
theorem ce_if {c a b : Expr} {mc : MT} {ma mb : ME} {pos : Pos} (hc : CT ca X c mc) (ha : CE ca X a ma) (hb : CE ca X b mb) : CE ca X (.IfExp c a b pos) (eIf mc ma mb) := fun Hf H R σ st Q p h => by
  refine we_of (pe_ifExp (wt_pt X c) (we_pe X a) (we_pe X b)) ?_
  refine hc Hf H R σ st _ p ?_
  unfold eIf at h
  cases e : mc st with
  | fail => rw [e] at h; exact h
  | exc x st1 => rw [e] at h; exact h
  | ok k st1 =>
    rw [e] at h
    intro Hf1 H1 R1 t1 p1
    cases k with
    | true => exact ha Hf1 H1 R1 σ st1 Q p1 (Post.from t1 h)
    | false => exact hb Hf1 H1 R1 σ st1 Q p1 (Post.from t1 h)

/-! ### a op1 b op2 c, of values without owned parts -/
theorem ce_chain {a b c : Expr} {ma mb mc : ME} {op op' : CmpOp} {r r' : L2.R2} {f g : D → D → Option D} {pos : Pos} (ho : OpR X (compareOp op) r) (ho' : OpR X (compareOp op') r')
    (hf : OpS ca X.K (rl2 r) (f2 f))
    (hg : OpS ca X.K (rl2 r') (f2 g))
    (ha : CE ca X a ma) (hb : CE ca X b mb) (hc : CE ca X c mc) (hm : lastMarks [op, op'] [b, c] = false := by with_unfolding_all rfl) :
    CE ca X (.Compare a [op, op'] [b, c] pos) (eChain f g ma mb mc) := fun Hf H R σ st Q p h => by
  refine we_of (pe_chain ho ho' (we_pe X a) (we_pe X b) (we_pe X c) hm) ?_
  refine ha Hf H R σ st _ p ?_
  unfold eChain at h
  cases e : ma st with
  | fail => rw [e] at h; exact h
  | exc x st1 => rw [e] at h; exact h
  | ok d st1 =>
    rw [e] at h
    intro Hf1 H1 P1 R1 v1 t1 p1
    refine hb Hf1 H1 R1 σ st1 _ p1.drop ?_
    have h1 := Post.from (less0 t1) h
    cases e2 : mb st1 with
    | fail => simp only [Res.bind, e2] at h1; exact h1
    | exc x st2 => simp only [Res.bind, e2] at h1; exact h1
    | ok d2 st2 =>
      simp only [Res.bind, e2] at h1
      intro Hf2 H2 P2 R2 v2 t2 p2
      have wP : Wl Hf1 H1 P1 := p1.w.mono fun b q => .inl q
      have bs := t2.beside wP fun b q1 q2 => q2.elim (fun q => q.elim) fun ⟨i, q⟩ => p1.dp i b q1 q
      have r1 := p1.pend.keep t2.fx bs.1
      cases e3 : f d d2 with
      | none => rw [e3] at h1; exact h1.elim
      | some k =>
        rw [e3] at h1
        refine hf Hf2 H2 [v1, v2] [d, d2] (.val k) _ p2.w.ex (.cons r1 (.cons p2.pend .nil)) (by simp [f2, e3]) ?_
        intro vk rk
        cases k with
        | bl kb =>
          refine ⟨kb, rep_bl rk, ?_⟩
          cases kb with
          | true =>
            show We X c σ H2 fun w' H4 => r' v2 w' H4 Q
            refine hc Hf2 H2 R2 σ st2 _ p2.drop ?_
            have h2 := Post.from (less0 t2) h1
            cases e4 : mc st2 with
            | fail => simp only [e4] at h2; exact h2
            | exc x st3 => simp only [e4] at h2; exact h2
            | ok d3 st3 =>
              simp only [e4] at h2
              intro Hf3 H3 P3 R3 v3 t3 p3
              have wP2 : Wl Hf2 H2 P2 := p2.w.mono fun b q => .inl q
              have bs2 := t3.beside wP2 fun b q1 q2 => q2.elim (fun q => q.elim) fun ⟨i, q⟩ => p2.dp i b q1 q
              have r2 := p2.pend.keep t3.fx bs2.1
              cases e5 : g d2 d3 with
              | none => rw [e5] at h2; exact h2.elim
              | some w3 =>
                rw [e5] at h2
                have h3 := Post.from (less0 t3) h2
                exact hg Hf3 H3 [v2, v3] [d2, d3] (.val w3) _ p3.w.ex (.cons r2 (.cons p3.pend .nil)) (by simp [f2, e5]) fun vk rk => post_val p3 h3 (fun b q => .inr q) rk
          | false =>
            show Q (.bl false) H2
            exact post_val p2 (Post.from (less0 t2) h1) (fun b q => .inr q) .bl
        | _ => exact h1.elim
end
end DL

/-! DL5: each operation by data is what the layer's rule says of the values. -/
namespace DL
open PySem L2 PyProof.Rows
section
variable {ca : Nat → Addr} {K : PySem.W.Frag} {Hf H Hf1 H1 Hf2 H2 : Hp} {S S1 S2 P : Rg} {v : V} {d : D} {vs : List V} {ds xs ys : List D} {X : Cx}

theorem rdl1 {ds : List D} (r : RdL ca K Hf H vs ds) : ∀ {d}, ds = [d] → ∃ v S, vs = [v] ∧ Rep ca K Hf H S v d := by
  intro d e; subst e
  cases r with
  | cons r1 r2 => cases r2; exact ⟨_, _, rfl, r1⟩
theorem rdl2 {ds : List D} (r : RdL ca K Hf H vs ds) : ∀ {d e}, ds = [d, e] → ∃ v w S S', vs = [v, w] ∧ Rep ca K Hf H S v d ∧ Rep ca K Hf H S' w e := by
  intro d e q; subst q
  cases r with
  | cons r1 r2 => cases r2 with
    | cons r3 r4 => cases r4; exact ⟨_, _, _, _, rfl, r1, r3⟩
/-- the items of what is read -/
theorem rep_items (hx : Ex Hf H) (r : Rep ca K Hf H S v d) (h : items d = some xs) : ∃ a vs T, v = .ref a ∧ (SqL K H a vs ∨ SqT K H a vs) ∧ RepL ca K Hf H T vs xs := by
  cases r with
  | lstF e r => cases h; exact ⟨_, _, Em, rfl, .inl (.inl (.inl (hx _ _ e))), r⟩
  | lstO s e r => cases h; exact ⟨_, _, _, rfl, .inl (.inl (.inl e)), r⟩
  | tup e r => cases h; exact ⟨_, _, Em, rfl, .inr (.inl (.inl (hx _ _ e))), r⟩
  | scr e =>
    cases h
    rename_i a0 ns0
    refine ⟨_, ns0.map V.int, Em, rfl, .inl ?_, ?_⟩
    · rcases e with e | e
      · refine .inl ?_
        rcases e with e | ⟨o, e⟩
        · exact .inl (hx _ _ e)
        · exact .inr ⟨o, hx _ _ e⟩
      · exact .inr e
    · clear e
      induction ns0 with
      | nil => exact .nil
      | cons n ns ih => exact .cons (S1 := Em) (S2 := Em) .int ih (fun _ q => q) (fun _ q => q) fun _ q _ => q
  | _ => cases h
theorem rep_lst {o : Bool} (hx : Ex Hf H) (r : Rep ca K Hf H S v (.lst o xs)) : ∃ a vs T, v = .ref a ∧ H a = some (.lst vs) ∧ RepL ca K Hf H T vs xs := by
  cases r with
  | lstF e r => exact ⟨_, _, Em, rfl, hx _ _ e, r⟩
  | lstO s e r => exact ⟨_, _, _, rfl, e, r⟩
theorem rep_tup (hx : Ex Hf H) (r : Rep ca K Hf H S v (.tup xs)) : ∃ a vs, v = .ref a ∧ H a = some (.tup vs) ∧ RepL ca K Hf H Em vs xs := by
  cases r with
  | tup e r => exact ⟨_, _, rfl, hx _ _ e, r⟩
theorem repL_mapInt : ∀ {S : Rg} (ns : List Int), RepL ca K Hf H S (ns.map V.int) (ns.map D.int)
  | _, [] => .nil
  | _, n :: ns => .cons (S1 := Em) (S2 := Em) .int (repL_mapInt ns) (fun _ q => q.elim) (fun _ q => q.elim) fun _ q _ => q
theorem rep_lstItems (hx : Ex Hf H) (r : Rep ca K Hf H S v d) (h : lstItems d = some xs) : ∃ a vs T, v = .ref a ∧ SqL K H a vs ∧ RepL ca K Hf H T vs xs := by
  cases r with
  | lstF e r => cases h; exact ⟨_, _, Em, rfl, .inl (.inl (hx _ _ e)), r⟩
  | lstO s e r => cases h; exact ⟨_, _, _, rfl, .inl (.inl e), r⟩
  | scr e =>
    cases h
    rename_i a0 ns0
    refine ⟨a0, ns0.map V.int, Em, rfl, ?_, repL_mapInt ns0⟩
    rcases e with e | e
    · refine .inl ?_
      rcases e with e | ⟨o, e⟩
      · exact .inl (hx _ _ e)
      · exact .inr ⟨o, hx _ _ e⟩
    · exact .inr e
  | _ => cases h
theorem repL_cold0 (r : RepL ca K Hf H S vs ds) : colds ds = true → RepL ca K Hf H Em vs ds := by
  induction ds generalizing vs S with
  | nil => intro _; cases r; exact .nil
  | cons d ds ih =>
    intro h
    cases r with
    | cons r1 r2 h1 h2 h3 =>
      rw [colds, List.all_cons, Bool.and_eq_true] at h
      have hc : hot d = false := by have := h.1; unfold cold at this; simpa using this
      exact .cons (S1 := Em) (S2 := Em) (r1.cold hc) (ih r2 h.2) (fun _ q => q.elim) (fun _ q => q.elim) fun _ q => q.elim
theorem repL_cold (r : RepL ca K Hf H S vs ds) (h : colds ds = true) : RepL ca K Hf H S1 vs ds := (repL_cold0 r h).mono fun _ q => q.elim
theorem repL_app0 (r : RepL ca K Hf H S vs xs) : ∀ {ws : List V} {S2 : Rg}, RepL ca K Hf H S2 ws ys → colds xs = true → colds ys = true → RepL ca K Hf H Em (vs ++ ws) (xs ++ ys) := by
  induction xs generalizing vs S with
  | nil => intro ws S2 r2 _ h; cases r; exact repL_cold r2 h
  | cons d ds ih =>
    intro ws S2 q h h'
    cases r with
    | cons r1 r2 h1 h2 h3 =>
      rw [colds, List.all_cons, Bool.and_eq_true] at h
      have hc : hot d = false := by have := h.1; unfold cold at this; simpa using this
      exact .cons (S1 := Em) (S2 := Em) (r1.cold hc) (ih r2 q h.2 h') (fun _ q => q.elim) (fun _ q => q.elim) fun _ q => q.elim
theorem repL_app (r : RepL ca K Hf H S vs xs) {ws : List V} {S2 : Rg} (r2 : RepL ca K Hf H S2 ws ys) (h : colds xs = true) (h2 : colds ys = true) : RepL ca K Hf H S1 (vs ++ ws) (xs ++ ys) := (repL_app0 r r2 h h2).mono fun _ q => q.elim
theorem repL_at (r : RepL ca K Hf H S vs xs) : ∀ {i : Nat} {d : D}, xs[i]? = some d → ∃ v T, vs[i]? = some v ∧ Rep ca K Hf H T v d ∧ (∀ b, T b → S b) := by
  induction xs generalizing vs S with
  | nil => intro i d h; simp at h
  | cons x xs ih =>
    intro i d h
    cases r with
    | cons r1 r2 h1 h2 h3 =>
      cases i with
      | zero => simp at h; subst h; exact ⟨_, _, rfl, r1, h1⟩
      | succ i =>
        obtain ⟨v, T, e, q, z⟩ := ih r2 (i := i) (d := d) (by simpa using h)
        exact ⟨v, T, by simpa using e, q, fun b y => h2 b (z b y)⟩
theorem repL_ints : ∀ {xs : List D} {vs : List V} {S : Rg} {ns : List Int}, RepL ca K Hf H S vs xs → asInts xs = some ns → vs = ns.map V.int
  | [], _, _, _, r, h => by cases r; cases h; rfl
  | d :: xs, _, _, ns, .cons r1 r2 _ _ _, h => by
    cases d with
    | int i =>
      rw [asInts] at h
      cases e : asInts xs with
      | none =>
        rw [e] at h
        cases h
      | some ns' =>
        rw [e] at h
        cases h
        rw [repL_ints r2 e, rep_int r1]
        rfl
    | _ => simp [asInts] at h
theorem repL_bls : ∀ {xs : List D} {vs : List V} {S : Rg} {ns : List Bool}, RepL ca K Hf H S vs xs → asBls xs = some ns → vs = ns.map V.bl
  | [], _, _, _, r, h => by cases r; cases h; rfl
  | d :: xs, _, _, ns, .cons r1 r2 _ _ _, h => by
    cases d with
    | bl i =>
      rw [asBls] at h
      cases e : asBls xs with
      | none =>
        rw [e] at h
        cases h
      | some ns' =>
        rw [e] at h
        cases h
        rw [repL_bls r2 e, rep_bl r1]
        rfl
    | _ => simp [asBls] at h

/-! ### arithmetic -/
theorem os_sub : OpS ca K (rl2 (rI0 fun i j => .int (i - j))) oSub := fun Hf H vs ds o Q hx rd h q => by
  match ds, h with
  | [.int i, .int j], h =>
    cases h
    obtain ⟨v, w, S, S', e1, r1, r2⟩ := rdl2 rd rfl
    subst e1
    exact ⟨i, j, rep_int r1, rep_int r2, q _ .int⟩
theorem os_div : OpS ca K (rl2 (rI CDivW fun i j => .int (i / j))) oDiv := fun Hf H vs ds o Q hx rd h q => by
  match ds, h with
  | [.int i, .int j], h =>
    rw [oDiv] at h
    split at h
    · rename_i c
      cases h
      obtain ⟨v, w, S, S', e1, r1, r2⟩ := rdl2 rd rfl
      subst e1
      exact ⟨i, j, rep_int r1, rep_int r2, c, q _ .int⟩
    · cases h
theorem os_mod : OpS ca K (rl2 (rI (fun _ j => 0 < j) fun i j => .int (i % j))) oMod := fun Hf H vs ds o Q hx rd h q => by
  match ds, h with
  | [.int i, .int j], h =>
    rw [oMod] at h
    split at h
    · rename_i c
      cases h
      obtain ⟨v, w, S, S', e1, r1, r2⟩ := rdl2 rd rfl
      subst e1
      exact ⟨i, j, rep_int r1, rep_int r2, c, q _ .int⟩
    · cases h
theorem os_pow : OpS ca K (rl2 (rI CPow fun i j => .int (i ^ j.toNat))) oPow := fun Hf H vs ds o Q hx rd h q => by
  match ds, h with
  | [.int i, .int j], h =>
    rw [oPow] at h
    split at h
    · rename_i c
      cases h
      obtain ⟨v, w, S, S', e1, r1, r2⟩ := rdl2 rd rfl
      subst e1
      exact ⟨i, j, rep_int r1, rep_int r2, c, q _ .int⟩
    · cases h
theorem os_neg : OpS ca K (rl1 (rU fun i => .int (-i))) oNeg := fun Hf H vs ds o Q hx rd h q => by
  match ds, h with
  | [.int i], h =>
    cases h
    obtain ⟨v, S, e1, r1⟩ := rdl1 rd rfl
    subst e1
    exact ⟨i, rep_int r1, q _ .int⟩
theorem f2_some {p : D → D → Option D} {ds : List D} {o : Out} (h : f2 p ds = some o) : ∃ x y z, ds = [x, y] ∧ p x y = some z ∧ o = .val z := by
  match ds, h with
  | [x, y], h =>
    dsimp only [f2] at h
    cases e : p x y with
    | none =>
      rw [e] at h
      cases h
    | some z => rw [e] at h; cases h; exact ⟨x, y, z, rfl, e, rfl⟩
  | [], h => cases h
  | [_], h => cases h
  | _ :: _ :: _ :: _, h =>
      cases h
theorem os_lt : OpS ca K (rl2 (rI0 fun i j => .bl (decide (i < j)))) (f2 pLt) := fun Hf H vs ds o Q hx rd h q => by
  obtain ⟨x, y, z, rfl, h1, rfl⟩ := f2_some h
  obtain ⟨v, w, S, S', e1, r1, r2⟩ := rdl2 rd rfl
  subst e1
  cases x <;> try (cases h1; done)
  cases y <;> try (cases h1; done)
  cases h1
  exact ⟨_, _, rep_int r1, rep_int r2, q _ .bl⟩
theorem os_le : OpS ca K (rl2 (rI0 fun i j => .bl (decide (i ≤ j)))) (f2 pLe) := fun Hf H vs ds o Q hx rd h q => by
  obtain ⟨x, y, z, rfl, h1, rfl⟩ := f2_some h
  obtain ⟨v, w, S, S', e1, r1, r2⟩ := rdl2 rd rfl
  subst e1
  cases x <;> try (cases h1; done)
  cases y <;> try (cases h1; done)
  cases h1
  exact ⟨_, _, rep_int r1, rep_int r2, q _ .bl⟩
theorem os_gt : OpS ca K (rl2 (rI0 fun i j => .bl (decide (j < i)))) (f2 pGt) := fun Hf H vs ds o Q hx rd h q => by
  obtain ⟨x, y, z, rfl, h1, rfl⟩ := f2_some h
  obtain ⟨v, w, S, S', e1, r1, r2⟩ := rdl2 rd rfl
  subst e1
  cases x <;> try (cases h1; done)
  cases y <;> try (cases h1; done)
  cases h1
  exact ⟨_, _, rep_int r1, rep_int r2, q _ .bl⟩
theorem os_ge : OpS ca K (rl2 (rI0 fun i j => .bl (decide (j ≤ i)))) (f2 pGe) := fun Hf H vs ds o Q hx rd h q => by
  obtain ⟨x, y, z, rfl, h1, rfl⟩ := f2_some h
  obtain ⟨v, w, S, S', e1, r1, r2⟩ := rdl2 rd rfl
  subst e1
  cases x <;> try (cases h1; done)
  cases y <;> try (cases h1; done)
  cases h1
  exact ⟨_, _, rep_int r1, rep_int r2, q _ .bl⟩
/-! ### + and * of several kinds -/
def rAddA : L2.R2 := fun x y H Q => rI0 (fun i j => .int (i + j)) x y H Q ∨ rCat x y H Q ∨ (∃ i j, x = .str i ∧ y = .str j ∧ i.length + j.length ≤ sizeLine ∧ Q (.str (i ++ j)) H)
theorem op_addA : OpR X (binaryOp .Add) rAddA := OpR.or op_add (OpR.or op_cat op_add_str)
theorem sz_eq : (16777216 : Nat) = sizeLine := by rw [sizeLine_eq]
theorem newLc_some {xs : List D} {o : Out} (h : newLc xs = some o) : o = .newL xs ∧ colds xs = true ∧ xs.length ≤ sizeLine := by
  unfold newLc at h
  split at h
  · rename_i c
    rw [Bool.and_eq_true, decide_eq_true_eq] at c
    cases h
    exact ⟨rfl, c.1, by rw [← sz_eq]; exact c.2⟩
  · cases h
theorem os_add : OpS ca K (rl2 rAddA) oAdd := fun Hf H vs ds o Q hx rd h q => by
  match ds, h with
  | [.int i, .int j], h =>
    cases h
    obtain ⟨v, w, S, S', e1, r1, r2⟩ := rdl2 rd rfl
    subst e1
    exact .inl ⟨i, j, rep_int r1, rep_int r2, q _ .int⟩
  | [.lst o1 xs, .lst o2 ys], h =>
    obtain ⟨v, w, S, S', e1, r1, r2⟩ := rdl2 rd rfl
    subst e1
    obtain ⟨rfl, hc, hl⟩ := newLc_some h
    obtain ⟨a, vs, T, rfl, e2, r3⟩ := rep_lst hx r1
    obtain ⟨b, ws, T', rfl, e4, r4⟩ := rep_lst hx r2
    have hc' : colds xs = true ∧ colds ys = true := by
      unfold colds at hc ⊢
      rw [List.all_append, Bool.and_eq_true] at hc; exact hc
    refine .inr (.inl ⟨a, b, vs, ws, rfl, rfl, e2, e4, ?_, fun p hp => q p _ hp (repL_app r3 r4 hc'.1 hc'.2)⟩)
    rw [r3.length, r4.length]
    rw [List.length_append] at hl; exact hl
  | [.str x, .str y], h =>
    rw [oAdd] at h
    split at h
    · rename_i c
      cases h
      obtain ⟨v, w, S, S', e1, r1, r2⟩ := rdl2 rd rfl
      subst e1
      exact .inr (.inr ⟨x, y, rep_str r1, rep_str r2, by rw [← sz_eq]; exact c, q _ .str⟩)
    · cases h
def rMulA : L2.R2 := fun x y H Q => rI CMul (fun i j => .int (i * j)) x y H Q ∨ rRep x y H Q
theorem op_mulA : OpR X (binaryOp .Mult) rMulA := OpR.or op_mul op_rep
theorem repL_rep (r : RepL ca K Hf H S vs xs) (hc : colds xs = true) : ∀ k : Nat, RepL ca K Hf H S1 (List.replicate k vs).flatten (List.replicate k xs).flatten ∧ colds (List.replicate k xs).flatten = true
  | 0 => ⟨.nil, rfl⟩
  | k + 1 => by
    obtain ⟨h1, h2⟩ := repL_rep r hc k
    rw [List.replicate_succ, List.replicate_succ,
        List.flatten_cons, List.flatten_cons]
    refine ⟨repL_app r h1 hc h2, ?_⟩
    unfold colds at h2 hc ⊢
    rw [List.all_append, Bool.and_eq_true]; exact ⟨hc, h2⟩
theorem os_mul : OpS ca K (rl2 rMulA) oMul := fun Hf H vs ds o Q hx rd h q => by
  match ds, h with
  | [.int i, .int j], h =>
    rw [oMul] at h
    split at h
    · rename_i c
      cases h
      obtain ⟨v, w, S, S', e1, r1, r2⟩ := rdl2 rd rfl
      subst e1
      exact .inl ⟨i, j, rep_int r1, rep_int r2, c, q _ .int⟩
    · cases h
  | [.lst o1 xs, .int k], h =>
    rw [oMul] at h
    split at h
    · rename_i c
      rw [Bool.and_eq_true, decide_eq_true_eq] at c
      cases h
      obtain ⟨v, w, S, S', e1, r1, r2⟩ := rdl2 rd rfl
      subst e1
      obtain ⟨a, vs, T, rfl, e2, r3⟩ := rep_lst hx r1
      refine .inr ⟨a, k, vs, rfl, rep_int r2, e2, c.2.1, c.2.2.1, ?_, fun p hp => q p _ hp (repL_rep r3 c.1 _).1⟩
      rw [r3.length, ← sz_eq]; exact c.2.2.2
    · cases h
/-! ### ==, != at any depth; is None; in -/
theorem dpAll_ints : ∀ ns : List Int, DpAll K H (ns.map V.int) (ns.map PyData.int)
  | [] => .nil
  | n :: ns => .cons (.int n) (dpAll_ints ns)
mutual
theorem rep_dp (hx : Ex Hf H) : ∀ {S : Rg} {v : V} {d : D}, Rep ca K Hf H S v d → (toPy d).canLay0 = true → Dp K H v (toPy d)
  | _, _, _, .non, _ => by rw [toPy]; exact .non
  | _, _, _, .bl, _ => by rw [toPy]; exact .bl _
  | _, _, _, .int, _ => by rw [toPy]; exact .int _
  | _, _, _, .str, _ => by rw [toPy]; exact .str _
  | _, _, _, .scr (xs := ns) h, _ => by
      rw [toPy]
      refine .lst (xs := ns.map V.int) ?_ ?_
      · rcases h with h | h
        · refine .inl ?_
          rcases h with h | ⟨o, h⟩
          · exact .inl (hx _ _ h)
          · exact .inr ⟨o, hx _ _ h⟩
        · exact .inr h
      · exact dpAll_ints ns
  | _, _, _, .cls, h => by rw [toPy] at h; exact absurd h (by decide)
  | _, _, _, .ty, h => by rw [toPy] at h; exact absurd h (by decide)
  | _, _, _, .lstF e r, h => by
      rw [toPy] at h ⊢
      rw [PySem.PyData.canLay0] at h
      exact .lst (.inl (.inl (hx _ _ e))) (repL_dp hx r h)
  | _, _, _, .lstO s e r, h => by
      rw [toPy] at h ⊢
      rw [PySem.PyData.canLay0] at h
      exact .lst (.inl (.inl e)) (repL_dp hx r h)
  | _, _, _, .tup e r, h => by
      rw [toPy] at h ⊢
      rw [PySem.PyData.canLay0] at h
      exact .tup (.inl (.inl (hx _ _ e))) (repL_dp hx r h)
  | _, _, _, .insF _ _ _, h => by rw [toPy] at h; exact absurd h (by decide)
  | _, _, _, .insO _ _ _ _, h => by rw [toPy] at h; exact absurd h (by decide)
  | _, _, _, .dicF _ _ _, h => by rw [toPy] at h; exact absurd h (by decide)
  | _, _, _, .dicO _ _ _ _, h => by rw [toPy] at h; exact absurd h (by decide)
  | _, _, _, .dctF _ _ _, h => by rw [toPy] at h; exact absurd h (by decide)
  | _, _, _, .dctO _ _ _ _, h => by rw [toPy] at h; exact absurd h (by decide)
theorem repL_dp (hx : Ex Hf H) : ∀ {S : Rg} {vs : List V} {ds : List D}, RepL ca K Hf H S vs ds → PySem.PyData.canLayAll0 (toPyL ds) = true → DpAll K H vs (toPyL ds)
  | _, _, _, .nil, _ => by rw [toPyL]; exact .nil
  | _, _, _, .cons r1 r2 _ _ _, h => by
      rw [toPyL] at h ⊢
      rw [PySem.PyData.canLayAll0, Bool.and_eq_true] at h
      exact .cons (rep_dp hx r1 h.1) (repL_dp hx r2 h.2)
end
theorem shaped_lay {p : PySem.PyData} (h : PySem.SeqAt.shaped p = true) : p.canLay0 = true := by
  unfold PySem.SeqAt.shaped at h
  rw [Bool.and_eq_true] at h; exact h.1
theorem os_eq : OpS ca K (rl2 (rEqD K)) (f2 pEq) := fun Hf H vs ds o Q hx rd h q => by
  obtain ⟨x, y, z, rfl, h1, rfl⟩ := f2_some h
  unfold pEq at h1
  split at h1
  · rename_i c
    rw [Bool.and_eq_true] at c
    cases h1
    obtain ⟨v, w, S, S', e1, r1, r2⟩ := rdl2 rd rfl
    subst e1
    exact ⟨_, _, rep_dp hx r1 (shaped_lay c.1), rep_dp hx r2 (shaped_lay c.2), c.1, c.2, q _ .bl⟩
  · cases h1
theorem os_ne : OpS ca K (rl2 (rNeD K)) (f2 pNe) := fun Hf H vs ds o Q hx rd h q => by
  obtain ⟨x, y, z, rfl, h1, rfl⟩ := f2_some h
  unfold pNe at h1
  split at h1
  · rename_i c
    rw [Bool.and_eq_true] at c
    cases h1
    obtain ⟨v, w, S, S', e1, r1, r2⟩ := rdl2 rd rfl
    subst e1
    exact ⟨_, _, rep_dp hx r1 (shaped_lay c.1), rep_dp hx r2 (shaped_lay c.2), c.1, c.2, q _ .bl⟩
  · cases h1
theorem rep_isN (r : Rep ca K Hf H S v d) : decide (v = .non) = isN d := by cases r <;> simp [isN]
theorem os_isN : OpS ca K (rl2 fun x y H Q => y = .non ∧ Q (.bl (decide (x = .non))) H) oIsN := fun Hf H vs ds o Q hx rd h q => by
  match ds, h with
  | [x, .non], h =>
    cases h
    obtain ⟨v, w, S, S', e1, r1, r2⟩ := rdl2 rd rfl
    subst e1
    refine ⟨rep_non r2, ?_⟩
    rw [rep_isN r1]
    exact q _ .bl
theorem rep_flat (r : Rep ca K Hf H S v d) (h : flat d = true) : flatV v = true := by cases r <;> first | rfl | cases h
theorem repL_flat : ∀ {ds : List D} {vs : List V} {S : Rg}, RepL ca K Hf H S vs ds → ds.all flat = true → vs.all flatV = true
  | [], _, _, r, _ => by cases r; rfl
  | d :: ds, _, _, .cons r1 r2 _ _ _, h => by
    rw [List.all_cons, Bool.and_eq_true] at h ⊢
    exact ⟨rep_flat r1 h.1, repL_flat r2 h.2⟩
theorem rep_eqF {w : V} {e : D} (r : Rep ca K Hf H S v d) (r2 : Rep ca K Hf H S1 w e) (h : flat d = true) (h2 : flat e = true) : eqV v w = eqF d e := by
  cases r <;> first | (cases h; done) | (cases r2 <;> first | (cases h2; done) | rfl)
theorem repL_eqF {w : V} {e : D} (r2 : Rep ca K Hf H S1 w e) (h2 : flat e = true) : ∀ {ds : List D} {vs : List V} {S : Rg}, RepL ca K Hf H S vs ds → ds.all flat = true → (vs.any fun y => eqV y w) = ds.any fun z => eqF z e
  | [], _, _, r, _ => by cases r; rfl
  | d :: ds, _, _, .cons r1 r3 _ _ _, h => by
    rw [List.all_cons,
        Bool.and_eq_true] at h
    rw [List.any_cons, List.any_cons, rep_eqF r1 r2 h.1 h2, repL_eqF r2 h2 r3 h.2]
theorem os_in {neg : Bool} : OpS ca K (rl2 (rIn K neg)) (oIn neg) := fun Hf H vs ds o Q hx rd h q => by
  match ds, h with
  | [x, y], h =>
    dsimp only [oIn] at h
    split at h
    · rename_i ys ei
      split at h
      · rename_i c
        rw [Bool.and_eq_true] at c
        cases h
        obtain ⟨v, w, S, S', e1, r1, r2⟩ := rdl2 rd rfl
        subst e1
        obtain ⟨a, vs, T, rfl, e2, r3⟩ := rep_items hx r2 ei
        refine ⟨a, vs, rfl, e2, rep_flat r1 c.1, repL_flat r3 c.2, ?_⟩
        have e : inV v vs = ys.any fun z => eqF z x := repL_eqF r1 c.1 r3 c.2
        rw [e]
        exact q _ .bl
      · cases h
    · cases h
/-! ### subscripts, len, built-ins -/
def rIxA (K : PySem.W.Frag) : L2.R2 := fun x y H Q => rIxL K x y H Q ∨ rIxT K x y H Q
theorem ix_A : IxR X (rIxA X.K) := IxR.or ix_list ix_tup
theorem atI_rep {i : Int} (r : RepL ca K Hf H S vs xs) (h : atI xs i = some d) : ∃ v T, atI vs i = some v ∧ Rep ca K Hf H T v d := by
  obtain ⟨j, h1, h2, h3, h4, h5⟩ := atI_get h
  unfold atI at h ⊢
  rw [← r.length] at h
  cases e : ixN vs.length i with
  | none =>
    rw [e] at h
    cases h
  | some k =>
    rw [e] at h
    obtain ⟨v, T, e2, r2, _⟩ := repL_at r (i := k) (d := d) h
    exact ⟨v, T, e2, r2⟩
theorem os_ix : OpS ca K (rl2 (rIxA K)) oIx := fun Hf H vs ds o Q hx rd h q => by
  match ds, h with
  | [x, .int i], h =>
    dsimp only [oIx] at h
    split at h
    · rename_i xs ei
      split at h
      · rename_i dd ea
        split at h
        · rename_i hc
          cases h
          obtain ⟨v, w, S, S', e1, r1, r2⟩ := rdl2 rd rfl
          subst e1
          obtain ⟨a, vs, T, rfl, e2, r3⟩ := rep_items hx r1 ei
          obtain ⟨v', T', e3, r4⟩ := atI_rep r3 ea
          have hc' : hot dd = false := by unfold cold at hc; simpa using hc
          have q' := q v' (r4.cold hc')
          rcases e2 with e2 | e2
          · exact .inl ⟨a, vs, i, v', rfl, rep_int r2, e2, e3, q'⟩
          · exact .inr ⟨a, vs, i, v', rfl, rep_int r2, e2, e3, q'⟩
        · cases h
      · cases h
    · cases h
theorem os_len : OpS ca K (fun xs H Q => ∃ p ys, xs = [.ref p] ∧ (SqL K H p ys ∨ SqT K H p ys) ∧ Q (.int ys.length) H) oLen := fun Hf H vs ds o Q hx rd h q => by
  match ds, h with
  | [x], h =>
    dsimp only [oLen] at h
    cases ei : items x with
    | none => rw [ei] at h; cases h
    | some xs =>
      rw [ei] at h
      cases h
      obtain ⟨v, S, e1, r1⟩ := rdl1 rd rfl
      subst e1
      obtain ⟨a, vs, T, rfl, e2, r3⟩ := rep_items hx r1 ei
      refine ⟨a, vs, rfl, e2, ?_⟩
      rw [r3.length]
      exact q _ .int
theorem os_abs : OpS ca K (fun xs H Q => ∃ i, xs = [.int i] ∧ Q (.int (if i < 0 then -i else i)) H) oAbs := fun Hf H vs ds o Q hx rd h q => by
  match ds, h with
  | [.int i], h =>
    cases h
    obtain ⟨v, S, e1, r1⟩ := rdl1 rd rfl
    subst e1
    rw [rep_int r1]
    exact ⟨i, rfl, q _ .int⟩
theorem os_max2 : OpS ca K (fun xs H Q => ∃ i j, xs = [.int i, .int j] ∧ Q (.int (if j > i then j else i)) H) oMax2 := fun Hf H vs ds o Q hx rd h q => by
  match ds, h with
  | [.int i, .int j], h =>
    cases h
    obtain ⟨v, w, S, S', e1, r1, r2⟩ := rdl2 rd rfl
    subst e1
    rw [rep_int r1, rep_int r2]
    exact ⟨i, j, rfl, q _ .int⟩
theorem os_min2 : OpS ca K (fun xs H Q => ∃ i j, xs = [.int i, .int j] ∧ Q (.int (if j < i then j else i)) H) oMin2 := fun Hf H vs ds o Q hx rd h q => by
  match ds, h with
  | [.int i, .int j], h =>
    cases h
    obtain ⟨v, w, S, S', e1, r1, r2⟩ := rdl2 rd rfl
    subst e1
    rw [rep_int r1, rep_int r2]
    exact ⟨i, j, rfl, q _ .int⟩
theorem os_int : OpS ca K (fun xs H Q => (∃ i, xs = [.int i] ∧ Q (.int i) H) ∨ ∃ k, xs = [.bl k] ∧ Q (.int (if k then 1 else 0)) H) oInt := fun Hf H vs ds o Q hx rd h q => by
  match ds, h with
  | [.int i], h =>
    cases h
    obtain ⟨v, S, e1, r1⟩ := rdl1 rd rfl
    subst e1
    rw [rep_int r1]
    exact .inl ⟨i, rfl, q _ .int⟩
  | [.bl i], h =>
    cases h
    obtain ⟨v, S, e1, r1⟩ := rdl1 rd rfl
    subst e1
    rw [rep_bl r1]
    exact .inr ⟨i, rfl, q _ .int⟩
theorem os_sum : OpS ca K (rSum K) oSum := fun Hf H vs ds o Q hx rd h q => by
  match ds, h with
  | [x], h =>
    dsimp only [oSum] at h
    cases ei : lstItems x with
    | none => rw [ei] at h; cases h
    | some xs =>
      rw [ei] at h
      cases en : asInts xs with
      | none => simp [en] at h
      | some ns =>
        simp only [Option.bind_some, en, Option.map_some, Option.some.injEq] at h
        subst h
        obtain ⟨v, S, e1, r1⟩ := rdl1 rd rfl
        subst e1
        obtain ⟨a, vs, T, rfl, e2, r3⟩ := rep_lstItems hx r1 ei
        rw [repL_ints r3 en] at e2
        exact ⟨a, ns, rfl, e2, q _ .int⟩
theorem os_any : OpS ca K (rAny K) oAny := fun Hf H vs ds o Q hx rd h q => by
  match ds, h with
  | [x], h =>
    dsimp only [oAny] at h
    cases ei : lstItems x with
    | none => rw [ei] at h; cases h
    | some xs =>
      rw [ei] at h
      cases en : asBls xs with
      | none => simp [en] at h
      | some ns =>
        simp only [Option.bind_some, en, Option.map_some, Option.some.injEq] at h
        subst h
        obtain ⟨v, S, e1, r1⟩ := rdl1 rd rfl
        subst e1
        obtain ⟨a, vs, T, rfl, e2, r3⟩ := rep_lstItems hx r1 ei
        rw [repL_bls r3 en] at e2
        exact ⟨a, ns, rfl, e2, q _ .bl⟩
theorem os_tuple : OpS ca K (fun xs H Q => ∃ p ys, xs = [.ref p] ∧ ((SqL K H p ys ∧ ∀ l, H l = none → Q (.ref l) (upd H l (.tup ys))) ∨ (SqT K H p ys ∧ Q (.ref p) H))) oTuple := fun Hf H vs ds o Q hx rd h q => by
  match ds, h with
  | [.lst o xs], h =>
    dsimp only [oTuple] at h
    split at h
    · rename_i c
      rw [Bool.and_eq_true] at c
      cases h
      obtain ⟨v, S, e1, r1⟩ := rdl1 rd rfl
      subst e1
      obtain ⟨a, vs, T, rfl, e2, r3⟩ := rep_lst hx r1
      exact ⟨a, vs, rfl, .inl ⟨.inl (.inl e2), fun l hl => q l vs hl (repL_cold r3 c.1)⟩⟩
    · cases h
  | [.tup xs], h =>
    cases h
    obtain ⟨v, S, e1, r1⟩ := rdl1 rd rfl
    subst e1
    have r1' := r1.cold (S' := Em) rfl
    obtain ⟨a, vs, rfl, e2, r3⟩ := rep_tup hx r1
    exact ⟨a, vs, rfl, .inr ⟨.inl (.inl e2), q _ r1'⟩⟩
/-! ### isinstance with a built-in type -/
theorem rep_ty (hx : Ex Hf H) {n : String} (r : Rep ca K Hf H S v d) (h : tyName d = some n) (hs : ∀ xs, d ≠ .scr xs) : TyX K H v (.type n) := by
  cases r with
  | non => cases h; exact .base .non
  | bl => cases h; exact .base (.bl _)
  | int => cases h; exact .base (.int _)
  | str => cases h; exact .base (.str _)
  | scr e => exact absurd rfl (hs _)
  | cls => cases h
  | ty => cases h
  | lstF e r => cases h; exact .base (.lst (hx _ _ e))
  | lstO s e r => cases h; exact .base (.lst e)
  | tup e r => cases h; exact .base (.tup (hx _ _ e))
  | insF _ _ _ => cases h
  | insO _ _ _ _ => cases h
  | dicF e _ _ => cases h; exact .base (.dK (hx _ _ e))
  | dicO s e _ _ => cases h; exact .base (.dK e)
  | dctF _ _ _ => cases h
  | dctO _ _ _ _ => cases h
  | xc _ _ _ _ => cases h
end
end DL

/-! DL6: targets, statements, loops. -/
namespace DL
open PySem L2 PyProof.Rows

/-! ### more pure meanings -/
/-- several targets of a tuple -/
def gTupM : List MG → List D → Sl → Res Unit
  | [], [], st => .ok () st
  | g :: gs, d :: ds, st => (g d st).bind fun _ st1 => gTupM gs ds st1
  | _, _, _ => .fail
def gT (gs : List MG) : MG := fun d st => match d with
  | .tup ds => gTupM gs ds st
  | _ => .fail
/-- xs[i] = d, xs the slot i0's own list -/
def gIx (i0 : Nat) (mi : ME) : MG := fun d st => if cold d && (getS st i0).isSome then (mi st).bind fun k st1 => (match k with
  | .int k => match getS st1 i0 with
    | some (.lst true xs) => match L2.ixN xs.length k with
      | some j => .ok () (st1.set i0 (some (.lst true (xs.set j d))))
      | none => .fail
    | _ => .fail
  | _ => .fail) else .fail
def sPar (i j : Nat) (ms : MA) : MS := fun st => (ms st).toS fun ds st1 => match ds with
  | [x, y] => .next ((st1.set i (some x)).set j (some y))
  | _ => .fail
/-- x op= e at a slot that holds no owned thing -/
def sAug (i : Nat) (f : List D → Option Out) (m : ME) : MS := fun st => match getS st i with
  | some x => if cold x then (m st).toS fun y st1 => (match f [x, y] with
    | some (.val z) => .next (st1.set i (some z))
    | _ => .fail) else .fail
  | none => .fail
/-- a for -/
def sFor (src : Sl → Res (List D)) (g : MG) (body : MS) : MS := fun st => (src st).toS fun ds st1 => forD g body ds st1
/-- what is walked -/
def iE (m : ME) (p : D → Option (List D)) : Sl → Res (List D) := fun st => (m st).bind fun d st1 => match p d with
  | some ds => if colds ds then .ok ds st1 else .fail
  | none => .fail
def rangeD (lo : Int) (n : Nat) : List D := (List.range n).map fun i => D.int (lo + (i : Nat))
def rangeC (lo : Int) (c : Int) (n : Nat) : List D := (List.range n).map fun i => D.int (lo + (i : Nat) * c)
def small62 (i : Int) : Bool := decide (-(2 ^ 62) ≤ i ∧ i < 2 ^ 62)
section
variable {ca : Nat → Addr} {K : PySem.W.Frag} {Hf H Hf1 H1 Hf2 H2 : Hp} {S S1 S2 P : Rg} {R R1 R2 : Nat → Rg} {pp qq : Prop} {σ σ' : L2.St} {st st' : Sl} {v : V} {d : D} {vs : List V} {ds : List D} {X : Cx} {L : List Nat}

theorem Lk.set {i : Nat} {o : Option V} (h : i ∉ L) : Lk L σ (σ.set i o) := ⟨List.length_set, fun j hj => by
  rw [List.getElem?_set_ne (fun e => h (by rw [e]; exact hj))]⟩

/-! ### targets -/
/-- the pending value goes to the slot i -/
theorem PR.store (i : Nat) (p : PR ca K Hf H P (Rep ca K Hf H P v d) R σ st) : PR ca K Hf H Em True (fun j b => if j = i then P b else R j b) (σ.set i (some v)) (st.set i (some d)) where
  pend := trivial
  len := by rw [List.length_set, List.length_set]; exact p.len
  at_ := fun j d' e => by
    rcases set_get e with ⟨q1, q2⟩ | ⟨q1, q2⟩
    · subst q1
      cases q2
      have := getS_lt e
      rw [List.length_set, p.len] at this
      exact ⟨v, by simp [this], by simpa using p.pend⟩
    · obtain ⟨v', e2, r⟩ := p.at_ j d' q2
      refine ⟨v', by rw [List.getElem?_set_ne q1]; exact e2, ?_⟩
      rw [show (fun b => if j = i then P b else R j b) = R j from by funext b; rw [if_neg (Ne.symm q1)]]
      exact r
  dj := fun j k b h1 h2 => by
    split at h1 <;> split at h2
    · rename_i a c; exact a.trans c.symm
    · exact (p.dp k b h1 h2).elim
    · exact (p.dp j b h2 h1).elim
    · exact p.dj j k b h1 h2
  dp := fun _ _ q => q.elim
  w := p.w.mono fun b q => by
    rcases q with q | ⟨j, q⟩
    · exact q.elim
    · split at q
      · exact .inl q
      · exact .inr ⟨j, q⟩
theorem store_tr (i : Nat) : Tr (jn P R) Hf H (jn Em fun j b => if j = i then P b else R j b) Hf H := Tr.refl fun b q => by
  rcases q with q | ⟨j, q⟩
  · exact q.elim
  · split at q
    · exact .inl q
    · exact .inr ⟨j, q⟩
theorem cg_name {e : Expr} {i : Nat} (hg : PG X e (gName i)) (hi : i ∉ L) : CG ca X L e (gName i) (gN i) :=
  ⟨hg, fun Hf H P R σ st v d Q p h => h Hf H _ _ (store_tr i) (p.store i) (Lk.set hi)⟩
def CGs (ca : Nat → Addr) (X : Cx) (L : List Nat) (es : List Expr) (t : TGs) (gs : List MG) : Prop := PGs X es t ∧ ∀ (ds : List D) (Hf H : Hp) (R : Nat → Rg) (σ : L2.St) (st : Sl) (vs : List V) (Q : L2.St → Hp → Prop), PR ca X.K Hf H Em (RepL ca X.K Hf H Em vs ds) R σ st →
  (match gTupM gs ds st with
    | .ok _ st' => ∀ Hf' H' R' σ', Tr (jn Em R) Hf H (jn Em R') Hf' H' → PR ca X.K Hf' H' Em True R' σ' st' → Lk L σ σ' → Q σ' H'
    | _ => False) → t vs σ H Q
theorem cgs_nil : CGs ca X L [] gNil [] := ⟨pgs_nil, fun ds Hf H R σ st vs Q p h => by
  cases ds with
  | nil =>
    have r := p.pend
    cases r
    exact ⟨rfl, h Hf H R σ (Tr.refl fun _ q => q) p.drop (Lk.refl)⟩
  | cons d ds => exact h.elim⟩
theorem repL_em {ds : List D} {vs : List V} (r : RepL ca K Hf H Em vs ds) (hx : Ex Hf Hf1) : RepL ca K Hf1 H1 Em vs ds := r.keep hx fun _ q => q.elim
theorem cgs_cons {e : Expr} {es : List Expr} {t : TG} {u : TGs} {g : MG} {gs : List MG} (hg : CG ca X L e t g) (hgs : CGs ca X L es u gs)
    (hs : (assignEach (e :: es) X.env).map (·.2) = assign e X.env :: (assignEach es X.env).map (·.2)) : CGs ca X L (e :: es) (gCons t u) (g :: gs) := ⟨pgs_cons hg.1 hgs.1 hs, fun ds Hf H R σ st vs Q p h => by
  cases ds with
  | nil => exact h.elim
  | cons d ds =>
    have r := p.pend
    cases r with
    | cons r1 r2 h1 h2 h3 =>
      rename_i v vs
      have r1' := r1.mono h1
      have r2' := r2.mono h2
      refine ⟨v, vs, rfl, hg.2 Hf H Em R σ st v d _ (p.drop.put r1') ?_⟩
      rw [gTupM] at h
      cases eg : g d st with
      | fail => rw [eg] at h; exact h
      | exc x st1 => rw [eg] at h; exact h
      | ok a st1 =>
        rw [eg] at h
        intro Hf1 H1 R1 σ1 t1 p1 k1
        refine hgs.2 ds Hf1 H1 R1 σ1 st1 vs Q (p1.imp fun _ => repL_em r2' t1.fx) ?_
        have h' : (match gTupM gs ds st1 with
          | .ok _ st' => ∀ Hf' H' R' σ', Tr (jn Em R) Hf H (jn Em R') Hf' H' → PR ca X.K Hf' H' Em True R' σ' st' → Lk L σ σ' → Q σ' H'
          | _ => False) := h
        cases eq : gTupM gs ds st1 with
        | fail => rw [eq] at h'; exact h'
        | exc x st2 => rw [eq] at h'; exact h'
        | ok a st2 =>
          rw [eq] at h'
          exact fun Hf2 H2 R2 σ2 t2 p2 k2 => h' Hf2 H2 R2 σ2 (t1.trans t2) p2 (Lk.trans k1 k2)⟩
theorem cg_tup {es : List Expr} {k : Nat} {pos : Pos} {t : TGs} {gs : List MG} {n : Nat} (hc : X.calm = true) (h : CGs ca X L es t gs) (hl : gs.length = n)
    (hn : (assignEach es X.env).length = n := by rfl) (hst : (assignEach es X.env).findIdx? (·.1) = none := by rfl) : CG ca X L (.Tuple es k pos) (gTup X.K n t) (gT gs) :=
  ⟨pg_tup hc h.1 hn hst, fun Hf H P R σ st v d Q p hq => by
    cases d with
    | tup ds =>
      have r := p.pend
      obtain ⟨a, vs, rfl, e, r3⟩ := rep_tup p.w.ex r
      have hle : ∀ (gs : List MG) (ds : List D) (st : Sl) (a : Unit) (st1 : Sl), gTupM gs ds st = .ok a st1 → gs.length = ds.length := by
        intro gs
        induction gs with
        | nil => intro ds st a st1 e; cases ds with
          | nil => rfl
          | cons _ _ => cases e
        | cons g gs ih =>
          intro ds st a st1 e
          cases ds with
          | nil => cases e
          | cons d ds =>
            rw [gTupM] at e
            cases eg : g d st with
            | ok a' st' => rw [eg] at e; simp [ih ds st' a st1 e]
            | exc _ _ => rw [eg] at e; cases e
            | fail => rw [eg] at e; cases e
      have hq' : (match gTupM gs ds st with
        | .ok _ st' => ∀ Hf' H' R' σ', Tr (jn P R) Hf H (jn Em R') Hf' H' → PR ca X.K Hf' H' Em True R' σ' st' → Lk L σ σ' → Q σ' H'
        | _ => False) := hq
      cases eq : gTupM gs ds st with
      | fail => rw [eq] at hq'; exact hq'.elim
      | exc x st2 => rw [eq] at hq'; exact hq'.elim
      | ok u st2 =>
        rw [eq] at hq'
        refine ⟨a, vs, rfl, .inl (.inl e), ?_, h.2 ds Hf H R σ st vs Q (p.drop.imp fun _ => r3) ?_⟩
        · rw [r3.length, ← hle gs ds st u st2 eq, hl]
        · rw [eq]
          exact fun Hf2 H2 R2 σ2 t2 p2 k2 => hq' Hf2 H2 R2 σ2 (t2.more fun b q => q.elim (fun q => q.elim) .inr) p2 k2
    | _ => exact hq.elim⟩
/-- the region of a slot's own list -/
theorem PR.ownList {i : Nat} {xs : List D} (p : PR ca K Hf H Em True R σ st) (h : getS st i = some (.lst true xs)) : ∃ a vs, σ[i]? = some (some (.ref a)) ∧ R i a ∧ H a = some (.lst vs) ∧ RepL ca K Hf H (fun b => R i b ∧ b ≠ a) vs xs := by
  obtain ⟨v, e, r⟩ := p.at_ i _ h
  cases r with
  | lstO s e2 r => exact ⟨_, _, e, s, e2, r⟩
/-- a slot's own list is written: its items' region is as it was -/
theorem PR.write {i : Nat} {xs ys : List D} {a : Addr} {ws : List V} (p : PR ca K Hf H Em True R σ st) (h : getS st i = some (.lst true xs)) (hv : σ[i]? = some (some (.ref a))) (ha : R i a)
    (r : RepL ca K Hf H (fun b => R i b ∧ b ≠ a) ws ys) : PR ca K Hf (upd H a (.lst ws)) Em True R σ (st.set i (some (.lst true ys))) ∧ Tr (jn Em R) Hf H (jn Em R) Hf (upd H a (.lst ws)) := by
  have hk : ∀ b o, b ≠ a → H b = some o → upd H a (.lst ws) b = some o := fun b o n e => by rw [upd_ne n]; exact e
  have hf : Hf a = none := p.w.nf a (.inr ⟨i, ha⟩)
  refine ⟨⟨trivial, ?_, fun j d e => ?_, p.dj, fun _ _ q => q.elim, ⟨fun b o e => ?_, fun b q => ?_, p.w.nf, mkTp⟩⟩, ⟨fun _ _ e => e, fun b o e n => hk b o (fun z => n (.inr ⟨i, z ▸ ha⟩)) e, fun b q => .inl q, fun _ _ e => .inl e⟩⟩
  · rw [List.length_set]; exact p.len
  · rcases set_get e with ⟨q1, q2⟩ | ⟨q1, q2⟩
    · subst q1
      cases q2
      exact ⟨_, hv, .lstO ha upd_same (r.keep (fun _ _ e => e) fun b q o e => hk b o q.2 e)⟩
    · obtain ⟨v', e2, r2⟩ := p.at_ j d q2
      exact ⟨v', e2, r2.keep (fun _ _ e => e) fun b q o e => hk b o (fun z => q1 (p.dj i j a ha (z ▸ q))) e⟩
  · have := p.w.ex b o e
    exact hk b o (fun z => by subst z; rw [hf] at e; cases e) this
  · obtain ⟨o, e⟩ := p.w.dm b q
    by_cases z : b = a
    · subst z; exact ⟨_, upd_same⟩
    · exact ⟨o, hk b o z e⟩
theorem repL_set {S T : Rg} {w : V} {e : D} : ∀ {xs : List D} {vs : List V} {S : Rg} (j : Nat), RepL ca K Hf H S vs xs → Rep ca K Hf H Em w e → RepL ca K Hf H S (vs.set j w) (xs.set j e)
  | [], _, _, _, r, _ => by
    cases r
    exact .nil
  | x :: xs, _, _, 0, .cons r1 r2 h1 h2 h3, q => .cons (S1 := Em) q r2 (fun _ z => z.elim) h2 fun _ z _ => z
  | x :: xs, _, _, j + 1, .cons r1 r2 h1 h2 h3, q => .cons r1 (repL_set (S := Em) (T := Em) j r2 q) h1 h2 h3
theorem cg_ix {o i : Expr} {i0 : Nat} {mi : ME} {pos : Pos} (ho : PE X o (tVar i0)) (hi : CE ca X i mi)
    (ha : ∀ v, assign (.Subscript
        o i pos) X.env v = (do
      let ov ← holding [v] (eval
          o X.env)
      let iv ← holding [v,
          ov] (eval i X.env)
      standAt pos
      holding [v, ov,
          iv] (setItem ov iv v)
      release [v, ov, iv] [])) : CG ca X L (.Subscript o i pos) (gSub (tVar i0) (We X i) rSetL) (gIx i0 mi) :=
  ⟨pg_sub ho (we_pe X i) set_list ha, fun Hf H P R σ st v d Q p h => by
    unfold gIx at h
    by_cases hc0 : (cold d && (getS st i0).isSome) = true
    · rw [if_pos hc0] at h
      rw [Bool.and_eq_true] at hc0
      have hc := hc0.1
      have hd : hot d = false := by unfold cold at hc; simpa using hc
      have rd := p.pend.cold (S' := Em) hd
      cases em : mi st with
      | fail => rw [em] at h; exact h.elim
      | exc x st1 => rw [em] at h; exact h.elim
      | ok k st1 =>
        rw [em] at h
        cases k with
        | int k =>
          dsimp only [Res.bind] at h
          cases eg : getS st1 i0 with
          | none => rw [eg] at h; exact h.elim
          | some d1 =>
            rw [eg] at h
            cases d1 with
            | lst ow xs =>
              cases ow with
              | false => exact h.elim
              | true =>
                dsimp only at h
                cases ej : ixN xs.length k with
                | none => rw [ej] at h; exact h.elim
                | some j =>
                  rw [ej] at h
                  dsimp only at h
                  -- the list's own value stands in its slot already
                  obtain ⟨d0, e0⟩ := Option.isSome_iff_exists.mp hc0.2
                  obtain ⟨x, hx, _⟩ := p.at_ i0 d0 e0
                  refine ⟨x, hx, hi Hf H R σ st _ p.drop ?_⟩
                  rw [em]
                  intro Hf1 H1 P1 R1 v1 t1 p1
                  obtain ⟨a, vs, e1, ra, e2, r2⟩ := p1.drop.ownList eg
                  rw [hx] at e1
                  cases e1
                  refine ⟨a, vs, k, j, rfl, rep_int p1.pend, e2, by rw [r2.length]; exact ej, ?_⟩
                  obtain ⟨p2, t2⟩ := p1.drop.write eg hx ra (repL_set (S := Em) (T := Em) j r2 (rd.keep t1.fx fun _ q => q.elim))
                  exact h Hf1 _ R1 σ (((less0 t1).trans t2).more fun b q => q.elim (fun q => q.elim) .inr) p2 Lk.refl
            | _ => exact h.elim
        | _ => exact h.elim
    · rw [if_neg hc0] at h; exact h.elim⟩

/-! ### statements -/
theorem css_nil : CSs ca X L [] sNext := fun Hf H R σ st E p h => wss_of pss_nil (h Hf H R σ (Tr.refl fun _ q => q) p Lk.refl)
theorem css_cons {s : Stmt} {ss : List Stmt} {m ms : MS} (hs : CS ca X L s m) (hr : CSs ca X L ss ms) : CSs ca X L (s :: ss) (sSeq m ms) := fun Hf H R σ st E p h => by
  refine wss_of (pss_cons (ws_ps X s) (wss_pss X ss)) ?_
  refine hs Hf H R σ st _ p ?_
  unfold sSeq at h
  cases e : m st with
  | next st1 =>
    rw [e] at h
    intro Hf1 H1 R1 σ1 t1 p1 k1
    exact hr Hf1 H1 R1 σ1 st1 E p1 (PostS.from t1 k1 h)
  | ret d st1 => rw [e] at h; exact h
  | brk st1 => rw [e] at h; exact h
  | cont st1 => rw [e] at h; exact h
  | exc x st1 => rw [e] at h; exact h
  | fail => rw [e] at h; exact h
theorem css_one {s : Stmt} {m : MS} (hs : CS ca X L s m) : CSs ca X L [s] m := fun Hf H R σ st E p h => wss_of (pss_one (ws_ps X s)) (hs Hf H R σ st E p h)
/-- an expression's answer, then a statement's end -/
theorem post_toS {r : Res D} {k : D → Sl → SR} {E : Ends} {Q : VK} (h : PostS ca X L Hf H S σ (r.toS k) E) (hk : ∀ d st Hf1 H1 P R1 v, r = .ok d st → Tr S Hf H (jn P R1) Hf1 H1 → PR ca X.K Hf1 H1 P (Rep ca X.K Hf1 H1 P v d) R1 σ st → PostS ca X L Hf1 H1 (jn P R1) σ (k d st) E → Q v H1) : Post ca X Hf H S σ r Q := by
  cases r with
  | fail => exact h
  | exc x st => exact fun Hf' H' R' cls dd t p => h Hf' H' R' σ cls dd t p Lk.refl
  | ok d st => exact fun Hf' H' P R' v t p => hk d st Hf' H' P R' v rfl t p (PostS.from t (Lk.refl) h)
theorem cs_asg {tg e : Expr} {m : ME} {t : TG} {g : MG} {pos : Pos} (he : CE ca X e m) (hg : CG ca X L tg t g) (hp : PS X (.Assign [tg] e pos) (tAsg (We X e) t)) : CS ca X L (.Assign [tg] e pos) (sAsg m g) := fun Hf H R σ st E p h => by
  refine ws_of hp (he Hf H R σ st _ p ?_)
  refine post_toS h fun d st1 Hf1 H1 P1 R1 v e1 t1 p1 h1 => ?_
  refine hg.2 Hf1 H1 P1 R1 σ st1 v d _ p1 ?_
  cases eg : g d st1 with
  | fail => rw [eg] at h1; exact h1
  | exc x st2 => rw [eg] at h1; exact h1
  | ok a st2 =>
    rw [eg] at h1
    exact fun Hf2 H2 R2 σ2 t2 p2 k2 => h1 Hf2 H2 R2 σ2 t2 p2 k2
theorem cs_expr {e : Expr} {m : ME} {pos : Pos} (he : CE ca X e m) (hs : swapsWith e none pos.line X.env = pure false := by rfl) : CS ca X L (.Expr e pos) (sExpr m) := fun Hf H R σ st E p h => by
  refine ws_of (ps_expr (we_pe X e) hs) (he Hf H R σ st _ p ?_)
  refine post_toS h fun d st1 Hf1 H1 P1 R1 v e1 t1 p1 h1 => ?_
  exact h1 Hf1 H1 R1 σ (Tr.refl fun b q => q.elim (fun q => q.elim) .inr) p1.drop Lk.refl
theorem cs_ret {e : Expr} {m : ME} {pos : Pos} (he : CE ca X e m) : CS ca X L (.Return (some e) pos) (sRet m) := fun Hf H R σ st E p h => by
  refine ws_of (ps_ret (we_pe X e)) (he Hf H R σ st _ p ?_)
  refine post_toS h fun d st1 Hf1 H1 P1 R1 v e1 t1 p1 h1 => ?_
  exact h1 Hf1 H1 P1 R1 σ v (Tr.refl fun b q => q) p1 Lk.refl
theorem cs_if {c : Expr} {a b : List Stmt} {mc : MT} {ma mb : MS} {pos : Pos} (hc : CT ca X c mc) (ha : CSs ca X L a ma) (hb : CSs ca X L b mb) : CS ca X L (.If c a b pos) (sIf mc ma mb) := fun Hf H R σ st E p h => by
  refine ws_of (ps_if (wt_pt X c) (wss_pss X a) (wss_pss X b)) (hc Hf H R σ st _ p ?_)
  unfold sIf at h
  cases e : mc st with
  | fail => rw [e] at h; exact h
  | exc x st1 => rw [e] at h; exact fun Hf' H' R' cls dd t p => h Hf' H' R' σ cls dd t p Lk.refl
  | ok k st1 =>
    rw [e] at h
    intro Hf1 H1 R1 t1 p1
    cases k with
    | true => exact ha Hf1 H1 R1 σ st1 E p1 (PostS.from t1 (Lk.refl) h)
    | false => exact hb Hf1 H1 R1 σ st1 E p1 (PostS.from t1 (Lk.refl) h)
/-! ### loops -/
/-- what an iterator yields: the data ds, from any heap onwards -/
def ItD (ca : Nat → Addr) (K : PySem.W.Frag) (J : It) (Hf : Hp) (ds : List D) : Prop := ∀ Hf' H', Ex Hf Hf' → Ex Hf' H' → TpH Hf' H' →
  (∀ i, i < ds.length → J.go i H') ∧ J.stop ds.length H' ∧ ∀ i d x H2, ds[i]? = some d → J.yld i H' x H2 →
    hot d = false ∧ ∃ Hf2, Ex Hf' Hf2 ∧ Ex H' H2 ∧ Ex Hf2 H2 ∧ (∀ b o, Hf2 b = some o → Hf' b = some o ∨ H' b = none) ∧ TpH Hf2 H2 ∧ Rep ca K Hf2 H2 Em x d
def PostI (ca : Nat → Addr) (X : Cx) (Hf H : Hp) (S : Rg) (σ : L2.St) (r : Res (List D)) (Q : It → Hp → Prop) : Prop :=
  match r with
  | .ok ds st => ∀ Hf' H' R' J, Tr S Hf H (jn Em R') Hf' H' → PR ca X.K Hf' H' Em True R' σ st → ItD ca X.K J Hf' ds → Q J H'
  | .exc x st => ∀ Hf' H' R' cls dd, Tr S Hf H (jn Em R') Hf' H' → PR ca X.K Hf' H' Em (XcR ca X.K Hf' H' cls dd x) R' σ st → wX X cls dd σ H'
  | .fail => False
def CI (ca : Nat → Addr) (X : Cx) (tg iter : Expr) (wi : TI) (src : Sl → Res (List D)) : Prop := PI X tg iter wi ∧ ∀ (Hf H : Hp) (R : Nat → Rg) (σ : L2.St) (st : Sl) (Q : It → Hp → Prop), PR ca X.K Hf H Em True R σ st → PostI ca X Hf H (jn Em R) σ (src st) Q → wi σ H Q
/-- an item has come: the heap has grown by what stands -/
theorem PR.yield {Hf2 H2 : Hp} (p : PR ca K Hf H Em True R σ st) (h1 : Ex Hf Hf2) (h2 : Ex H H2) (h3 : Ex Hf2 H2) (h4 : ∀ b o, Hf2 b = some o → Hf b = some o ∨ H b = none) (h5 : TpH Hf2 H2) : PR ca K Hf2 H2 Em True R σ st ∧ Tr (jn Em R) Hf H (jn Em R) Hf2 H2 := by
  refine ⟨⟨trivial, p.len, fun i d e => ?_, p.dj, p.dp, ⟨h3, fun b q => ?_, fun b q => ?_, mkTp⟩⟩, ⟨h1, fun b o e _ => h2 b o e, fun b q => .inl q, fun b o e => ?_⟩⟩
  · obtain ⟨v, e1, r⟩ := p.at_ i d e
    exact ⟨v, e1, r.keep h1 fun b _ o e => h2 b o e⟩
  · obtain ⟨o, e⟩ := p.w.dm b q
    exact ⟨o, h2 b o e⟩
  · cases e : Hf2 b with
    | none => rfl
    | some o =>
      rcases h4 b o e with z | z
      · rw [p.w.nf b q] at z; cases z
      · obtain ⟨o, e⟩ := p.w.dm b q
        rw [e] at z; cases z
  · rcases h4 b o e with z | z
    · exact .inl z
    · exact .inr (.inr z)
/-- what stands, with all the tuples -/
def withT (Hf H : Hp) : Hp := fun b => match Hf b with
  | some o => some o
  | none => match H b with
    | some (.tup xs) => some (.tup xs)
    | _ => none
theorem withT_ex : Ex Hf (withT Hf H) := fun b o e => by unfold withT; rw [e]
theorem withT_or {b : Addr} {o : HO} (e : withT Hf H b = some o) : Hf b = some o ∨ (Hf b = none ∧ H b = some o ∧ ∃ xs, o = .tup xs) := by
  unfold withT at e
  cases e1 : Hf b with
  | some u => rw [e1] at e; exact .inl e
  | none =>
    rw [e1] at e
    dsimp only at e
    split at e
    · rename_i xs e2
      cases e
      exact .inr ⟨rfl, e2, _, rfl⟩
    · cases e
theorem withT_in (h : Ex Hf H) : Ex (withT Hf H) H := fun b o e => by
  rcases withT_or e with e | ⟨_, e, _⟩
  · exact h b o e
  · exact e
theorem withT_tp (h : Ex Hf H) : TpH (withT Hf H) H := fun b xs e => by
  unfold withT
  cases e1 : Hf b with
  | some u =>
    have := h b u e1
    rw [e] at this
    cases this
    rfl
  | none =>
    dsimp only
    rw [e]
theorem withT_fz {H2 : Hp} (t : TpH Hf H) (h2 : Ex H H2) {b : Addr} {o : HO} (e : withT Hf H2 b = some o) : Hf b = some o ∨ H b = none := by
  rcases withT_or e with e | ⟨e1, e, xs, rfl⟩
  · exact .inl e
  · cases e2 : H b with
    | none => exact .inr rfl
    | some u =>
      have := h2 b u e2
      rw [e] at this
      cases this
      exact .inl (t b xs e2)
/-- the heap has grown by what nobody has -/
theorem PR.grown {H2 : Hp} (p : PR ca K Hf H Em True R σ st) (h2 : Ex H H2) : PR ca K (withT Hf H2) H2 Em True R σ st ∧ Tr (jn Em R) Hf H (jn Em R) (withT Hf H2) H2 :=
  have hx : Ex Hf H2 := fun b o e => h2 b o (p.w.ex b o e)
  p.yield withT_ex h2 (withT_in hx) (fun b o e => withT_fz p.w.tp h2 e) (withT_tp hx)
theorem cs_for {tg iter : Expr} {body : List Stmt} {wi : TI} {src : Sl → Res (List D)} {t : TG} {g : MG} {mb : MS} {pos : Pos} (hi : CI ca X tg iter wi src) (hg : CG ca X L tg t g) (hb : CSs ca X L body mb)
    (hp : PassesOwn (model X.prog X.w) X.A X.env X.xe) (hc : X.calm = true) (hs : ∀ x, foldedSetIterable iter X.env x = pure x := by intro _; rfl) : CS ca X L (.For tg iter body [] pos) (sFor src g mb) := fun Hf H R σ st E p h => by
  refine ws_of (ps_for hp hc hi.1 hg.1 (wss_pss X body) hs) (hi.2 Hf H R σ st _ p ?_)
  unfold sFor at h
  cases e : src st with
  | fail => rw [e] at h; exact h
  | exc x st1 => rw [e] at h; exact fun Hf' H' R' cls dd t p => h Hf' H' R' σ cls dd t p Lk.refl
  | ok ds st1 =>
    rw [e] at h
    intro Hf1 H1 R1 J t1 p1 it
    have h1 := PostS.from (σ' := σ) t1 (Lk.refl) h
    clear h
    have h2 : PostS ca X L Hf1 H1 (jn Em R1) σ (forD g mb ds st1) E := h1
    clear h1
    refine ⟨fun i m σ' H' => m = ds.length - i ∧ i ≤ ds.length ∧ ∃ Hf' R' st', Tr (jn Em R1) Hf1 H1 (jn Em R') Hf' H' ∧ PR ca X.K Hf' H' Em True R' σ' st' ∧ Lk L σ σ' ∧ forD g mb (ds.drop i) st' = forD g mb ds st1,
      ⟨ds.length, by simp, Nat.zero_le _, Hf1, R1, st1, Tr.refl fun _ q => q, p1, Lk.refl, rfl⟩, ?_⟩
    rintro i m σ' H' ⟨rfl, hi', Hf', R', st', t', p', k', ef⟩
    obtain ⟨g1, g2, g3⟩ := it Hf' H' t'.fx p'.w.ex p'.w.tp
    by_cases hlt : i < ds.length
    · refine .inr ⟨g1 i hlt, fun σ2 H2 => i + 1 ≤ ds.length ∧ ∃ Hf2 R2 st2, Tr (jn Em R1) Hf1 H1 (jn Em R2) Hf2 H2 ∧ PR ca X.K Hf2 H2 Em True R2 σ2 st2 ∧ Lk L σ σ2 ∧ forD g mb (ds.drop (i + 1)) st2 = forD g mb ds st1,
        fun σ2 H2 ⟨q1, q2⟩ => ⟨ds.length - (i + 1), by omega, rfl, q1, q2⟩, fun x H2 hy => ?_⟩
      obtain ⟨d, ed⟩ : ∃ d, ds[i]? = some d := ⟨ds[i], by simp [hlt]⟩
      obtain ⟨hd, Hf2, x1, x2, x3, x4, x5, rx⟩ := g3 i d x H2 ed hy
      obtain ⟨p2, t2⟩ := p'.yield x1 x2 x3 x4 x5
      have edr : ds.drop i = d :: ds.drop (i + 1) := by
        rw [List.drop_eq_getElem_cons
            hlt]
        simp only [List.getElem?_eq_getElem hlt, Option.some.injEq] at ed
        rw [ed]
      rw [edr, forD] at ef
      have h3 : PostS ca X L Hf2 H2 (jn Em R') σ' ((g d st').toN fun st1 => match mb st1 with
        | .next st2 => forD g mb (ds.drop (i + 1)) st2
        | .cont st2 => forD g mb (ds.drop (i + 1)) st2
        | .brk st2 => .next st2
        | r => r) E := by
        refine PostS.from (t'.trans t2) k' ?_
        have := h2
        rw [← ef] at this
        exact this
      refine hg.2 Hf2 H2 Em R' σ' st' x d _ (p2.put rx) ?_
      cases eg : g d st' with
      | fail => rw [eg] at h3; exact h3
      | exc x st2 => rw [eg] at h3; exact h3
      | ok a st2 =>
        rw [eg] at h3 ef
        intro Hf3 H3 R3 σ3 t3 p3 k3
        have h4 := PostS.from t3 k3 h3
        clear h3
        refine hb Hf3 H3 R3 σ3 st2 _ p3 ?_
        dsimp only [Res.toN] at h4 ef
        cases eb : mb st2 with
        | next st4 =>
          rw [eb] at ef
          exact fun Hf4 H4 R4 σ4 t4 p4 k4 => ⟨by omega, Hf4, R4, st4, ((t'.trans t2).trans t3).trans t4, p4, Lk.trans k' (Lk.trans k3 k4), ef⟩
        | cont st4 =>
          rw [eb] at ef
          exact fun Hf4 H4 R4 σ4 t4 p4 k4 => ⟨by omega, Hf4, R4, st4, ((t'.trans t2).trans t3).trans t4, p4, Lk.trans k' (Lk.trans k3 k4), ef⟩
        | brk st4 =>
          rw [eb] at h4
          exact h4
        | ret d st4 => rw [eb] at h4; exact h4
        | exc x st4 => rw [eb] at h4; exact h4
        | fail => rw [eb] at h4; exact h4
    · have e1 : i = ds.length := by omega
      subst e1
      refine .inl ⟨g2, ?_⟩
      rw [List.drop_length, forD] at ef
      rw [← ef] at h2
      exact h2 Hf' H' R' σ' t' p' k'
theorem cs_while {c : Expr} {body : List Stmt} {mc : MT} {mb : MS} {pos : Pos} (n : Nat) (hc : CT ca X c mc) (hb : CSs ca X L body mb)
    (hp : PassesOwn (model X.prog X.w) X.A X.env X.xe) : CS ca X L (.While c body [] pos) (whileD mc mb n) := fun Hf H R σ st E p h => by
  refine ws_of (ps_while hp (wt_pt X c) (wss_pss X body)) ?_
  refine ⟨fun m σ' H' => ∃ Hf' R' st', Tr (jn Em R) Hf H (jn Em R') Hf' H' ∧ PR ca X.K Hf' H' Em True R' σ' st' ∧ Lk L σ σ' ∧ whileD mc mb m st' = whileD mc mb n st,
    ⟨n, Hf, R, st, Tr.refl fun _ q => q, p, Lk.refl, rfl⟩, ?_⟩
  rintro m σ' H' ⟨Hf', R', st', t', p', k', ew⟩
  have h1 : PostS ca X L Hf' H' (jn Em R') σ' (whileD mc mb m st') E := by
    rw [ew]; exact PostS.from t' k' h
  cases m with
  | zero => exact h1.elim
  | succ m =>
    refine hc Hf' H' R' σ' st' _ p' ?_
    rw [whileD] at h1 ew
    cases ec : mc st' with
    | fail => rw [ec] at h1; exact h1
    | exc x st2 => rw [ec] at h1; exact fun Hf2 H2 R2 cls dd t p => h1 Hf2 H2 R2 σ' cls dd t p Lk.refl
    | ok k st2 =>
      rw [ec] at h1 ew
      dsimp only [Res.toS] at h1 ew
      intro Hf2 H2 R2 t2 p2
      have h2 := PostS.from (σ' := σ') t2 (Lk.refl) h1
      cases k with
      | false => exact h2 Hf2 H2 R2 σ' (Tr.refl fun _ q => q) p2 Lk.refl
      | true =>
        rw [if_pos rfl] at h2 ew
        refine ⟨fun σ3 H3 => ∃ Hf3 R3 st3, Tr (jn Em R) Hf H (jn Em R3) Hf3 H3 ∧ PR ca X.K Hf3 H3 Em True R3 σ3 st3 ∧ Lk L σ σ3 ∧ whileD mc mb m st3 = whileD mc mb n st, fun σ3 H3 q => ⟨m, Nat.lt_succ_self m, q⟩, ?_⟩
        refine hb Hf2 H2 R2 σ' st2 _ p2 ?_
        cases eb : mb st2 with
        | next st4 =>
          rw [eb] at ew
          exact fun Hf4 H4 R4 σ4 t4 p4 k4 => ⟨Hf4, R4, st4, (t'.trans t2).trans t4, p4, Lk.trans k' k4, ew⟩
        | cont st4 =>
          rw [eb] at ew
          exact fun Hf4 H4 R4 σ4 t4 p4 k4 => ⟨Hf4, R4, st4, (t'.trans t2).trans t4, p4, Lk.trans k' k4, ew⟩
        | brk st4 => rw [eb] at h2; exact h2
        | ret d st4 => rw [eb] at h2; exact h2
        | exc x st4 => rw [eb] at h2; exact h2
        | fail => rw [eb] at h2; exact h2
end
end DL

/-! DL7: argument lists, displays, defs and their calls. -/
namespace DL
open PySem L2 PyProof.Rows

/-- arguments whose values are handed over -/
def CL (ca : Nat → Addr) (X : Cx) (es : List Expr) (m : MA) : Prop := ∀ (Hf H : Hp) (R : Nat → Rg) (σ : L2.St) (st : Sl) (Q : List V → Hp → Prop), PR ca X.K Hf H Em True R σ st → PostL ca X Hf H (jn Em R) σ (m st) Q → WL X es σ H Q

section
variable {ca : Nat → Addr} {K : PySem.W.Frag} {Hf H Hf1 H1 Hf2 H2 : Hp} {S S1 S2 P P1 P2 : Rg} {R R1 R2 : Nat → Rg} {pp qq : Prop} {σ σ' : L2.St} {st st' : Sl} {v : V} {d : D} {vs : List V} {ds : List D} {X : Cx} {L : List Nat}

/-- a pending thing beside a step of the slots alone -/
theorem PR.carry {ppf : Hp → Hp → Prop} (p1 : PR ca K Hf1 H1 P1 pp R1 σ st) (t2 : Tr (jn Em R1) Hf1 H1 (jn P2 R2) Hf2 H2) (p2 : PR ca K Hf2 H2 P2 qq R2 σ' st') :
    (∀ b, P1 b → ∀ o, H1 b = some o → H2 b = some o) ∧ (∀ b, P1 b → P2 b → False) ∧ (∀ i b, P1 b → R2 i b → False) ∧ Wl Hf2 H2 (jn (fun b => P1 b ∨ P2 b) R2) ∧ Tr (jn P1 R1) Hf1 H1 (jn (fun b => P1 b ∨ P2 b) R2) Hf2 H2 := by
  have wP : Wl Hf1 H1 P1 := p1.w.mono fun b q => .inl q
  have bs := t2.beside wP fun b q1 q2 => q2.elim (fun q => q.elim) fun ⟨i, q⟩ => p1.dp i b q1 q
  refine ⟨bs.1, fun b q1 q2 => bs.2.1 b q1 (.inl q2), fun i b q1 q2 => bs.2.1 b q1 (.inr ⟨i, q2⟩), ⟨p2.w.ex, fun b q => ?_, fun b q => ?_, mkTp⟩, ?_⟩
  · rcases q with (q | q) | q
    · exact (bs.2.2 b q).1
    · exact p2.w.dm b (.inl q)
    · exact p2.w.dm b (.inr q)
  · rcases q with (q | q) | q
    · exact (bs.2.2 b q).2
    · exact p2.w.nf b (.inl q)
    · exact p2.w.nf b (.inr q)
  · refine ((t2.with P1).more fun b q => ?_).less fun b q => ?_
    · rcases q with q | q
      · exact .inl q
      · exact q.elim (fun q => q.elim) .inr
    · rcases q with (q | q) | q
      · exact .inl q
      · exact .inr (.inl q)
      · exact .inr (.inr q)

theorem cl_nil : CL ca X [] aNil := fun Hf H R σ st Q p h => h Hf H Em R [] (Tr.refl fun _ q => q) (p.toP (fun _ q => q) .nil)
theorem cl_cons {e : Expr} {es : List Expr} {m : ME} {ms : MA} (he : CE ca X e m) (hr : CL ca X es ms) : CL ca X (e :: es) (aCons m ms) := fun Hf H R σ st Q p h => by
  refine he Hf H R σ st _ p ?_
  unfold aCons at h
  cases e1 : m st with
  | fail => rw [e1] at h; exact h
  | exc x st1 => rw [e1] at h; exact h
  | ok d st1 =>
    rw [e1] at h
    intro Hf1 H1 P1 R1 v t1 p1
    have h1 := PostL.from (less0 t1) h
    refine hr Hf1 H1 R1 σ st1 _ p1.drop ?_
    dsimp only [Res.bind] at h1
    cases e2 : ms st1 with
    | fail => rw [e2] at h1; exact h1
    | exc x st2 => rw [e2] at h1; exact h1
    | ok ds st2 =>
      rw [e2] at h1
      intro Hf2 H2 P2 R2 vs t2 p2
      obtain ⟨c1, c2, c3, c4, c5⟩ := PR.carry (ppf := fun _ _ => True) p1 t2 p2
      have hh : PostL ca X Hf H (jn Em R) σ (.ok (d :: ds) st2) Q := by
        have h2 := h
        dsimp only [Res.bind] at h2
        rw [e2] at h2
        exact h2
      exact hh Hf2 H2 (fun b => P1 b ∨ P2 b) R2 (v :: vs) (t1.trans c5) ⟨.cons (p1.pend.keep t2.fx c1) p2.pend (fun _ q => .inl q) (fun _ q => .inr q) c2, p2.len, p2.at_, p2.dj, fun i b q1 q2 => q1.elim (fun q => c3 i b q q2) fun q => p2.dp i b q q2, c4⟩
theorem wl_app : ∀ {es fs : List Expr} {σ : L2.St} {H : Hp} {Q : List V → Hp → Prop}, WL X es σ H (fun xs H1 => WL X fs σ H1 fun ys H2 => Q (xs ++ ys) H2) → WL X (es ++ fs) σ H Q
  | [], _, _, _, _, h => h
  | e :: es, fs, σ, H, Q, h => We.mk fun pins s I => thn (We.run h pins s I) fun u s1 ⟨v, H1, I1, r1, q1⟩ => ⟨v, H1, I1, r1, wl_app (es := es) q1⟩
/-- displays -/
theorem ce_lst {es : List Expr} {ms : MA} {pos : Pos} (h : CL ca X es ms) (hst : NoStar es) : CE ca X (.List es pos) (eLst ms) := fun Hf H R σ st Q p hq => by
  refine we_of (pe_lst (wa_pa X es)) (wa_wl (fun e' r' q => noStar_suf hst e' r' q _) (h Hf H R σ st _ p ?_))
  unfold eLst at hq
  cases e : ms st with
  | fail => rw [e] at hq; exact hq
  | exc x st1 => rw [e] at hq; exact hq
  | ok ds st1 =>
    rw [e] at hq
    intro Hf1 H1 P1 R1 vs t1 p1
    by_cases hl : ds.length ≤ 16777216
    · dsimp only [Res.bind] at hq
      rw [if_pos hl] at hq
      refine ⟨by rw [p1.pend.length, ← sz_eq]; exact hl, fun a ha => ?_⟩
      have hne : ∀ b, jn P1 R1 b → b ≠ a := fun b q z => by
        subst z
        obtain ⟨o, e⟩ := p1.w.dm b q
        rw [ha] at e; cases e
      obtain ⟨w1, w2⟩ := wl_new (o := .lst vs) p1.w ha
      refine hq Hf1 (upd H1 a (.lst vs)) (fun b => P1 b ∨ b = a) R1 (.ref a) (t1.trans ⟨fun _ _ e => e, fun b o e _ => upd_keep ha b o e, fun b q => ?_, fun _ _ e => .inl e⟩) ⟨.lstO (.inr rfl) upd_same ((p1.pend.keep (fun _ _ e => e) fun b _ o e => upd_keep ha b o e).mono fun b q => ⟨.inl q, hne b (.inl q)⟩), p1.len, fun i d e => ?_, p1.dj, fun i b q1 q2 => ?_, ⟨w1.ex, fun b q => ?_, fun b q => ?_, mkTp⟩⟩
      · rcases q with (q | q) | q
        · exact .inl (.inl q)
        · subst q; exact .inr ha
        · exact .inl (.inr q)
      · obtain ⟨v, e1, r⟩ := p1.at_ i d e
        exact ⟨v, e1, r.keep (fun _ _ e => e) fun b _ o e => upd_keep ha b o e⟩
      · rcases q1 with q1 | q1
        · exact p1.dp i b q1 q2
        · exact hne b (.inr ⟨i, q2⟩) q1
      · rcases q with (q | q) | q
        · exact w1.dm b (.inl q)
        · subst q; exact ⟨_, upd_same⟩
        · exact w1.dm b (.inr q)
      · rcases q with (q | q) | q
        · exact w1.nf b (.inl q)
        · subst q; exact w2
        · exact w1.nf b (.inr q)
    · dsimp only [Res.bind] at hq
      rw [if_neg hl] at hq; exact hq.elim
/-- a pending thing is let stand -/
theorem PR.standP (p : PR ca K Hf H P pp R σ st) : ∃ Hf', Ex Hf Hf' ∧ (∀ b, P b → ∀ o, H b = some o → Hf' b = some o) ∧ PR ca K Hf' H Em True R σ st ∧ Tr (jn P R) Hf H (jn Em R) Hf' H := by
  let Hf' : Hp := fun b => if Classical.propDecidable (P b) |>.decide then H b else Hf b
  have hy : ∀ b, P b → Hf' b = H b := fun b q => by
    show (if _ then _ else _) = _
    rw [if_pos (by simpa using q)]
  have hno : ∀ b, ¬ P b → Hf' b = Hf b := fun b q => by
    show (if _ then _ else _) = _
    rw [if_neg (by simpa using q)]
  have hx : Ex Hf Hf' := fun b o e => by
    by_cases q : P b
    · rw [hy b q]; exact p.w.ex b o e
    · rw [hno b q]; exact e
  refine ⟨Hf', hx, fun b q o e => by rw [hy b q]; exact e, ⟨trivial, p.len, fun i d e => ?_, p.dj, fun _ _ q => q.elim, ⟨fun b o e => ?_, fun b q => ?_, fun b q => ?_, mkTp⟩⟩, ⟨hx, fun _ _ e _ => e, fun b q => .inl (.inr (q.elim (fun q => q.elim) id)), fun b o e => ?_⟩⟩
  · obtain ⟨v, e1, r⟩ := p.at_ i d e
    exact ⟨v, e1, r.keep hx fun _ _ _ e => e⟩
  · by_cases z : P b
    · rw [hy b z] at e; exact e
    · rw [hno b z] at e; exact p.w.ex b o e
  · exact p.w.dm b (.inr (q.elim (fun q => q.elim) id))
  · obtain ⟨i, q⟩ := q.elim (fun q : Em b => q.elim) id
    rw [hno b fun z => p.dp i b z q]; exact p.w.nf b (.inr ⟨i, q⟩)
  · by_cases z : P b
    · exact .inr (.inl (.inl z))
    · rw [hno b z] at e; exact .inl e
theorem ce_tup {es : List Expr} {ms : MA} {k : Nat} {pos : Pos} (h : CL ca X es ms) (hst : NoStar es) : CE ca X (.Tuple es k pos) (eTup ms) := fun Hf H R σ st Q p hq => by
  refine we_of (pe_tup (wa_pa X es)) (wa_wl (fun e' r' q => noStar_suf hst e' r' q _) (h Hf H R σ st _ p ?_))
  unfold eTup at hq
  cases e : ms st with
  | fail => rw [e] at hq; exact hq
  | exc x st1 => rw [e] at hq; exact hq
  | ok ds st1 =>
    rw [e] at hq
    intro Hf1 H1 P1 R1 vs t1 p1
    by_cases hl : ds.length ≤ 16777216
    · dsimp only [Res.bind] at hq
      rw [if_pos hl] at hq
      refine ⟨by rw [p1.pend.length, ← sz_eq]; exact hl, fun a ha => ?_⟩
      obtain ⟨Hf2, x1, x2, p2, t2⟩ := p1.standP
      exact post_newT p2 (Post.from (t1.trans t2) hq) (fun b q => .inr q) ha (p1.pend.frz x1 x2)
    · dsimp only [Res.bind] at hq
      rw [if_neg hl] at hq; exact hq.elim

/-! ### a def's promise by its pure meaning -/
def PostC (ca : Nat → Addr) (K : PySem.W.Frag) (Hf H : Hp) (P : Rg) (vs : List V) (r : CR) (Q : VK) (E : XK) : Prop :=
  match r with
  | .ok d ps => ∀ Hf' H' P' Rp v, Tr P Hf H (jn P' Rp) Hf' H' → PR ca K Hf' H' P' (Rep ca K Hf' H' P' v d) Rp (vs.map some) ps → Q v H'
  | .exc x ps => ∀ Hf' H' Rp cls dd, Tr P Hf H (jn Em Rp) Hf' H' → PR ca K Hf' H' Em (XcR ca K Hf' H' cls dd x) Rp (vs.map some) ps → E cls dd H'
  | .fail => False
def spM (ca : Nat → Addr) (K : PySem.W.Frag) (m : MF) : Sp := fun vs H Q E => ∃ Hf P ds, RepL ca K Hf H P vs ds ∧ Wl Hf H P ∧ PostC ca K Hf H P vs (m ds) Q E

theorem getS_keepL {n : Nat} {i : Nat} (h : getS (keepL L n st) i = some d) : i < n ∧ i ∈ L ∧ getS st i = some d := by
  unfold keepL at h
  have e : getS ((List.range n).map fun j => if j ∈ L then getS st j else none) i = (if i < n then (if i ∈ L then getS st i else none) else none) := by
    unfold getS
    rw [List.getElem?_map]
    by_cases hi : i < n
    · rw [List.getElem?_range hi, if_pos hi]; rfl
    · rw [List.getElem?_eq_none (by simp; omega), if_neg hi]; rfl
  rw [e] at h
  by_cases hi : i < n
  · rw [if_pos hi] at h
    by_cases hl : i ∈ L
    · rw [if_pos hl] at h; exact ⟨hi, hl, h⟩
    · rw [if_neg hl] at h; cases h
  · rw [if_neg hi] at h; cases h
/-- a list's regions, one by one -/
theorem repL_split : ∀ {vs : List V} {ds : List D} {S : Rg}, RepL ca K Hf H S vs ds → ∃ R : Nat → Rg, (∀ i d, ds[i]? = some d → ∃ v, vs[i]? = some v ∧ Rep ca K Hf H (R i) v d) ∧ (∀ i j b, R i b → R j b → i = j) ∧ ∀ i b, R i b → S b
  | _, _, _, .nil => ⟨fun _ => Em, fun i d h => by simp at h, fun _ _ _ q => q.elim, fun _ _ q => q.elim⟩
  | _, _, _, .cons (S1 := S1) r1 r2 h1 h2 h3 => by
    obtain ⟨R, a, b, c⟩ := repL_split r2
    refine ⟨fun i => match i with | 0 => S1 | i + 1 => R i, fun i d e => ?_, fun i j x q1 q2 => ?_, fun i x q => ?_⟩
    · cases i with
      | zero => simp at e; subst e; exact ⟨_, rfl, r1⟩
      | succ i => obtain ⟨v, e1, r⟩ := a i d (by simpa using e); exact ⟨v, by simpa using e1, r⟩
    · cases i <;> cases j
      · rfl
      · exact (h3 x q1 (c _ _ q2)).elim
      · exact (h3 x q2 (c _ _ q1)).elim
      · rw [b _ _ x q1 q2]
    · cases i with
      | zero => exact h1 x q
      | succ i => exact h2 x (c i x q)
/-- the parameters as they are handed back -/
theorem PR.params {n : Nat} (p : PR ca K Hf H P pp R σ' st) (hv : vs.length = n) (hk : ∀ i ∈ L, i < n → σ'[i]? = some (vs[i]?)) (q : qq) {P' : Rg} (hP : ∀ b, P' b → P b) : PR ca K Hf H P' qq (fun i b => i ∈ L ∧ i < n ∧ R i b) (vs.map some) (keepL L n st) where
  pend := q
  len := by simp [keepL, hv]
  at_ := fun i d e => by
    obtain ⟨h1, h2, h3⟩ := getS_keepL e
    obtain ⟨v, e1, r⟩ := p.at_ i d h3
    have := hk i h2 h1
    rw [e1] at this
    have e2 : some v = vs[i]? := Option.some.inj this
    refine ⟨v, ?_, r.mono fun b q => ⟨h2, h1, q⟩⟩
    rw [List.getElem?_map, ← e2]; rfl
  dj := fun i j b q1 q2 => p.dj i j b q1.2.2 q2.2.2
  dp := fun i b q1 q2 => p.dp i b (hP b q1) q2.2.2
  w := p.w.mono fun b q => q.elim (fun q => .inl (hP b q)) fun ⟨i, q⟩ => .inr ⟨i, q.2.2⟩
theorem start_at {N : List Str} {i : Nat} (h : i < vs.length) : (L2.start N vs)[i]? = some (vs[i]?) := by
  unfold L2.start
  rw [List.getElem?_append_left (by simpa using h), List.getElem?_map]
  rw [List.getElem?_eq_getElem h]; rfl
end

section
variable {ca : Nat → Addr} {P : Program} {w : World} {K : PySem.W.Frag} {mg : Str → Option Value} {base : Heap} {L : List Nat}
theorem spM_len {n w : Nat} {mb : MS} {vs : List V} {H : Hp} {Q : VK} {E : XK} (h : spM ca K (fn n w L mb) vs H Q E) : vs.length = n := by
  obtain ⟨Hf, Pg, ds, r, w1, post⟩ := h
  rw [r.length]
  unfold fn at post
  by_cases e : ds.length = n
  · exact e
  · rw [if_neg e] at post; exact post.elim
end

section
variable {ca : Nat → Addr} {Hf H Hf1 H1 Hf2 H2 : Hp} {S P : Rg} {R R1 R2 : Nat → Rg} {σ : L2.St} {st : Sl} {v : V} {d : D} {vs : List V} {ds : List D} {X : Cx} {L : List Nat}
/-- what a callee hands back, for a caller that lends nothing -/
theorem postC_of {m : MF} {Q : VK} (p : PR ca X.K Hf H P (RepL ca X.K Hf H P vs ds) R σ st) (h : Post ca X Hf H (jn P R) σ (match m ds with | .ok d _ => .ok d st | .exc x _ => .exc x st | .fail => .fail) Q) :
    PostC ca X.K Hf H P vs (m ds) Q (fun cls dd H' => wX X cls dd σ H') := by
  have wR : Wl Hf H (tot R) := p.w.mono fun b q => .inr q
  have old : ∀ {Hf' H' : Hp} {S' P' : Rg} {pp : Prop}, Tr P Hf H S' Hf' H' → Wl Hf' H' S' → (∀ b, P' b → S' b) → pp → PR ca X.K Hf' H' P' pp R σ st ∧ Tr (jn P R) Hf H (jn P' R) Hf' H' := fun {Hf' H' S' P' pp} t w hP q => by
    have bs := t.beside wR fun b q1 q2 => by obtain ⟨i, q1⟩ := q1; exact p.dp i b q2 q1
    refine ⟨⟨q, p.len, fun i d e => ?_, p.dj, fun i b q1 q2 => bs.2.1 b ⟨i, q2⟩ (hP b q1), ⟨w.ex, fun b q => ?_, fun b q => ?_, mkTp⟩⟩, ?_⟩
    · obtain ⟨v, e1, r⟩ := p.at_ i d e
      exact ⟨v, e1, r.keep t.fx fun b q o e => bs.1 b ⟨i, q⟩ o e⟩
    · rcases q with q | q
      · exact w.dm b (hP b q)
      · exact (bs.2.2 b q).1
    · rcases q with q | q
      · exact w.nf b (hP b q)
      · exact (bs.2.2 b q).2
    · refine ((t.with (tot R)).more fun b q => ?_).less fun b q => ?_
      · exact q.elim .inr .inl
      · exact q.elim (fun q => .inr (hP b q)) .inl
  cases em : m ds with
  | fail => rw [em] at h; exact h
  | ok d ps =>
    rw [em] at h
    intro Hf' H' P' Rp v t q
    obtain ⟨p2, t2⟩ := old (P' := P') t (q.w) (fun b z => .inl z) q.pend
    exact h Hf' H' P' R v t2 p2
  | exc x ps =>
    rw [em] at h
    intro Hf' H' Rp cls dd t q
    obtain ⟨p2, t2⟩ := old (P' := Em) t (q.w) (fun b z => z.elim) q.pend
    exact h Hf' H' R cls dd t2 p2
end
end DL

/-! DL8: a call with a slot lent; what is walked; list comprehensions; methods of lists. -/
namespace DL
open PySem L2 PyProof.Rows

def iR1 (m : ME) : Sl → Res (List D) := fun st => (m st).bind fun d st1 => match d with
  | .int j => if small62 j then .ok (rangeD 0 j.toNat) st1 else .fail
  | _ => .fail
def iR2 (a b : ME) : Sl → Res (List D) := fun st => (a st).bind fun d st1 => (b st1).bind fun e st2 => match d, e with
  | .int i, .int j => if small62 i && small62 j then .ok (rangeD i (j - i).toNat) st2 else .fail
  | _, _ => .fail
def iRD (a b : ME) : Sl → Res (List D) := fun st => (a st).bind fun d st1 => (b st1).bind fun e st2 => match d, e with
  | .int i, .int j => if small62 i && small62 j then .ok (rangeC i (-1) (i - j).toNat) st2 else .fail
  | _, _ => .fail
section
variable {ca : Nat → Addr} {K : PySem.W.Frag} {Hf H Hf1 H1 Hf2 H2 : Hp} {S S1 S2 P P1 P2 : Rg} {R R1 R2 : Nat → Rg} {pp qq : Prop} {σ σ' : L2.St} {st st' : Sl} {v : V} {d : D} {vs : List V} {ds : List D} {X : Cx} {L : List Nat}

/-- what goes to a call -/
theorem repL_app' {P : Rg} (r : RepL ca K Hf H S1 vs ds) {ws : List V} {es : List D} (r2 : RepL ca K Hf H S2 ws es) (h1 : ∀ b, S1 b → P b) (h2 : ∀ b, S2 b → P b) (h3 : ∀ b, S1 b → S2 b → False) : RepL ca K Hf H P (vs ++ ws) (ds ++ es) := by
  induction ds generalizing vs S1 P with
  | nil => cases r; exact r2.mono h2
  | cons d ds ih =>
    cases r with
    | cons q1 q2 k1 k2 k3 =>
      rename_i T1 T2 v vs
      refine .cons (S2 := fun b => T2 b ∨ S2 b) q1 (ih q2 (fun b q => .inl q) (fun b q => .inr q) fun b x y => h3 b (k2 b x) y) (fun b q => h1 b (k1 b q)) (fun b q => q.elim (fun q => h1 b (k2 b q)) (h2 b)) fun b x y => ?_
      rcases y with y | y
      · exact k3 b x y
      · exact h3 b (k1 b x) y
/-- what a callee hands back, one slot lent: place j among the arguments -/
theorem postC_lent {m : MF} {Q : VK} {i j : Nat} {a : V} (p : PR ca X.K Hf H P (RepL ca X.K Hf H P vs ds) R σ st) (hv : vs[j]? = some a) (hs : σ[i]? = some (some a)) (hi : getS st i = none) (hil : i < st.length)
    (h : Post ca X Hf H (jn P R) σ (match m ds with | .ok d ps => .ok d (st.set i (getS ps j)) | .exc x ps => .exc x (st.set i (getS ps j)) | .fail => .fail) Q) :
    PostC ca X.K Hf H P vs (m ds) Q (fun cls dd H' => wX X cls dd σ H') := by
  have wR : Wl Hf H (tot R) := p.w.mono fun b q => .inr q
  have old : ∀ {Hf' H' : Hp} {P' : Rg} {Rp : Nat → Rg} {ps : Sl} {pp : Prop}, Tr P Hf H (jn P' Rp) Hf' H' → PR ca X.K Hf' H' P' pp Rp (vs.map some) ps → PR ca X.K Hf' H' P' pp (fun k b => if k = i then Rp j b else R k b) σ (st.set i (getS ps j)) ∧ Tr (jn P R) Hf H (jn P' fun k b => if k = i then Rp j b else R k b) Hf' H' := fun {Hf' H' P' Rp ps pp} t w => by
    have bs := t.beside wR fun b q1 q2 => by obtain ⟨i, q1⟩ := q1; exact p.dp i b q2 q1
    refine ⟨⟨w.pend, by rw [List.length_set]; exact p.len, fun k d e => ?_, fun k l b q1 q2 => ?_, fun k b q1 q2 => ?_, ⟨w.w.ex, fun b q => ?_, fun b q => ?_, mkTp⟩⟩, ?_⟩
    · rcases set_get e with ⟨z1, z2⟩ | ⟨z1, z2⟩
      · subst z1
        obtain ⟨v, e1, r⟩ := w.at_ j d z2
        rw [List.getElem?_map, hv] at e1
        cases e1
        exact ⟨_, hs, by simpa using r⟩
      · obtain ⟨v, e1, r⟩ := p.at_ k d z2
        refine ⟨v, e1, ?_⟩
        rw [show (fun b => if k = i then Rp j b else R k b) = R k from by funext b; rw [if_neg (Ne.symm z1)]]
        exact r.keep t.fx fun b q o e => bs.1 b ⟨k, q⟩ o e
    · split at q1 <;> split at q2
      · rename_i a c; exact a.trans c.symm
      · exact (bs.2.1 b ⟨l, q2⟩ (.inr ⟨j, q1⟩)).elim
      · exact (bs.2.1 b ⟨k, q1⟩ (.inr ⟨j, q2⟩)).elim
      · exact p.dj k l b q1 q2
    · split at q2
      · exact w.dp j b q1 q2
      · exact bs.2.1 b ⟨k, q2⟩ (.inl q1)
    · rcases q with q | ⟨k, q⟩
      · exact w.w.dm b (.inl q)
      · split at q
        · exact w.w.dm b (.inr ⟨j, q⟩)
        · exact (bs.2.2 b ⟨k, q⟩).1
    · rcases q with q | ⟨k, q⟩
      · exact w.w.nf b (.inl q)
      · split at q
        · exact w.w.nf b (.inr ⟨j, q⟩)
        · exact (bs.2.2 b ⟨k, q⟩).2
    · refine ((t.with (tot R)).more fun b q => ?_).less fun b q => ?_
      · exact q.elim .inr .inl
      · rcases q with q | ⟨k, q⟩
        · exact .inr (.inl q)
        · split at q
          · exact .inr (.inr ⟨j, q⟩)
          · exact .inl ⟨k, q⟩
  cases em : m ds with
  | fail => rw [em] at h; exact h
  | ok d ps =>
    rw [em] at h
    intro Hf' H' P' Rp v t q
    obtain ⟨p2, t2⟩ := old t q
    exact h Hf' H' P' _ v t2 p2
  | exc x ps =>
    rw [em] at h
    intro Hf' H' Rp cls dd t q
    obtain ⟨p2, t2⟩ := old t q
    exact h Hf' H' _ cls dd t2 p2
/-- the arguments of such a call: to the heap where the callee starts -/
theorem lent_args {es fs : List Expr} {e : Expr} {i : Nat} {ms ns : MA} {m : MF} {Q : VK} {E : L2.St → XK} (ha : CL ca X es ms) (he : PE X e (tVar i)) (hb : CL ca X fs ns) (p : PR ca X.K Hf H Em True R σ st)
    (h : Post ca X Hf H (jn Em R) σ (eCallL m ms i ns st) Q) (hE : E σ = fun cls dd H' => wX X cls dd σ H') : WL X (es ++ e :: fs) σ H fun vs H' => spM ca X.K m vs H' Q (E σ) := by
  refine wl_app (ha Hf H R σ st _ p ?_)
  unfold eCallL at h
  cases e1 : ms st with
  | fail => rw [e1] at h; exact h
  | exc x st1 => rw [e1] at h; exact h
  | ok ds st1 =>
    rw [e1] at h
    intro Hf1 H1 P1 R1 vs t1 p1
    have h1 := Post.from t1 h
    clear h
    dsimp only [Res.bind] at h1
    cases eg : getS st1 i with
    | none => rw [eg] at h1; exact h1.elim
    | some d0 =>
      rw [eg] at h1
      obtain ⟨v0, ev0, _⟩ := p1.at_ i d0 eg
      refine we_of he ⟨v0, ev0, hb Hf1 H1 R1 σ st1 _ p1.drop ?_⟩
      have h2 : Post ca X Hf1 H1 (jn P1 R1) σ ((ns st1).bind fun es st2 =>
          (match getS st2 i with
          | some d => if hot d then (match m (ds ++ d :: es) with
              | .ok r ps => .ok r (st2.set i (getS ps ds.length))
              | .exc x ps => .exc x (st2.set i (getS ps ds.length))
              | .fail => .fail) else (match m (ds ++ d :: es) with
              | .ok r _ => .ok r st2
              | .exc x _ => .exc x st2
              | .fail => .fail)
          | none => .fail)) Q := h1
      clear h1
      cases e2 : ns st1 with
      | fail => rw [e2] at h2; exact h2
      | exc x st2 => rw [e2] at h2; exact fun Hf' H' R' cls dd t q => h2 Hf' H' R' cls dd (t.more fun b q => q.elim (fun q => q.elim) .inr) q
      | ok es' st2 =>
        rw [e2] at h2
        intro Hf2 H2 P2 R2 ws t2 p2
        obtain ⟨c1, c2, c3, c4, c5⟩ := PR.carry (ppf := fun _ _ => True) p1 t2 p2
        have h3 := Post.from c5 h2
        clear h2
        dsimp only [Res.bind] at h3
        have r1 := p1.pend.keep t2.fx c1
        have r2 := p2.pend
        cases eg2 : getS st2 i with
        | none => rw [eg2] at h3; exact h3.elim
        | some d =>
          rw [eg2] at h3
          dsimp only at h3
          rw [hE]
          by_cases hh : hot d = true
          · rw [if_pos hh] at h3
            obtain ⟨v, ev, p3⟩ := p2.drop.take eg2
            rw [ev0] at ev
            cases ev
            -- the pending arguments, the lent slot's own
            have hd1 : ∀ b, (P1 b ∨ P2 b) → R2 i b → False := fun b q1 q2 => q1.elim (fun q => c3 i b q q2) fun q => p2.dp i b q q2
            have rr : RepL ca X.K Hf2 H2 (fun b => (P1 b ∨ P2 b) ∨ R2 i b) (vs ++ v0 :: ws) (ds ++ d :: es') :=
              repL_app' (S1 := P1) (S2 := fun b => R2 i b ∨ P2 b) r1 (.cons p3.pend r2 (fun _ q => .inl q) (fun _ q => .inr q) fun b q1 q2 => p2.dp i b q2 q1) (fun b q => .inl (.inl q)) (fun b q => q.elim .inr fun q => .inl (.inr q)) fun b q1 q2 => q2.elim (fun q => c3 i b q1 q) (c2 b q1)
            have p4 : PR ca X.K Hf2 H2 (fun b => (P1 b ∨ P2 b) ∨ R2 i b) (RepL ca X.K Hf2 H2 (fun b => (P1 b ∨ P2 b) ∨ R2 i b) (vs ++ v0 :: ws) (ds ++ d :: es')) (fun j b => j ≠ i ∧ R2 j b) σ (st2.set i none) :=
              ⟨rr, p3.len, p3.at_, p3.dj, fun k b q1 q2 => q1.elim (fun q => q.elim (fun q => c3 k b q q2.2) fun q => p2.dp k b q q2.2) fun q => q2.1 (p2.dj k i b q2.2 q), c4.mono fun b q => by
                rcases q with (q | q) | ⟨k, q⟩
                · exact .inl q
                · exact .inr ⟨i, q⟩
                · exact .inr ⟨k, q.2⟩⟩
            refine ⟨Hf2, _, _, rr, p4.w.mono fun b q => .inl q, postC_lent (i := i) (j := vs.length) (a := v0) p4 (by simp) ev0 (by rw [getS_set, if_pos rfl]; split <;> rfl) (by rw [List.length_set]; exact getS_lt eg2) ?_⟩
            rw [r1.length]
            have hset : ∀ o : Option D, (st2.set i none).set i o = st2.set i o := fun o => by rw [List.set_set]
            simp only [hset]
            refine Post.from (Tr.refl fun b q => ?_) h3
            rcases q with (q | q) | ⟨k, q⟩
            · exact .inl q
            · exact .inr ⟨i, q⟩
            · exact .inr ⟨k, q.2⟩
          · rw [if_neg hh] at h3
            have hh' : hot d = false := by simpa using hh
            obtain ⟨v, ev, rd⟩ := p2.drop.at_ i d eg2
            rw [ev0] at ev
            cases ev
            have rr : RepL ca X.K Hf2 H2 (fun b => P1 b ∨ P2 b) (vs ++ v0 :: ws) (ds ++ d :: es') :=
              repL_app' (S1 := P1) (S2 := P2) r1 (.cons (S1 := Em) (rd.cold hh') r2 (fun _ q => q.elim) (fun _ q => q) fun b q1 q2 => q1) (fun b q => .inl q) (fun b q => .inr q) c2
            have p4 : PR ca X.K Hf2 H2 (fun b => P1 b ∨ P2 b) (RepL ca X.K Hf2 H2 (fun b => P1 b ∨ P2 b) (vs ++ v0 :: ws) (ds ++ d :: es')) R2 σ st2 :=
              ⟨rr, p2.len, p2.at_, p2.dj, fun k b q1 q2 => q1.elim (fun q => c3 k b q q2) fun q => p2.dp k b q q2, c4⟩
            exact ⟨Hf2, _, _, rr, p4.w.mono fun b q => .inl q, postC_of p4 h3⟩
/-! ### what is walked -/
theorem sqL_ex {a : Addr} {xs : List V} (hx : Ex Hf H) (h : SqL K Hf a xs) : SqL K H a xs := by
  rcases h with h | h
  · refine .inl ?_
    rcases h with h | ⟨o, h⟩
    · exact .inl (hx _ _ h)
    · exact .inr ⟨o, hx _ _ h⟩
  · exact .inr h
theorem sqT_ex {a : Addr} {xs : List V} (hx : Ex Hf H) (h : SqT K Hf a xs) : SqT K H a xs := by
  rcases h with h | h
  · refine .inl ?_
    rcases h with h | ⟨o, h⟩
    · exact .inl (hx _ _ h)
    · exact .inr ⟨o, hx _ _ h⟩
  · exact .inr h
theorem colds_at {ds : List D} (h : colds ds = true) {i : Nat} {d : D} (e : ds[i]? = some d) : hot d = false := by
  unfold colds at h
  have := List.all_eq_true.mp h d (List.mem_of_getElem? e)
  unfold cold at this
  simpa using this
/-- the end of an item that makes nothing -/
theorem itd_plain {J : It} {n : Nat} (hn : ds.length = n) (h1 : ∀ H', Ex Hf H' → ∀ i, i < n → J.go i H') (h2 : ∀ H', Ex Hf H' → J.stop n H') (h3 : ∀ H', Ex Hf H' → ∀ i d x H2, ds[i]? = some d → J.yld i H' x H2 → H2 = H' ∧ hot d = false ∧ ∀ Hf', Ex Hf Hf' → Rep ca K Hf' H' Em x d) : ItD ca K J Hf ds := by
  subst hn
  intro Hf' H' x1 x2 x5
  have x3 : Ex Hf H' := fun a o e => x2 a o (x1 a o e)
  refine ⟨h1 H' x3, h2 H' x3, fun i d x H2 e y => ?_⟩
  obtain ⟨rfl, hd, r⟩ := h3 H' x3 i d x H2 e y
  exact ⟨hd, Hf', fun _ _ e => e, fun _ _ e => e, x2, fun _ _ e => .inl e, x5, r Hf' x1⟩
theorem itd_list {a : Addr} (h : SqL K Hf a vs) (r : RepL ca K Hf H Em vs ds) (hc : colds ds = true) : ItD ca K (Itl K a) Hf ds := by
  refine itd_plain rfl (fun H' x i hi => ?_) (fun H' x => ⟨vs, sqL_ex x h, by rw [r.length]; exact Nat.le_refl _⟩) fun H' x i d v H2 e y => ?_
  · have : i < vs.length := by rw [r.length]; exact hi
    exact ⟨vs, vs[i], sqL_ex x h, by simp [this]⟩
  · obtain ⟨e1, y⟩ := y
    refine ⟨e1, colds_at hc e, fun Hf' x1 => ?_⟩
    obtain ⟨v', T, e2, r2, z⟩ := repL_at r e
    have := y vs (sqL_ex x h)
    rw [e2] at this
    cases this
    exact (r2.mono z).keep x1 fun _ q => q.elim
theorem itd_tup {a : Addr} (h : SqT K Hf a vs) (r : RepL ca K Hf H Em vs ds) (hc : colds ds = true) : ItD ca K (Itt K a) Hf ds := by
  refine itd_plain rfl (fun H' x i hi => ?_) (fun H' x => ⟨vs, sqT_ex x h, by rw [r.length]; exact Nat.le_refl _⟩) fun H' x i d v H2 e y => ?_
  · have : i < vs.length := by rw [r.length]; exact hi
    exact ⟨vs, vs[i], sqT_ex x h, by simp [this]⟩
  · obtain ⟨e1, y⟩ := y
    refine ⟨e1, colds_at hc e, fun Hf' x1 => ?_⟩
    obtain ⟨v', T, e2, r2, z⟩ := repL_at r e
    have := y vs (sqT_ex x h)
    rw [e2] at this
    cases this
    exact (r2.mono z).keep x1 fun _ q => q.elim
theorem itd_range {lo : Int} {n : Nat} : ItD ca K (Itr lo n) Hf (rangeD lo n) := by
  refine itd_plain (n := n) (by simp [rangeD]) (fun H' x i hi => hi) (fun H' x => Nat.le_refl _) fun H' x i d v H2 e y => ?_
  obtain ⟨rfl, rfl⟩ := y
  have hi : i < n := by
    have := (List.getElem?_eq_some_iff.mp e).1
    simpa [rangeD] using this
  have : d = .int (lo + (i : Nat)) := by
    simp only [rangeD, List.getElem?_map, List.getElem?_range hi, Option.map_some, Option.some.injEq] at e
    exact e.symm
  subst this
  exact ⟨rfl, rfl, fun _ _ => .int⟩
/-- the pairs of an enumeration -/
def enumD : Nat → List D → List D
  | _, [] => []
  | n, d :: ds => .tup [.int (n : Int), d] :: enumD (n + 1) ds
theorem enumD_get : ∀ {ds : List D} {n i : Nat} {e : D}, (enumD n ds)[i]? = some e → ∃ d, ds[i]? = some d ∧ e = .tup [.int ((n + i : Nat) : Int), d]
  | [], n, i, e, h => by simp [enumD] at h
  | d :: ds, n, 0, e, h => by
    simp [enumD] at h
    exact ⟨d, rfl, h.symm⟩
  | d :: ds, n, i + 1, e, h => by
    rw [enumD, List.getElem?_cons_succ] at h
    obtain ⟨d', h1, h2⟩ := enumD_get h
    refine ⟨d', by simpa using h1, ?_⟩
    rw [h2, show n + 1 + i = n + (i + 1) from by omega]
theorem enumD_length : ∀ {ds : List D} {n : Nat}, (enumD n ds).length = ds.length
  | [], _ => rfl
  | d :: ds, n => by simp [enumD, enumD_length]
theorem itd_enum {a : Addr} (h : SqL K Hf a vs) (r : RepL ca K Hf H Em vs ds) (hc : colds ds = true) : ItD ca K (Ite K a) Hf (enumD 0 ds) := by
  intro Hf' H' x1 x2 x5
  have x3 : Ex Hf H' := fun a o e => x2 a o (x1 a o e)
  refine ⟨fun i hi => ?_, ⟨vs, sqL_ex x3 h, by rw [r.length, enumD_length]; exact Nat.le_refl _⟩, fun i d x H2 e y => ?_⟩
  · have : i < vs.length := by rw [r.length]; rw [enumD_length] at hi; exact hi
    exact ⟨vs, vs[i], sqL_ex x3 h, by simp [this]⟩
  · obtain ⟨T, xv, rfl, hT, rfl, y⟩ := y
    obtain ⟨d', e1, rfl⟩ := enumD_get e
    obtain ⟨v', T', e2, r2, z⟩ := repL_at r e1
    have := y vs (sqL_ex x3 h)
    rw [e2] at this
    have e3 : v' = xv := Option.some.inj this
    subst e3
    have hT' : Hf' T = none := by
      cases q : Hf' T with
      | none => rfl
      | some o => rw [x2 T o q] at hT; cases hT
    refine ⟨rfl, upd Hf' T (.tup [.int (i : Nat), v']), fun b o e => upd_keep hT' b o e, fun b o e => upd_keep hT b o e, fun b o e => ?_, fun b o e => ?_, x5.upd2, ?_⟩
    · by_cases q : b = T
      · subst q; rw [upd_same] at e ⊢; exact e
      · rw [upd_ne q] at e ⊢; exact x2 b o e
    · by_cases q : b = T
      · subst q; exact .inr hT
      · rw [upd_ne q] at e; exact .inl e
    · refine .tup upd_same (.cons (S1 := Em) (S2 := Em) (by rw [Nat.zero_add]; exact .int) (.cons (S1 := Em) (S2 := Em) ((r2.mono z).keep (fun b o e => upd_keep hT' b o (x1 b o e)) fun _ q => q.elim) .nil (fun _ q => q) (fun _ q => q) fun _ q _ => q) (fun _ q => q) (fun _ q => q) fun _ q _ => q)
/-- a value that is walked: it is let stand -/
theorem PR.walked {xs : List D} (p : PR ca K Hf H P (Rep ca K Hf H P v d) R σ st) (h : lstItems d = some xs) (hc : colds xs = true) : ∃ Hf' a vs, v = .ref a ∧ SqL K Hf' a vs ∧ RepL ca K Hf' H Em vs xs ∧ PR ca K Hf' H Em True R σ st ∧ Tr (jn P R) Hf H (jn Em R) Hf' H := by
  obtain ⟨Hf', x1, x2, p', t'⟩ := p.standP
  refine ⟨Hf', ?_⟩
  have hr := p.pend
  cases hr with
  | lstF e r => cases h; exact ⟨_, _, rfl, .inl (.inl (x1 _ _ e)), repL_cold (r.keep x1 fun _ _ _ e => e) hc, p', t'⟩
  | lstO s e r => cases h; exact ⟨_, _, rfl, .inl (.inl (x2 _ s _ e)), repL_cold (r.keep x1 fun _ _ _ e => e) hc, p', t'⟩
  | scr e => cases h; exact ⟨_, _, rfl, sqL_ex x1 e, repL_mapInt _, p', t'⟩
  | _ => cases h
theorem PR.walkedT {xs : List D} (p : PR ca K Hf H P (Rep ca K Hf H P v (.tup xs)) R σ st) : ∃ Hf' a vs, v = .ref a ∧ SqT K Hf' a vs ∧ RepL ca K Hf' H Em vs xs ∧ PR ca K Hf' H Em True R σ st ∧ Tr (jn P R) Hf H (jn Em R) Hf' H := by
  obtain ⟨Hf', x1, x2, p', t'⟩ := p.standP
  have hr := p.pend
  cases hr with
  | tup e r => exact ⟨Hf', _, _, rfl, .inl (.inl (x1 _ _ e)), repL_em r x1, p', t'⟩
def tupItems : D → Option (List D)
  | .tup xs => some xs
  | _ => none
/-- an expression's answer, then what is walked -/
theorem post_iE {r : Res D} {p : D → Option (List D)} {Q : It → Hp → Prop} {Q' : VK} (h : PostI ca X Hf H S σ (r.bind fun d st1 => match p d with | some ds => if colds ds then .ok ds st1 else .fail | none => .fail) Q)
    (hk : ∀ d ds st Hf1 H1 P R1 v, p d = some ds → colds ds = true → Tr S Hf H (jn P R1) Hf1 H1 → PR ca X.K Hf1 H1 P (Rep ca X.K Hf1 H1 P v d) R1 σ st → PostI ca X Hf1 H1 (jn P R1) σ (.ok ds st) Q → Q' v H1) : Post ca X Hf H S σ r Q' := by
  cases r with
  | fail => exact h
  | exc x st => exact h
  | ok d st =>
    dsimp only [Res.bind] at h
    intro Hf1 H1 P R1 v t1 p1
    cases e : p d with
    | none => rw [e] at h; exact h.elim
    | some ds =>
      rw [e] at h
      dsimp only at h
      by_cases hc : colds ds = true
      · rw [if_pos hc] at h
        exact hk d ds st Hf1 H1 P R1 v e hc t1 p1 fun Hf2 H2 R2 J t2 p2 i2 => h Hf2 H2 R2 J (t1.trans t2) p2 i2
      · rw [if_neg hc] at h; exact h.elim
theorem ci_list {tg e : Expr} {m : ME} (hp : PI X tg e (iList X.K (We X e))) (he : CE ca X e m) : CI ca X tg e (iList X.K (We X e)) (iE m lstItems) := ⟨hp, fun Hf H R σ st Q p h => by
  refine he Hf H R σ st _ p (post_iE h fun d ds st1 Hf1 H1 P R1 v e1 hc t1 p1 h1 => ?_)
  obtain ⟨Hf', a, vs, rfl, s1, r1, p2, t2⟩ := p1.walked e1 hc
  exact ⟨a, rfl, ⟨vs, sqL_ex p2.w.ex s1⟩, h1 Hf' H1 R1 _ t2 p2 (itd_list s1 r1 hc)⟩⟩
theorem ci_tup {tg e : Expr} {m : ME} (hp : PI X tg e (iTup X.K (We X e))) (he : CE ca X e m) : CI ca X tg e (iTup X.K (We X e)) (iE m tupItems) := ⟨hp, fun Hf H R σ st Q p h => by
  refine he Hf H R σ st _ p (post_iE h fun d ds st1 Hf1 H1 P R1 v e1 hc t1 p1 h1 => ?_)
  cases d with
  | tup xs =>
    cases e1
    obtain ⟨Hf', a, vs, rfl, s1, r1, p2, t2⟩ := p1.walkedT
    exact ⟨a, rfl, ⟨vs, sqT_ex p2.w.ex s1⟩, h1 Hf' H1 R1 _ t2 p2 (itd_tup s1 r1 hc)⟩
  | _ => cases e1⟩
/-- enumerate(list) -/
def iEn (m : ME) : Sl → Res (List D) := fun st => (m st).bind fun d st1 => match lstItems d with
  | some ds => if colds ds then .ok (enumD 0 ds) st1 else .fail
  | none => .fail
theorem ci_enum {e : Expr} {m : ME} {p pos tpos : Pos} {elts : List Expr} {kk : Nat} (hg : Gl X "enumerate") (hm : X.mg "enumerate" = none) (he : CE ca X e m) (hs : starEach [e] X.env = [(false, eval e X.env)] := by rfl) :
    CI ca X (.Tuple elts kk tpos) (.Call (.Name "enumerate" p) [e] [] pos) (iEnum X.K (tCons (We X e) tNil)) (iEn m) := ⟨pi_enum hg hm (pa_cons (we_pe X e) pa_nil hs) hs, fun Hf H R σ st Q p h => by
  refine he Hf H R σ st _ p ?_
  unfold iEn at h
  cases r : m st with
  | fail => rw [r] at h; exact h
  | exc x st => rw [r] at h; exact h
  | ok d st1 =>
    rw [r] at h
    dsimp only [Res.bind] at h
    intro Hf1 H1 P R1 v t1 p1
    cases e : lstItems d with
    | none => rw [e] at h; exact h.elim
    | some ds =>
      rw [e] at h
      dsimp only at h
      by_cases hc : colds ds = true
      · rw [if_pos hc] at h
        obtain ⟨Hf', a, vs, rfl, s1, r1, p2, t2⟩ := p1.walked e hc
        exact ⟨a, vs, rfl, sqL_ex p2.w.ex s1, h Hf' H1 R1 _ (t1.trans t2) p2 (itd_enum s1 r1 hc)⟩
      · rw [if_neg hc] at h; exact h.elim⟩
theorem small62_ok {i : Int} (h : small62 i = true) : -(2 ^ 62) ≤ i ∧ i < 2 ^ 62 := of_decide_eq_true h
theorem ci_range1 {tg a : Expr} {m : ME} {p pos : Pos} (hg : Gl X "range") (hm : X.mg "range" = none) (ha : CE ca X a m) (hst : NoStar [a] := by exact ⟨fun _ => rfl, trivial⟩) : CI ca X tg (.Call (.Name "range" p) [a] [] pos) (iRng1 (Wa X [a])) (iR1 m) :=
  ⟨pi_range1 hg hm (wa_pa X [a]) (hst.1 _), fun Hf H R σ st Q p h => by
    refine wa_wl (fun e' r' q => noStar_suf hst e' r' q _) (ha Hf H R σ st _ p ?_)
    unfold iR1 at h
    cases r : m st with
    | fail => rw [r] at h; exact h
    | exc x st => rw [r] at h; exact h
    | ok d st1 =>
      rw [r] at h
      intro Hf1 H1 P R1 v t1 p1
      dsimp only [Res.bind] at h
      cases d with
      | int j =>
        dsimp only at h
        by_cases hj : small62 j = true
        · rw [if_pos hj] at h
          have := small62_ok hj
          show ∃ j : Int, _
          rw [rep_int p1.pend]
          exact ⟨j, rfl, this.1, this.2, h Hf1 H1 R1 _ (less0 t1) p1.drop itd_range⟩
        · rw [if_neg hj] at h; exact h.elim
      | _ => exact h.elim⟩
end
end DL

/-! DL9: comprehensions; lists of ranges; slices; methods of lists. -/
namespace DL
open PySem L2 PyProof.Rows

/-- what is raised is not followed -/
def Res.noX {α : Type} (r : Res α) : Res α :=
  match r with
  | .exc _ _ => .fail
  | r => r
def wipeS (st : Sl) : List Nat → Sl
  | [] => st
  | v :: vs => (wipeS st vs).set v none
def compD (g : MG) (t : MT) (e : ME) (vs : List Nat) : List D → Sl → List D → Res (List D)
  | [], st, acc => .ok acc st
  | d :: ds, st, acc => (g d st).noX.bind fun _ st1 => (t st1).noX.bind fun k st2 => if k then (e st2).noX.bind fun y st3 => if acc.length < 16777216 then compD g t e vs ds (wipeS st3 vs) (acc ++ [y]) else .fail
    else compD g t e vs ds (wipeS st2 vs) acc
def eLc (src : Sl → Res (List D)) (g : MG) (t : MT) (e : ME) (vs : List Nat) : ME := fun st => (src st).bind fun ds st1 => (compD g t e vs ds (wipeS st1 vs) []).bind fun acc st2 => .ok (.lst true acc) st2
def tYesM : MT := fun st => .ok true st

section
variable {ca : Nat → Addr} {K : PySem.W.Frag} {Hf H Hf1 H1 Hf2 H2 : Hp} {S S1 S2 P P1 P2 : Rg} {R R1 R2 : Nat → Rg} {pp qq : Prop} {σ σ' : L2.St} {st st' : Sl} {v : V} {d : D} {vs : List V} {ds : List D} {X : Cx} {L : List Nat}

theorem wipe_get {w : List Nat} {σ : L2.St} {i : Nat} : (wipe σ w)[i]? = if i ∈ w then (if i < σ.length then some none else none) else σ[i]? := by
  induction w with
  | nil => simp [wipe]
  | cons v w ih =>
    show ((wipe σ w).set v none)[i]? = _
    by_cases e : v = i
    · subst e
      rw [List.getElem?_set_self']
      simp only [List.mem_cons_self, if_true]
      by_cases h : v < σ.length
      · rw [if_pos h]
        have : v < (wipe σ w).length := by rw [wipe_length]; exact h
        rw [List.getElem?_eq_getElem this]; rfl
      · rw [if_neg h, List.getElem?_eq_none (by rw [wipe_length]; omega)]; rfl
    · rw [List.getElem?_set_ne e, ih]
      have : (i ∈ v :: w) = (i ∈ w) := by simp [List.mem_cons, Ne.symm e]
      simp only [this]
theorem wipe_eq {w : List Nat} (hl : σ'.length = σ.length) (h : ∀ i, i ∉ w → σ'[i]? = σ[i]?) : wipe σ' w = wipe σ w := by
  apply List.ext_getElem?
  intro i
  rw [wipe_get, wipe_get, hl]
  split
  · rfl
  · exact h i (by assumption)
/-- all places but w -/
def but (n : Nat) (w : List Nat) : List Nat := (List.range n).filter fun i => decide (i ∉ w)
theorem wipe_lk {w : List Nat} (k : Lk (but σ.length w) σ σ') : wipe σ' w = wipe σ w := wipe_eq k.1 fun i hi => by
  by_cases h : i < σ.length
  · exact k.2 i (List.mem_filter.mpr ⟨List.mem_range.mpr h, by simpa using hi⟩)
  · rw [List.getElem?_eq_none (by rw [k.1]; omega), List.getElem?_eq_none (by omega)]
theorem wipe_wipe {w : List Nat} : wipe (wipe σ w) w = wipe σ w := wipe_eq (wipe_length σ w) fun i hi => by rw [wipe_get, if_neg hi]
theorem wipeS_len {w : List Nat} {st : Sl} : (wipeS st w).length = st.length := by
  induction w with
  | nil => rfl
  | cons v w ih => show ((wipeS st w).set v none).length = _; rw [List.length_set, ih]
theorem wipeS_get {w : List Nat} {st : Sl} {i : Nat} (h : getS (wipeS st w) i = some d) : i ∉ w ∧ getS st i = some d := by
  induction w with
  | nil => exact ⟨by simp, h⟩
  | cons v w ih =>
    rcases set_get (show getS ((wipeS st w).set v none) i = some d from h) with ⟨h1, h2⟩ | ⟨h1, h2⟩
    · cases h2
    · obtain ⟨h3, h4⟩ := ih h2
      exact ⟨by simp [h3, Ne.symm h1], h4⟩
/-- the slots w forgotten, on both sides -/
theorem PR.wipe (w : List Nat) (p : PR ca K Hf H P pp R σ st) : PR ca K Hf H P pp R (wipe σ w) (wipeS st w) :=
  ⟨p.pend, by rw [wipeS_len, wipe_length]; exact p.len, fun i d e => by
    obtain ⟨h1, h2⟩ := wipeS_get e
    obtain ⟨v, e1, r⟩ := p.at_ i d h2
    exact ⟨v, by rw [wipe_get, if_neg h1]; exact e1, r⟩, p.dj, p.dp, p.w⟩
theorem PR.unwipe {w : List Nat} (p : PR ca K Hf H P pp R (L2.wipe σ w) st) : PR ca K Hf H P pp R σ st :=
  ⟨p.pend, by rw [p.len, wipe_length], fun i d e => by
    obtain ⟨v, e1, r⟩ := p.at_ i d e
    rw [wipe_get] at e1
    split at e1
    · split at e1 <;> cases e1
    · exact ⟨v, e1, r⟩, p.dj, p.dp, p.w⟩
/-- the new list, beside all -/
structure Acc (ca : Nat → Addr) (K : PySem.W.Frag) (Hf H : Hp) (Dl : Addr) (A : Rg) (acc : List D) (R : Nat → Rg) (σ : L2.St) (st : Sl) : Prop where
  pr : PR ca K Hf H (fun b => b = Dl ∨ A b) (∃ vs, H Dl = some (.lst vs) ∧ RepL ca K Hf H A vs acc ∧ ¬ A Dl) R σ st
theorem repL_snoc {A B : Rg} (r : RepL ca K Hf H A vs ds) (q : Rep ca K Hf H B v d) (dj : ∀ b, A b → B b → False) : RepL ca K Hf H (fun b => A b ∨ B b) (vs ++ [v]) (ds ++ [d]) :=
  repL_app' (S1 := A) (S2 := B) r (RepL.one q) (fun _ q => .inl q) (fun _ q => .inr q) dj

theorem eLc_src {src : Sl → Res (List D)} {g : MG} {t : MT} {e : ME} {w : List Nat} {Q : VK} (h : Post ca X Hf H S σ (eLc src g t e w st) Q) {Q' : It → Hp → Prop}
    (hk : ∀ ds st1 Hf1 H1 R1 J, Tr S Hf H (jn Em R1) Hf1 H1 → PR ca X.K Hf1 H1 Em True R1 σ st1 → ItD ca X.K J Hf1 ds → Post ca X Hf1 H1 (jn Em R1) σ ((compD g t e w ds (wipeS st1 w) []).bind fun acc st2 => .ok (.lst true acc) st2) Q → Q' J H1) : PostI ca X Hf H S σ (src st) Q' := by
  unfold eLc at h
  cases r : src st with
  | fail => rw [r] at h; exact h
  | exc x st1 => rw [r] at h; exact h
  | ok ds st1 =>
    rw [r] at h
    exact fun Hf1 H1 R1 J t1 p1 i1 => hk ds st1 Hf1 H1 R1 J t1 p1 i1 (Post.from t1 h)
/-- the reading of a list comprehension, from its parts' meanings in the blocks -/
theorem lc_read {wi : TI} {src : Sl → Res (List D)} {tg elt iter : Expr} {t : TG} {g : MG} {tt : TT} {mt : MT} {te : TE} {me : ME} {w : List Nat}
    (hi : CI ca X tg iter wi src)
    (hg : ∀ (Hf H : Hp) (P : Rg) (R : Nat → Rg) (σ : L2.St) (st : Sl) (v : V) (d : D) (Q : L2.St → Hp → Prop), PR ca X.K Hf H P (Rep ca X.K Hf H P v d) R σ st →
      (match g d st with
        | .ok _ st' => ∀ Hf' H' R' σ', Tr (jn P R) Hf H (jn Em R') Hf' H' → PR ca X.K Hf' H' Em True R' σ' st' → Lk (but σ.length w) σ σ' → Q σ' H'
        | _ => False) → t v σ H Q)
    (ht : ∀ (Hf H : Hp) (R : Nat → Rg) (σ : L2.St) (st : Sl) (Q : Bool → Hp → Prop), PR ca X.K Hf H Em True R σ st → (match mt st with
        | .ok k st' => ∀ Hf' H' R', Tr (jn Em R) Hf H (jn Em R') Hf' H' → PR ca X.K Hf' H' Em True R' σ st' → Q k H'
        | _ => False) → tt σ H Q)
    (he : ∀ (Hf H : Hp) (R : Nat → Rg) (σ : L2.St) (st : Sl) (Q : VK), PR ca X.K Hf H Em True R σ st → (match me st with
        | .ok d st' => ∀ Hf' H' P R' v, Tr (jn Em R) Hf H (jn P R') Hf' H' → PR ca X.K Hf' H' P (Rep ca X.K Hf' H' P v d) R' σ st' → Q v H'
        | _ => False) → te σ H Q)
    {Q : VK} (p : PR ca X.K Hf H Em True R σ st) (h : Post ca X Hf H (jn Em R) σ (eLc src g mt me w st) Q) : tLc wi t tt te w σ H Q := by
  refine hi.2 Hf H R σ st _ p (eLc_src h fun ds st1 Hf1 H1 R1 J t1 p1 it h1 => ?_)
  clear h t1 p
  intro Dl hD
  have hD1 : Hf1 Dl = none := (wl_new (o := .lst []) p1.w hD).2
  refine ⟨fun i m H' => m = ds.length - i ∧ i ≤ ds.length ∧ ∃ Hf' R' st' A acc, Tr (jn Em R1) Hf1 H1 (jn (fun b => b = Dl ∨ A b) R') Hf' H' ∧ Acc ca X.K Hf' H' Dl A acc R' (L2.wipe σ w) st' ∧ compD g mt me w (ds.drop i) st' acc = compD g mt me w ds (wipeS st1 w) [],
    ⟨ds.length, by simp, Nat.zero_le _, Hf1, R1, wipeS st1 w, Em, [], ?_, ⟨?_⟩, rfl⟩, ?_⟩
  · refine ⟨fun _ _ e => e, fun b o e _ => upd_keep hD b o e, fun b q => ?_, fun _ _ e => .inl e⟩
    rcases q with (q | q) | q
    · subst q; exact .inr hD
    · exact q.elim
    · exact .inl (.inr q)
  · have := (p1.wipe w).grow (o := .lst []) hD (P' := fun b => b = Dl ∨ Em b) (qq := ∃ vs, (upd H1 Dl (.lst [])) Dl = some (.lst vs) ∧ RepL ca X.K Hf1 (upd H1 Dl (.lst [])) Em vs [] ∧ ¬ Em Dl) ⟨[], upd_same, .nil, fun q => q⟩ (fun b q => q.elim id fun q => q.elim)
    exact this
  rintro i m H' ⟨rfl, hi', Hf', R', st', A, acc, t', ac, ef⟩
  have p' := ac.pr
  obtain ⟨g1, g2, g3⟩ := it Hf' H' t'.fx p'.w.ex p'.w.tp
  by_cases hlt : i < ds.length
  · refine .inr ⟨g1 i hlt, fun H2 => i + 1 ≤ ds.length ∧ ∃ Hf2 R2 st2 A2 acc2, Tr (jn Em R1) Hf1 H1 (jn (fun b => b = Dl ∨ A2 b) R2) Hf2 H2 ∧ Acc ca X.K Hf2 H2 Dl A2 acc2 R2 (L2.wipe σ w) st2 ∧ compD g mt me w (ds.drop (i + 1)) st2 acc2 = compD g mt me w ds (wipeS st1 w) [],
      fun H2 ⟨q1, q2⟩ => ⟨ds.length - (i + 1), by omega, rfl, q1, q2⟩, fun x H2 hy => ?_⟩
    obtain ⟨d, ed⟩ : ∃ d, ds[i]? = some d := ⟨ds[i], by simp [hlt]⟩
    obtain ⟨hd, Hf2, x1, x2, x3, x4, x5, rx⟩ := g3 i d x H2 ed hy
    obtain ⟨p2, t2⟩ := p'.drop.yield x1 x2 x3 x4 x5
    have edr : ds.drop i = d :: ds.drop (i + 1) := by
      rw [List.drop_eq_getElem_cons
          hlt]
      simp only [List.getElem?_eq_getElem hlt, Option.some.injEq] at ed
      rw [ed]
    rw [edr, compD] at ef
    have hnf : compD g mt me w ds (wipeS st1 w) [] = .fail → False := fun z => by rw [z] at h1; exact h1
    -- the new list is beside the slots, all the way
    obtain ⟨vs0, eD, rA, nA⟩ := p'.pend
    refine hg Hf2 H2 Em R' (L2.wipe σ w) st' x d _ (p2.put rx) ?_
    cases eg : g d st' with
    | fail => rw [eg] at ef; exact hnf ef.symm
    | exc x0 st2 => rw [eg] at ef; exact hnf ef.symm
    | ok a st2 =>
      rw [eg] at ef
      intro Hf3 H3 R3 σ3 t3 p3 k3
      have ew : L2.wipe σ3 w = L2.wipe σ w := by rw [wipe_lk k3, wipe_wipe]
      refine ⟨ew, ?_⟩
      refine ht Hf3 H3 R3 σ3 st2 _ p3 ?_
      dsimp only [Res.bind, Res.noX] at ef
      cases et : mt st2 with
      | fail => rw [et] at ef; exact hnf ef.symm
      | exc x0 st4 => rw [et] at ef; exact hnf ef.symm
      | ok k st4 =>
        rw [et] at ef
        dsimp only at ef
        intro Hf4 H4 R4 t4 p4
        have tA := (t2.trans t3).trans t4
        have pAcc : PR ca X.K Hf' H' (fun b => b = Dl ∨ A b) True R' (L2.wipe σ w) st' := p'.imp fun _ => trivial
        cases k with
        | false =>
          show _ ≤ _ ∧ _
          rw [if_neg (by decide)] at ef
          obtain ⟨c1, c2, c3, c4, c5⟩ := PR.carry (ppf := fun _ _ => True) pAcc tA p4
          refine ⟨by omega, Hf4, R4, wipeS st4 w, A, acc, (t'.trans c5).less (fun b q => ?_), ⟨?_⟩, ef⟩
          · rcases q with q | q
            · exact .inl (.inl q)
            · exact .inr q
          · have p5 : PR ca X.K Hf4 H4 (fun b => b = Dl ∨ A b) (∃ vs, H4 Dl = some (.lst vs) ∧ RepL ca X.K Hf4 H4 A vs acc ∧ ¬ A Dl) R4 σ3 st4 :=
              ⟨⟨vs0, c1 Dl (.inl rfl) _ eD, rA.keep tA.fx (fun b q => c1 b (.inr q)), nA⟩, p4.len, p4.at_, p4.dj, c3, c4.mono fun b q => by
                rcases q with q | q
                · exact .inl (.inl q)
                · exact .inr q⟩
            have := p5.wipe w
            rw [ew] at this
            exact this
        | true =>
          show te σ3 H4 _
          rw [if_pos rfl] at ef
          refine he Hf4 H4 R4 σ3 st4 _ p4 ?_
          cases ee : me st4 with
          | fail => rw [ee] at ef; exact hnf ef.symm
          | exc x0 st5 => rw [ee] at ef; exact hnf ef.symm
          | ok y st5 =>
            rw [ee] at ef
            dsimp only at ef
            intro Hf5 H5 P5 R5 vy t5 p5
            obtain ⟨c1, c2, c3, c4, c5⟩ := PR.carry (ppf := fun _ _ => True) pAcc (tA.trans t5) p5
            by_cases hl : acc.length < 16777216
            · rw [if_pos hl] at ef
              have eD5 := c1 Dl (.inl rfl) _ eD
              have rA5 := rA.keep (tA.trans t5).fx (fun b q => c1 b (.inr q))
              refine ⟨vs0, eD5, by rw [rA.length, ← sz_eq]; exact hl, by omega, Hf5, R5, wipeS st5 w, fun b => A b ∨ P5 b, acc ++ [y], ?_, ⟨?_⟩, ef⟩
              · refine ((t'.trans c5).trans ⟨fun _ _ e => e, fun b o e n => ?_, fun b q => .inl q, fun _ _ e => .inl e⟩).less fun b q => ?_
                · rw [upd_ne fun z => n (.inl (.inl (.inl z)))]; exact e
                · rcases q with (q | q | q) | q
                  · exact .inl (.inl (.inl q))
                  · exact .inl (.inl (.inr q))
                  · exact .inl (.inr q)
                  · exact .inr q
              · have hnD : ∀ b, (A b ∨ P5 b) → b ≠ Dl := fun b q z => by
                  subst z
                  rcases q with q | q
                  · exact nA q
                  · exact c2 b (.inl rfl) q
                have hk : ∀ b o, b ≠ Dl → H5 b = some o → upd H5 Dl (.lst (vs0 ++ [vy])) b = some o := fun b o n e => by rw [upd_ne n]; exact e
                have rN := (repL_snoc rA5 p5.pend fun b q1 q2 => c2 b (.inr q1) q2).keep (H' := upd H5 Dl (.lst (vs0 ++ [vy]))) (fun _ _ e => e) fun b q o e => hk b o (hnD b q) e
                have p6 : PR ca X.K Hf5 (upd H5 Dl (.lst (vs0 ++ [vy]))) (fun b => b = Dl ∨ A b ∨ P5 b) (∃ vs, (upd H5 Dl (.lst (vs0 ++ [vy]))) Dl = some (.lst vs) ∧ RepL ca X.K Hf5 (upd H5 Dl (.lst (vs0 ++ [vy]))) (fun b => A b ∨ P5 b) vs (acc ++ [y]) ∧ ¬ (A Dl ∨ P5 Dl)) R5 σ3 st5 :=
                  ⟨⟨_, upd_same, rN, fun q => hnD Dl q rfl⟩, p5.len, fun k d e => by
                    obtain ⟨v, e1, r⟩ := p5.at_ k d e
                    exact ⟨v, e1, r.keep (fun _ _ e => e) fun b q o e => hk b o (fun z => c3 k b (.inl z) q) e⟩, p5.dj, fun k b q1 q2 => by
                    rcases q1 with q | q | q
                    · exact c3 k b (.inl q) q2
                    · exact c3 k b (.inr q) q2
                    · exact p5.dp k b q q2, ⟨fun b o e => by
                      by_cases z : b = Dl
                      · subst z
                        have := c4.nf b (.inl (.inl (.inl rfl)))
                        rw [this] at e; cases e
                      · exact hk b o z (c4.ex b o e), fun b q => by
                      by_cases z : b = Dl
                      · subst z; exact ⟨_, upd_same⟩
                      · obtain ⟨o, e⟩ := c4.dm b (by
                          rcases q with (q | q | q) | q
                          · exact .inl (.inl (.inl q))
                          · exact .inl (.inl (.inr q))
                          · exact .inl (.inr q)
                          · exact .inr q)
                        exact ⟨o, hk b o z e⟩, fun b q => c4.nf b (by
                          rcases q with (q | q | q) | q
                          · exact .inl (.inl (.inl q))
                          · exact .inl (.inl (.inr q))
                          · exact .inl (.inr q)
                          · exact .inr q), mkTp⟩⟩
                have := p6.wipe w
                rw [ew] at this
                exact this
            · rw [if_neg hl] at ef; exact (hnf ef.symm).elim
  · have e1 : i = ds.length := by omega
    subst e1
    refine .inl ⟨g2, ?_⟩
    rw [List.drop_length, compD] at ef
    rw [← ef] at h1
    have h2 : Post ca X Hf1 H1 (jn Em R1) σ (.ok (.lst true acc) st') Q := h1
    obtain ⟨vs0, eD, rA, nA⟩ := p'.pend
    exact h2 Hf' H' (fun b => b = Dl ∨ A b) R' (.ref Dl) t' ((p'.unwipe).imp fun _ => .lstO (.inl rfl) eD (rA.mono fun b q => ⟨.inr q, fun z => nA (z ▸ q)⟩))

/-- a reading keeps a meaning -/
def CER (ca : Nat → Addr) (X : Cx) (te : TE) (m : ME) : Prop := ∀ (Hf H : Hp) (R : Nat → Rg) (σ : L2.St) (st : Sl) (Q : VK), PR ca X.K Hf H Em True R σ st → Post ca X Hf H (jn Em R) σ (m st) Q → te σ H Q
theorem ce_of {e : Expr} {te : TE} {m : ME} (hp : PE X e te) (h : CER ca X te m) : CE ca X e m := fun Hf H R σ st Q p hq => we_of hp (h Hf H R σ st Q p hq)
theorem cs_asgR {s : Stmt} {te : TE} {m : ME} {t : TG} {tg : Expr} {g : MG} (he : CER ca X te m) (hg : CG ca X L tg t g) (hp : PS X s (tAsg te t)) : CS ca X L s (sAsg m g) := fun Hf H R σ st E p h => by
  refine ws_of hp (he Hf H R σ st _ p ?_)
  refine post_toS h fun d st1 Hf1 H1 P1 R1 v e1 t1 p1 h1 => ?_
  refine hg.2 Hf1 H1 P1 R1 σ st1 v d _ p1 ?_
  cases eg : g d st1 with
  | fail => rw [eg] at h1; exact h1
  | exc x st2 => rw [eg] at h1; exact h1
  | ok a st2 =>
    rw [eg] at h1
    exact fun Hf2 H2 R2 σ2 t2 p2 k2 => h1 Hf2 H2 R2 σ2 t2 p2 k2
theorem not_but {n i : Nat} {w : List Nat} (h : i ∈ w) : i ∉ but n w := fun q => by
  have := (List.mem_filter.mp q).2
  simp at this
  exact this h
/-- the block of a comprehension -/
abbrev bk (X : Cx) (scope : Scope) (s : Shared) (H : Hp) (C : Addr) (cl : List (Str × Addr)) (fp : List Addr) : Cx := X.blk s H scope (compEnvC scope cl C X.env) fp
def TeB (X : Cx) (scope : Scope) (e : Expr) : TE := fun σ H Q => ∀ s H0 C cl fp, We (bk X scope s H0 C cl fp) e σ H Q
def TtB (X : Cx) (scope : Scope) (e : Expr) : TT := fun σ H Q => ∀ s H0 C cl fp, Wt (bk X scope s H0 C cl fp) e σ H Q
theorem lc_cer {wi : TI} {src : Sl → Res (List D)} {tg elt iter : Expr} {scope : Scope} {t : TG} {g : MG} {me : ME} {w : List Nat}
    (hi : CI ca X tg iter wi src) (hg : ∀ n s H C cl fp, CG ca (bk X scope s H C cl fp) (but n w) tg t g) (he : ∀ s H C cl fp, CE ca (bk X scope s H C cl fp) elt me) : CER ca X (tLc wi t tYes (TeB X scope elt) w) (eLc src g tYesM me w) :=
  fun Hf H R σ st Q p h => lc_read (elt := elt) (mt := tYesM) hi (fun Hf H P R σ st v d Q p h => (hg σ.length {} H 0 [] []).2 Hf H P R σ st v d Q p h) (fun Hf H R σ st Q p h => h Hf H R (Tr.refl fun _ q => q) p)
    (fun Hf H R σ st Q p h s H0 C cl fp => he s H0 C cl fp Hf H R σ st Q p (by
      cases e : me st with
      | ok d st1 => rw [e] at h; exact h
      | exc x st1 => rw [e] at h; exact h.elim
      | fail => rw [e] at h; exact h)) p h
theorem lc_cerIf {wi : TI} {src : Sl → Res (List D)} {tg elt iter c : Expr} {scope : Scope} {t : TG} {g : MG} {me : ME} {mt : MT} {w : List Nat}
    (hi : CI ca X tg iter wi src) (hg : ∀ n s H C cl fp, CG ca (bk X scope s H C cl fp) (but n w) tg t g) (ht : ∀ s H C cl fp, CT ca (bk X scope s H C cl fp) c mt) (he : ∀ s H C cl fp, CE ca (bk X scope s H C cl fp) elt me) : CER ca X (tLc wi t (TtB X scope c) (TeB X scope elt) w) (eLc src g mt me w) :=
  fun Hf H R σ st Q p h => lc_read (elt := elt) (mt := mt) hi (fun Hf H P R σ st v d Q p h => (hg σ.length {} H 0 [] []).2 Hf H P R σ st v d Q p h) (fun Hf H R σ st Q p h s H0 C cl fp => ht s H0 C cl fp Hf H R σ st Q p (by
      cases e : mt st with
      | ok d st1 => rw [e] at h; exact h
      | exc x st1 => rw [e] at h; exact h.elim
      | fail => rw [e] at h; exact h))
    (fun Hf H R σ st Q p h s H0 C cl fp => he s H0 C cl fp Hf H R σ st Q p (by
      cases e : me st with
      | ok d st1 => rw [e] at h; exact h
      | exc x st1 => rw [e] at h; exact h.elim
      | fail => rw [e] at h; exact h)) p h
theorem pe_teB {scope : Scope} {elt : Expr} : ∀ (s : Shared) (H : Hp) (C : Addr) (cl : List (Str × Addr)) (fp : List Addr), PE (bk X scope s H C cl fp) elt (TeB X scope elt) := fun s H C cl fp => ⟨fun pins s1 σ H1 Q I h => h s H C cl fp pins s1 I⟩
theorem pt_ttB {scope : Scope} {c : Expr} : ∀ (s : Shared) (H : Hp) (C : Addr) (cl : List (Str × Addr)) (fp : List Addr), PTs (bk X scope s H C cl fp) [c] (TtB X scope c) := fun s H C cl fp => pts_one ⟨fun pins s1 σ H1 Q I h => h s H C cl fp pins s1 I⟩
/-- [elt for tg in iter] -/
theorem ce_lc {wi : TI} {src : Sl → Res (List D)} {tg elt iter : Expr} {scope : Scope} {own : List (Str × Nat)} {pos : Pos} {t : TG} {g : MG} {me : ME} (hc : X.calm = true) (hN : X.N.Nodup) (hi : CI ca X tg iter wi src) (ok : BlkOk X.N X.env.scope scope own)
    (hg : ∀ n s H C cl fp, CG ca (bk X scope s H C cl fp) (but n (own.map (·.2))) tg t g) (he : ∀ s H C cl fp, CE ca (bk X scope s H C cl fp) elt me) (hs : ∀ x, foldedSetIterable iter X.env x = pure x := by intro _; rfl) :
    CE ca X (.ListComp elt [⟨tg, iter, [], 0⟩] scope pos) (eLc src g tYesM me (own.map (·.2))) :=
  ce_of (pe_lc hc hN hi.1 ok (fun s H C cl fp => (hg 0 s H C cl fp).1) (fun _ _ _ _ _ => pts_nil) pe_teB hs) (lc_cer hi hg he)
theorem ce_lcIf {wi : TI} {src : Sl → Res (List D)} {tg elt iter c : Expr} {scope : Scope} {own : List (Str × Nat)} {pos : Pos} {t : TG} {g : MG} {me : ME} {mt : MT} (hc : X.calm = true) (hN : X.N.Nodup) (hi : CI ca X tg iter wi src) (ok : BlkOk X.N X.env.scope scope own)
    (hg : ∀ n s H C cl fp, CG ca (bk X scope s H C cl fp) (but n (own.map (·.2))) tg t g) (ht : ∀ s H C cl fp, CT ca (bk X scope s H C cl fp) c mt) (he : ∀ s H C cl fp, CE ca (bk X scope s H C cl fp) elt me) (hs : ∀ x, foldedSetIterable iter X.env x = pure x := by intro _; rfl) :
    CE ca X (.ListComp elt [⟨tg, iter, [c], 0⟩] scope pos) (eLc src g mt me (own.map (·.2))) :=
  ce_of (pe_lc hc hN hi.1 ok (fun s H C cl fp => (hg 0 s H C cl fp).1) pt_ttB pe_teB hs) (lc_cerIf hi hg ht he)
theorem cs_setLcIf {i : Nat} {y : Str} {py spos : Pos} {wi : TI} {src : Sl → Res (List D)} {tg elt iter c : Expr} {scope : Scope} {own : List (Str × Nat)} {pos : Pos} {t : TG} {g : MG} {me : ME} {mt : MT} (hc : X.calm = true) (hN : X.N.Nodup) (hy : X.N[i]? = some y) (hyl : X.env.scope.names.lookup y = some .local) (hL : i ∉ L) (hpg : PG X (.Name y py) (gName i))
    (hsw : swapsWith (.ListComp elt [⟨tg, iter, [c], 0⟩] scope pos) (some (.Name y py)) spos.line X.env = pure true) (hi : CI ca X tg iter wi src) (ok : BlkOk X.N X.env.scope scope own)
    (hg : ∀ n s H C cl fp, CG ca (bk X scope s H C cl fp) (but n (own.map (·.2))) tg t g) (ht : ∀ s H C cl fp, CT ca (bk X scope s H C cl fp) c mt) (he : ∀ s H C cl fp, CE ca (bk X scope s H C cl fp) elt me) (hs : ∀ x, foldedSetIterable iter X.env x = pure x := by intro _; rfl) :
    CS ca X L (.Assign [.Name y py] (.ListComp elt [⟨tg, iter, [c], 0⟩] scope pos) spos) (sAsg (eLc src g mt me (own.map (·.2))) (gN i)) :=
  cs_asgR (lc_cerIf hi hg ht he) (cg_name hpg hL) (ps_setLc hc hN hy hyl hsw hi.1 ok (fun s H C cl fp => (hg 0 s H C cl fp).1) pt_ttB pe_teB hs)

/-! ### list(range(..)) -/
def rgOk (a b : Int) : Bool := decide (-(2 ^ 62) ≤ a ∧ a < 2 ^ 62 ∧ -(2 ^ 62) ≤ b ∧ b < 2 ^ 62 ∧ (b - a).toNat ≤ 16777216)
def oLRg1 : List D → Option Out
  | [.int j] => if rgOk 0 j then some (.newL (rangeD 0 j.toNat)) else none
  | _ => none
theorem repL_rangeD : ∀ (n k : Nat) (lo : Int), RepL ca K Hf H Em ((List.range' k n).map fun i => V.int (lo + (i : Nat))) ((List.range' k n).map fun i => D.int (lo + (i : Nat)))
  | 0, _, _ => .nil
  | n + 1, k, lo => by
    rw [List.range'_succ, List.map_cons, List.map_cons]
    exact .cons (S1 := Em) (S2 := Em) .int (repL_rangeD n (k + 1) lo) (fun _ q => q) (fun _ q => q) fun _ q _ => q
theorem rgOk_ok {a b : Int} (h : rgOk a b = true) : RgOk a b := by
  have := of_decide_eq_true h
  exact ⟨this.1, this.2.1, this.2.2.1, this.2.2.2.1, by have := this.2.2.2.2; omega⟩
theorem ce_listRg1 {a : Expr} {oa : Opd} {p p2 pos pos2 : Pos} (hc : X.calm = true) (hg : Gl X "list") (hm : X.mg "list" = none) (hg2 : Gl X "range") (hm2 : X.mg "range" = none) (ha : CO ca X a oa)
    (na : starEach [.Call (.Name "range" p2) [a] [] pos2] X.env = (false, eval (.Call (.Name "range" p2) [a] [] pos2) X.env) :: starEach [] X.env := by rfl)
    (n1 : starEach [a] X.env = (false, eval a X.env) :: starEach [] X.env := by rfl) :
    CE ca X (.Call (.Name "list" p) [.Call (.Name "range" p2) [a] [] pos2] [] pos) (eOp oLRg1 [oa]) :=
  ce_op (es := [a]) (rl := rl1 fun y H Q => ∃ j, y = .int j ∧ RgOk 0 j ∧ ∀ q, H q = none → Q (.ref q) (upd H q (.lst (rgV 0 j)))) (fun σ H Q h => we_of (pe_listRg hc hg hm (prg_1 hg2 hm2 (we_pe X a) n1) na) h) (.cons ha .nil) fun Hf H vs ds o Q hx rd h q => by
    match ds, h with
    | [.int j], h =>
      dsimp only [oLRg1] at h
      split at h
      · rename_i c
        cases h
        obtain ⟨v, S, e1, r1⟩ := rdl1 rd rfl
        subst e1
        refine ⟨j, rep_int r1, rgOk_ok c, fun p hp => q p _ hp ?_⟩
        unfold rgV rangeD
        simp only [List.range_eq_range', Int.sub_zero]
        exact repL_rangeD _ _ _
      · cases h
end
end DL

/-! DL10: slices; methods of lists; is of truth values. -/
namespace DL
open PySem L2 PyProof.Rows

def cutO (lo hi : Option Int) : List D → Option Out
  | [x] => match lstItems x with
    | some xs => newLc (cutD xs lo hi)
    | none => none
  | _ => none
def oSl01 : List D → Option Out
  | [x, .int b] => cutO none (some b) [x]
  | _ => none
def oRev : List D → Option Out
  | [x] => match lstItems x with
    | some xs => newLc xs.reverse
    | none => none
  | _ => none
def oIsB : List D → Option Out
  | [.bl a, .bl b] => some (.val (.bl (decide (a = b))))
  | _ => none
def oNotB : List D → Option Out
  | [.bl a, .bl b] => some (.val (.bl (!decide (a = b))))
  | _ => none
def isLst (d : D) : Bool := (lstItems d).isSome
/-- a method that only looks: the receiver a slot -/
def eMt (i : Nat) (f : List D → Option Out) (os : List Opd) : ME := fun st => match getS st i with
  | some d0 => if isLst d0 then opds os st fun gs st2 => (match (getS st2 i).bind fun x => (gs st2).bind fun ys => f (x :: ys) with
    | some o => .ok o.d st2
    | none => .fail) else .fail
  | none => .fail
/-- xs.append(e), xs the slot i's own list -/
def eApp (i : Nat) (m : ME) : ME := fun st => match getS st i with
  | some d0 => if isLst d0 then (m st).bind fun d st1 => (match getS st1 i with
    | some (.lst true xs) => if xs.length < 16777216 then .ok .non (st1.set i (some (.lst true (xs ++ [d])))) else .fail
    | _ => .fail) else .fail
  | none => .fail
def ext2 : Option D → D → Option (List D)
  | some (.lst true xs), .lst _ ys => if colds ys && decide (xs.length + ys.length ≤ 16777216) then some (xs ++ ys) else none
  | _, _ => none
/-- xs.extend(e) -/
def eExt (i : Nat) (m : ME) : ME := fun st => match getS st i with
  | some d0 => if isLst d0 then (m st).bind fun d st1 => (match ext2 (getS st1 i) d with
    | some zs => .ok .non (st1.set i (some (.lst true zs)))
    | none => .fail) else .fail
  | none => .fail
section
variable {ca : Nat → Addr} {K : PySem.W.Frag} {Hf H Hf1 H1 Hf2 H2 : Hp} {S S1 S2 P P1 P2 : Rg} {R R1 R2 : Nat → Rg} {pp qq : Prop} {σ σ' : L2.St} {st st' : Sl} {v : V} {d : D} {vs : List V} {ds xs : List D} {X : Cx} {L : List Nat}

/-! ### slices of lists -/
theorem repL_cut {lo hi : Option Int} (r : RepL ca K Hf H S vs xs) (hc : colds (cutD xs lo hi) = true) : RepL ca K Hf H Em (cutV vs lo hi) (cutD xs lo hi) := by
  have rd : ∀ (n : Nat) {S : Rg} {vs : List V} {xs : List D}, RepL ca K Hf H S vs xs → RepL ca K Hf H S (vs.drop n) (xs.drop n) := by
    intro n
    induction n with
    | zero => intro S vs xs r; exact r
    | succ n ih =>
      intro S vs xs r
      cases r with
      | nil => exact .nil
      | cons r1 r2 h1 h2 h3 => exact (ih r2).mono h2
  have rt : ∀ (n : Nat) {S : Rg} {vs : List V} {xs : List D}, RepL ca K Hf H S vs xs → RepL ca K Hf H S (vs.take n) (xs.take n) := by
    intro n
    induction n with
    | zero => intro S vs xs r; exact .nil
    | succ n ih =>
      intro S vs xs r
      cases r with
      | nil => exact .nil
      | cons r1 r2 h1 h2 h3 => exact .cons r1 (ih r2) h1 h2 h3
  refine repL_cold (S := S) ?_ hc
  unfold cutV cutD
  rw [r.length]
  exact rt _ (rd _ r)
theorem os_cut {lo hi : Option Int} {x : D} {o : Out} {Q : VK} (hx : Ex Hf H) (r1 : Rep ca K Hf H S v x) (h : cutO lo hi [x] = some o) (q : OutQ ca K Hf H o Q) : rSlL K v lo hi H Q := by
  dsimp only [cutO] at h
  split at h
  · rename_i xs ei
    obtain ⟨rfl, hc, hl⟩ := newLc_some h
    obtain ⟨a, vs, T, rfl, e2, r3⟩ := rep_lstItems hx r1 ei
    exact ⟨a, vs, rfl, e2, fun p hp => q p _ hp (repL_cut r3 hc)⟩
  · cases h
/-- xs[::-1] -/
theorem repL_rev (r : RepL ca K Hf H Em vs xs) : RepL ca K Hf H Em vs.reverse xs.reverse := by
  induction xs generalizing vs with
  | nil => cases r; exact .nil
  | cons d ds ih =>
    cases r with
    | cons r1 r2 h1 h2 h3 =>
      rw [List.reverse_cons,
          List.reverse_cons]
      exact repL_app' (S1 := Em) (S2 := Em) (ih (r2.mono h2)) (RepL.one (r1.mono h1)) (fun _ q => q) (fun _ q => q) fun _ q _ => q
theorem colds_rev (h : colds xs.reverse = true) : colds xs = true := by
  unfold colds at h ⊢
  rw [List.all_reverse] at h; exact h
theorem os_isB : OpS ca K (rl2 rIsB) oIsB := fun Hf H vs ds o Q hx rd h q => by
  match ds, h with
  | [.bl i, .bl j], h =>
    cases h
    obtain ⟨v, w, S, S', e1, r1, r2⟩ := rdl2 rd rfl
    subst e1
    exact ⟨i, j, rep_bl r1, rep_bl r2, q _ .bl⟩
/-! ### methods that look -/
theorem rep_isLst (hx : Ex Hf H) (r : Rep ca K Hf H S v d) (h : isLst d = true) : tyV K "list" v H := by
  obtain ⟨xs, e⟩ := Option.isSome_iff_exists.mp h
  obtain ⟨a, vs, T, rfl, e2, r3⟩ := rep_lstItems hx r e
  exact .inl ⟨rfl, vs, e2⟩
/-! ### methods that write -/
theorem ce_app {o e : Expr} {i : Nat} {m : ME} {apos cpos : Pos} (ho : PE X o (tVar i)) (he : CE ca X e m)
    (hbase : attributeBase o "append" X.env (eval o X.env) = eval o X.env := by rfl)
    (hfew : ((backTo cpos (starEach [e] X.env)).all (fun x => !x.1) &&
        (backToKw cpos (keywordEach [] X.env)).all (fun x => x.1.isSome)
      && decide ([e].length + ([] : List Keyword).length + (if ([] : List Keyword).isEmpty then 0 else 1) < 30)) = true := by rfl)
    (hline : (apos.endLine == cpos.line) = true := by rfl) (hs : starEach [e] X.env = (false, eval e X.env) :: starEach [] X.env := by rfl) :
    CE ca X (.Call (.Attribute o "append" apos) [e] [] cpos) (eApp i m) := fun Hf H R σ st Q p h => by
  refine we_of (pe_bm PySem.F.plainAttrs_list PySem.F.slot_list_append PySem.F.type_list_append mt_append ho (pa_cons (we_pe X e) pa_nil hs) hbase hfew hline hs rfl) ?_
  unfold eApp at h
  cases g : getS st i with
  | none => rw [g] at h; exact h.elim
  | some d0 =>
    rw [g] at h
    dsimp only at h
    by_cases hl : isLst d0 = true
    · rw [if_pos hl] at h
      obtain ⟨x, ex, rx⟩ := p.at_ i d0 g
      refine ⟨x, ex, rep_isLst p.w.ex rx hl, he Hf H R σ st _ p ?_⟩
      cases em : m st with
      | fail => rw [em] at h; exact h
      | exc x0 st1 => rw [em] at h; exact h
      | ok d st1 =>
        rw [em] at h
        have h0 : Post ca X Hf H (jn Em R) σ (match getS st1 i with
          | some (.lst true xs) => if xs.length < 16777216 then .ok .non (st1.set i (some (.lst true (xs ++ [d])))) else .fail
          | _ => .fail) Q := h
        clear h
        intro Hf1 H1 P1 R1 v t1 p1
        cases g1 : getS st1 i with
        | none => rw [g1] at h0; exact h0.elim
        | some dx =>
          rw [g1] at h0
          cases dx with
          | lst ow xs =>
            cases ow with
            | false => exact h0.elim
            | true =>
              dsimp only at h0
              by_cases hz : xs.length < 16777216
              · rw [if_pos hz] at h0
                obtain ⟨a, vs, e1, ra, e2, r2⟩ := p1.drop.ownList g1
                rw [ex] at e1
                cases e1
                refine ⟨a, vs, v, rfl, rfl, e2, by rw [r2.length, ← sz_eq]; exact hz, ?_⟩
                have hk : ∀ b o, b ≠ a → H1 b = some o → upd H1 a (.lst (vs ++ [v])) b = some o := fun b o n e => by rw [upd_ne n]; exact e
                have hPa : ∀ b, P1 b → b ≠ a := fun b q z => by subst z; exact p1.dp i b q ra
                have rN := (repL_snoc r2 p1.pend fun b q1 q2 => p1.dp i b q2 q1.1).keep (H' := upd H1 a (.lst (vs ++ [v]))) (fun _ _ e => e) fun b q o e => hk b o (q.elim (fun q => q.2) (hPa b)) e
                refine h0 Hf1 (upd H1 a (.lst (vs ++ [v]))) Em (fun j b => if j = i then R1 i b ∨ P1 b else R1 j b) .non (t1.trans ⟨fun _ _ e => e, fun b o e n => hk b o (fun z => n (.inr ⟨i, z ▸ ra⟩)) e, fun b q => ?_, fun _ _ e => .inl e⟩) ⟨.non, by rw [List.length_set]; exact p1.len, fun j d' e => ?_, fun j k b q1 q2 => ?_, fun _ _ q => q.elim, ⟨fun b o e => ?_, fun b q => ?_, fun b q => ?_, mkTp⟩⟩
                · rcases q with q | ⟨j, q⟩
                  · exact q.elim
                  · split at q
                    · exact .inl (q.elim (fun q => .inr ⟨i, q⟩) .inl)
                    · exact .inl (.inr ⟨j, q⟩)
                · rcases set_get e with ⟨q1, q2⟩ | ⟨q1, q2⟩
                  · subst q1
                    cases q2
                    refine ⟨_, ex, ?_⟩
                    rw [show (fun b => if i = i then R1 i b ∨ P1 b else R1 i b) = (fun b => R1 i b ∨ P1 b) from by funext b; rw [if_pos rfl]]
                    exact .lstO (.inl ra) upd_same (rN.mono fun b q => q.elim (fun q => ⟨.inl q.1, q.2⟩) fun q => ⟨.inr q, hPa b q⟩)
                  · obtain ⟨v', e3, r3⟩ := p1.at_ j d' q2
                    refine ⟨v', e3, ?_⟩
                    rw [show (fun b => if j = i then R1 i b ∨ P1 b else R1 j b) = R1 j from by funext b; rw [if_neg (Ne.symm q1)]]
                    exact r3.keep (fun _ _ e => e) fun b q o e => hk b o (fun z => q1 (p1.dj i j a ra (z ▸ q))) e
                · split at q1 <;> split at q2
                  · rename_i z1 z2; exact z1.trans z2.symm
                  · rename_i z1 z2
                    rcases q1 with q1 | q1
                    · exact z1.trans (p1.dj i k b q1 q2)
                    · exact (p1.dp k b q1 q2).elim
                  · rename_i z1 z2
                    rcases q2 with q2 | q2
                    · exact (p1.dj j i b q1 q2).trans z2.symm
                    · exact (p1.dp j b q2 q1).elim
                  · exact p1.dj j k b q1 q2
                · have hf : Hf1 a = none := p1.w.nf a (.inr ⟨i, ra⟩)
                  have := p1.w.ex b o e
                  exact hk b o (fun z => by subst z; rw [hf] at e; cases e) this
                · have : jn P1 R1 b := by
                    rcases q with q | ⟨j, q⟩
                    · exact q.elim
                    · split at q
                      · exact q.elim (fun q => .inr ⟨i, q⟩) .inl
                      · exact .inr ⟨j, q⟩
                  obtain ⟨o, e⟩ := p1.w.dm b this
                  by_cases z : b = a
                  · subst z; exact ⟨_, upd_same⟩
                  · exact ⟨o, hk b o z e⟩
                · have : jn P1 R1 b := by
                    rcases q with q | ⟨j, q⟩
                    · exact q.elim
                    · split at q
                      · exact q.elim (fun q => .inr ⟨i, q⟩) .inl
                      · exact .inr ⟨j, q⟩
                  exact p1.w.nf b this
              · rw [if_neg hz] at h0; exact h0.elim
          | _ => exact h0.elim
    · rw [if_neg hl] at h; exact h.elim
end
end DL

/-! DL11: instances: made, their fields stored and read, properties, methods. -/
namespace DL
open PySem L2 PyProof.Rows

/-- C(..): a new instance goes to __init__ (f), which keeps its parameter 0 -/
def eMake (C : Nat) (f : MF) (ms : MA) : ME := fun st => (ms st).bind fun ds st1 => match f (.ins true C [] :: ds) with
  | .ok .non ps => (match getS ps 0 with
    | some d => .ok d st1
    | none => .fail)
  | .exc x _ => .exc x st1
  | _ => .fail
def putD (f : Str) (d : D) : List (Str × D) → List (Str × D)
  | [] => [(f, d)]
  | (g, x) :: r => if g = f then (g, d) :: r else (g, x) :: putD f d r
/-- self.f = e, self the slot i's own instance of the class C -/
def sFldM (C i : Nat) (f : Str) (m : ME) : MS := fun st => (m st).toS fun d st1 => match getS st1 i with
  | some (.ins true C' fs) => if C' = C ∧ fs.length < 1000 ∧ cold d = true then .next (st1.set i (some (.ins true C' (putD f d fs)))) else .fail
  | _ => .fail
/-- o.f -/
def oFld (C : Nat) (f : Str) : List D → Option Out
  | [.ins _ C' fs] => if C' = C then (match fs.lookup f with
    | some d => if cold d then some (.val d) else none
    | none => none) else none
  | _ => none

section
variable {ca : Nat → Addr} {K : PySem.W.Frag} {Hf H Hf1 H1 Hf2 H2 : Hp} {S S1 S2 P P1 P2 : Rg} {R R1 R2 : Nat → Rg} {pp qq : Prop} {σ σ' : L2.St} {st st' : Sl} {v : V} {d : D} {vs : List V} {ds xs : List D} {X : Cx} {L : List Nat}

/-! ### reading a field -/
theorem lookup_keys {α β : Type} : ∀ {fs : List (Str × α)} {gs : List (Str × β)} {f : Str} {j : Nat} {b : β}, fs.map (·.1) = gs.map (·.1) → gs.lookup f = some b → ∃ (j : Nat) (a : α), fs.lookup f = some a ∧ (fs.map (·.2))[j]? = some a ∧ (gs.map (·.2))[j]? = some b
  | [], [], _, _, _, _, h => by cases h
  | [], _ :: _, _, _, _, e, _ => by cases e
  | _ :: _, [], _, _, _, e, _ => by cases e
  | (x, a) :: fs, (y, b') :: gs, f, j, b, e, h => by
    simp only [List.map_cons,
        List.cons.injEq] at e
    obtain ⟨rfl, e⟩ := e
    rw [List.lookup_cons] at h ⊢
    cases hq : (f == x) with
    | true =>
      rw [hq] at h
      cases h
      exact ⟨0, a, rfl, rfl, rfl⟩
    | false =>
      rw [hq] at h
      obtain ⟨k, a', h1, h2, h3⟩ := lookup_keys (j := 0) e h
      exact ⟨k + 1, a', h1, by simpa using h2, by simpa using h3⟩
theorem rep_ins {o : Bool} {C : Nat} {gs : List (Str × D)} (hx : Ex Hf H) (r : Rep ca K Hf H S v (.ins o C gs)) : ∃ a dx fs T, v = .ref a ∧ H a = some (.ins (ca C) dx fs) ∧ fs.map (·.1) = gs.map (·.1) ∧ RepL ca K Hf H T (fs.map (·.2)) (gs.map (·.2)) := by
  cases r with
  | insF e k r => exact ⟨_, _, _, Em, rfl, hx _ _ e, k, r⟩
  | insO s e k r => exact ⟨_, _, _, _, rfl, e, k, r⟩
theorem os_fld {C : Nat} {f : Str} : OpS ca K (rl1 fun x H Q => ∃ a dx fs v, x = .ref a ∧ H a = some (.ins (ca C) dx fs) ∧ fs.lookup f = some v ∧ Q v H) (oFld C f) := fun Hf H vs ds o Q hx rd h q => by
  match ds, h with
  | [.ins ow C' gs], hh =>
    dsimp only [oFld] at hh
    by_cases hC : C' = C
    · rw [if_pos hC] at hh
      subst hC
      cases el : gs.lookup f with
      | none => rw [el] at hh; cases hh
      | some dd =>
        rw [el] at hh
        dsimp only at hh
        by_cases hc : cold dd = true
        · rw [if_pos hc] at hh
          cases hh
          obtain ⟨v, S, e1, r1⟩ := rdl1 rd rfl
          subst e1
          obtain ⟨a, dx, fs, T, rfl, e2, k, r⟩ := rep_ins hx r1
          obtain ⟨j, v', h1, h2, h3⟩ := lookup_keys (j := 0) k el
          obtain ⟨v2, T2, e3, r2, _⟩ := repL_at r h3
          rw [h2] at e3
          cases e3
          have hd : hot dd = false := by unfold cold at hc; simpa using hc
          exact ⟨a, dx, fs, v', rfl, e2, h1, q v' (r2.cold hd)⟩
        · rw [if_neg hc] at hh; cases hh
    · rw [if_neg hC] at hh; cases hh
theorem ce_fld {e : Expr} {oe : Opd} {C : Nat} {f : Str} {pos : Pos} (c : Cls X.K (ca C)) (n : NoAttr X.K (ca C) f) (he : CO ca X e oe) (hb : attributeBase e f X.env (eval e X.env) = eval e X.env := by rfl) : CE ca X (.Attribute e f pos) (eOp (oFld C f) [oe]) :=
  ce_op (es := [e]) (fun σ H Q h => we_of (pe_fld (we_pe X e) hb) (by
    refine ⟨fun pins s I => ?_⟩
    refine thn (We.run h pins s I) fun u s1 hh => ?_
    obtain ⟨x, H1, I1, r1, a, dx, fs, v, e1, e2, e3, q⟩ := hh
    exact ⟨x, H1, I1, r1, a, ca C, dx, fs, v, e1, e2, c, n, e3, q⟩)) (.cons he .nil) os_fld
/-- a property whose getter hands back the field f' -/
theorem ce_prop {e : Expr} {oe : Opd} {C : Nat} {f f' : Str} {p g : Addr} {k : Nat} {fd : FuncData} {ps : List Str} {pos : Pos} (c : Cls X.K (ca C)) (hp : PropOf X.K (ca C) f p g) (F : FnOk X.prog X.w X.K X.mg X.base (L2.CX X.prog X.w) k g fd ps (getSp (ca C) f')) (hr : Room (k + 1) X.A) (hb : Binds X.K fd ps []) (he : CO ca X e oe)
    (hab : attributeBase e f X.env (eval e X.env) = eval e X.env := by rfl) : CE ca X (.Attribute e f pos) (eOp (oFld C f') [oe]) :=
  ce_op (es := [e]) (fun σ H Q h => we_of (pe_prop (E := E0) (we_pe X e) c hp F hr hb .nil passL hab) (by
    refine ⟨fun pins s I => ?_⟩
    refine thn (We.run h pins s I) fun u s1 hh => ?_
    obtain ⟨x, H1, I1, r1, a, dx, fs, v, e1, e2, e3, q⟩ := hh
    exact ⟨x, H1, I1, r1, a, dx, fs, e1, e2, a, dx, fs, v, rfl, e2, e3, q⟩)) (.cons he .nil) os_fld

/-! ### storing a field -/
theorem putD_keys {f : Str} {y : V} {d : D} : ∀ {fs : List (Str × V)} {gs : List (Str × D)}, fs.map (·.1) = gs.map (·.1) → (putF f y fs).map (·.1) = (putD f d gs).map (·.1)
  | [], [], _ => rfl
  | [], _ :: _, e => by cases e
  | _ :: _, [], e => by cases e
  | (x, a) :: fs, (y', b) :: gs, e => by
    simp only [List.map_cons,
        List.cons.injEq] at e
    obtain ⟨rfl, e⟩ := e
    rw [putF, putD]
    split
    · simp [e]
    · simp [putD_keys (f := f) (y := y) (d := d) e]
theorem putD_rep {f : Str} {y : V} {d : D} (rd : Rep ca K Hf H Em y d) : ∀ {S : Rg} {fs : List (Str × V)} {gs : List (Str × D)}, fs.map (·.1) = gs.map (·.1) → RepL ca K Hf H S (fs.map (·.2)) (gs.map (·.2)) → RepL ca K Hf H S ((putF f y fs).map (·.2)) ((putD f d gs).map (·.2))
  | _, [], [], _, _ => (RepL.one rd).mono fun _ q => q.elim
  | _, [], _ :: _, e, _ => by cases e
  | _, _ :: _, [], e, _ => by cases e
  | _, (x, a) :: fs, (y', b) :: gs, e, r => by
    simp only [List.map_cons,
        List.cons.injEq] at e
    obtain ⟨rfl, e⟩ := e
    rw [putF, putD]
    cases r with
    | cons r1 r2 h1 h2 h3 =>
      split
      · exact .cons (S1 := Em) rd r2 (fun _ q => q.elim) h2 fun _ q _ => q
      · exact .cons r1 (putD_rep rd e r2) h1 h2 h3
theorem PR.ownIns {i C : Nat} {gs : List (Str × D)} (p : PR ca K Hf H Em True R σ st) (h : getS st i = some (.ins true C gs)) : ∃ a dx fs, σ[i]? = some (some (.ref a)) ∧ R i a ∧ H a = some (.ins (ca C) dx fs) ∧ fs.map (·.1) = gs.map (·.1) ∧ RepL ca K Hf H (fun b => R i b ∧ b ≠ a) (fs.map (·.2)) (gs.map (·.2)) := by
  obtain ⟨v, e, r⟩ := p.at_ i _ h
  cases r with
  | insO s e2 k r => exact ⟨_, _, _, e, s, e2, k, r⟩
theorem PR.writeIns {i C : Nat} {gs ys : List (Str × D)} {a dx : Addr} {ws : List (Str × V)} (p : PR ca K Hf H Em True R σ st) (h : getS st i = some (.ins true C gs)) (hv : σ[i]? = some (some (.ref a))) (ha : R i a) (hk : ws.map (·.1) = ys.map (·.1))
    (r : RepL ca K Hf H (fun b => R i b ∧ b ≠ a) (ws.map (·.2)) (ys.map (·.2))) : PR ca K Hf (upd H a (.ins (ca C) dx ws)) Em True R σ (st.set i (some (.ins true C ys))) ∧ Tr (jn Em R) Hf H (jn Em R) Hf (upd H a (.ins (ca C) dx ws)) := by
  have hk' : ∀ b o, b ≠ a → H b = some o → upd H a (.ins (ca C) dx ws) b = some o := fun b o n e => by rw [upd_ne n]; exact e
  have hf : Hf a = none := p.w.nf a (.inr ⟨i, ha⟩)
  refine ⟨⟨trivial, ?_, fun j d e => ?_, p.dj, fun _ _ q => q.elim, ⟨fun b o e => ?_, fun b q => ?_, p.w.nf, mkTp⟩⟩, ⟨fun _ _ e => e, fun b o e n => hk' b o (fun z => n (.inr ⟨i, z ▸ ha⟩)) e, fun b q => .inl q, fun _ _ e => .inl e⟩⟩
  · rw [List.length_set]; exact p.len
  · rcases set_get e with ⟨q1, q2⟩ | ⟨q1, q2⟩
    · subst q1
      cases q2
      exact ⟨_, hv, .insO ha upd_same hk (r.keep (fun _ _ e => e) fun b q o e => hk' b o q.2 e)⟩
    · obtain ⟨v', e2, r2⟩ := p.at_ j d q2
      exact ⟨v', e2, r2.keep (fun _ _ e => e) fun b q o e => hk' b o (fun z => q1 (p.dj i j a ha (z ▸ q))) e⟩
  · have := p.w.ex b o e
    exact hk' b o (fun z => by subst z; rw [hf] at e; cases e) this
  · obtain ⟨o, e⟩ := p.w.dm b q
    by_cases z : b = a
    · subst z; exact ⟨_, upd_same⟩
    · exact ⟨o, hk' b o z e⟩
theorem cs_fld {o value : Expr} {i C : Nat} {f : Str} {m : ME} {pos pos' : Pos} (c : Cls X.K (ca C)) (n : NoAttr X.K (ca C) f) (ho : PE X o (tVar i)) (he : CE ca X value m) (hs : swapsWith value (some (.Attribute o f pos')) pos.line X.env = pure false := by rfl) :
    CS ca X L (.Assign [.Attribute o f pos'] value pos) (sFldM C i f m) := fun Hf H R σ st E p h => by
  refine ws_of (ps_fld ho (we_pe X value) hs) (he Hf H R σ st _ p ?_)
  refine post_toS h fun d st1 Hf1 H1 P1 R1 v e1 t1 p1 h1 => ?_
  cases g : getS st1 i with
  | none => rw [g] at h1; exact h1.elim
  | some dx =>
    rw [g] at h1
    cases dx with
    | ins ow C' gs =>
      cases ow with
      | false => exact h1.elim
      | true =>
        dsimp only at h1
        by_cases hc : C' = C ∧ gs.length < 1000 ∧ cold d = true
        · rw [if_pos hc] at h1
          obtain ⟨rfl, hl, hcd⟩ := hc
          have hd : hot d = false := by unfold cold at hcd; simpa using hcd
          obtain ⟨a, dx, fs, ev, ra, e2, kk, r2⟩ := p1.drop.ownIns g
          have hlen : fs.length = gs.length := by
            have := congrArg List.length kk
            simpa using this
          refine ⟨.ref a, ev, a, _, dx, fs, rfl, e2, c, n, by omega, ?_⟩
          obtain ⟨p2, t2⟩ := p1.drop.writeIns (dx := dx) g ev ra (putD_keys (f := f) (y := v) (d := d) kk) (putD_rep (p1.pend.cold hd) kk r2)
          exact h1 Hf1 _ R1 σ (t2.more fun b q => q.elim (fun q => q.elim) .inr) p2 Lk.refl
        · rw [if_neg hc] at h1; exact h1.elim
    | _ => exact h1.elim

/-! ### an instance made -/
/-- what __init__ hands back -/
theorem postC_make {C : Nat} {m : MF} {Q : VK} {x dx : Addr} (p : PR ca X.K Hf H P (RepL ca X.K Hf H P vs ds) R σ st) (hx : H x = none) (hdx : H dx = none) (hne : dx ≠ x)
    (h : Post ca X Hf H (jn P R) σ (match m (.ins true C [] :: ds) with
      | .ok .non ps => (match getS ps 0 with | some d => .ok d st | none => .fail)
      | .exc x _ => .exc x st
      | _ => .fail) Q) :
    spM ca X.K m (.ref x :: vs) (upd (upd H dx (.own x)) x (.ins (ca C) dx [])) (fun v H2 => v = .non ∧ Q (.ref x) H2) (fun cls dd H' => wX X cls dd σ H') := by
  have hx' : (upd H dx (.own x)) x = none := by rw [upd_ne (Ne.symm hne)]; exact hx
  have k1 : Ex H (upd H dx (.own x)) := upd_keep hdx
  have k2 : Ex H (upd (upd H dx (.own x)) x (.ins (ca C) dx [])) := fun b o e => upd_keep hx' b o (k1 b o e)
  have w1 := (wl_new (o := .own x) p.w hdx)
  have w2 := (wl_new (o := .ins (ca C) dx []) w1.1 hx')
  have hnx : ∀ b, jn P R b → b ≠ x := fun b q z => by subst z; obtain ⟨o, e⟩ := p.w.dm b q; rw [hx] at e; cases e
  have rr : RepL ca X.K Hf (upd (upd H dx (.own x)) x (.ins (ca C) dx [])) (fun b => b = x ∨ P b) (.ref x :: vs) (.ins true C [] :: ds) :=
    .cons (S1 := fun b => b = x) (S2 := P) (.insO rfl upd_same rfl .nil) (p.pend.keep (fun _ _ e => e) fun b _ o e => k2 b o e) (fun b q => .inl q) (fun b q => .inr q) fun b q1 q2 => hnx b (.inl q2) q1
  have pr : PR ca X.K Hf (upd (upd H dx (.own x)) x (.ins (ca C) dx [])) (fun b => b = x ∨ P b) (RepL ca X.K Hf (upd (upd H dx (.own x)) x (.ins (ca C) dx [])) (fun b => b = x ∨ P b) (.ref x :: vs) (.ins true C [] :: ds)) R σ st :=
    ⟨rr, p.len, fun i d e => by
      obtain ⟨v, e1, r⟩ := p.at_ i d e
      exact ⟨v, e1, r.keep (fun _ _ e => e) fun b _ o e => k2 b o e⟩, p.dj, fun i b q1 q2 => q1.elim (fun q => hnx b (.inr ⟨i, q2⟩) q) fun q => p.dp i b q q2, ⟨w2.1.ex, fun b q => by
      rcases q with (q | q) | q
      · subst q; exact ⟨_, upd_same⟩
      · exact w2.1.dm b (.inl q)
      · exact w2.1.dm b (.inr q), fun b q => by
      rcases q with (q | q) | q
      · subst q; exact w2.2
      · exact w2.1.nf b (.inl q)
      · exact w2.1.nf b (.inr q), mkTp⟩⟩
  have t0 : Tr (jn P R) Hf H (jn (fun b => b = x ∨ P b) R) Hf (upd (upd H dx (.own x)) x (.ins (ca C) dx [])) := ⟨fun _ _ e => e, fun b o e _ => k2 b o e, fun b q => by
    rcases q with (q | q) | q
    · subst q; exact .inr hx
    · exact .inl (.inl q)
    · exact .inl (.inr q), fun _ _ e => .inl e⟩
  refine ⟨Hf, fun b => b = x ∨ P b, .ins true C [] :: ds, rr, pr.w.mono fun b q => .inl q, ?_⟩
  have wR : Wl Hf (upd (upd H dx (.own x)) x (.ins (ca C) dx [])) (tot R) := pr.w.mono fun b q => .inr q
  have old : ∀ {Hf' H' : Hp} {S' P' : Rg} {pp : Prop}, Tr (fun b => b = x ∨ P b) Hf (upd (upd H dx (.own x)) x (.ins (ca C) dx [])) S' Hf' H' → Wl Hf' H' S' → (∀ b, P' b → S' b) → pp → PR ca X.K Hf' H' P' pp R σ st ∧ Tr (jn P R) Hf H (jn P' R) Hf' H' := fun {Hf' H' S' P' pp} t w hP q => by
    have bs := t.beside wR fun b q1 q2 => by obtain ⟨i, q1⟩ := q1; exact pr.dp i b q2 q1
    refine ⟨⟨q, p.len, fun i d e => ?_, p.dj, fun i b q1 q2 => bs.2.1 b ⟨i, q2⟩ (hP b q1), ⟨w.ex, fun b q => ?_, fun b q => ?_, mkTp⟩⟩, ?_⟩
    · obtain ⟨v, e1, r⟩ := pr.at_ i d e
      exact ⟨v, e1, r.keep t.fx fun b q o e => bs.1 b ⟨i, q⟩ o e⟩
    · rcases q with q | q
      · exact w.dm b (hP b q)
      · exact (bs.2.2 b q).1
    · rcases q with q | q
      · exact w.nf b (hP b q)
      · exact (bs.2.2 b q).2
    · refine t0.trans (((t.with (tot R)).more fun b q => ?_).less fun b q => ?_)
      · exact q.elim .inr .inl
      · exact q.elim (fun q => .inr (hP b q)) .inl
  cases em : m (.ins true C [] :: ds) with
  | fail => rw [em] at h; exact h
  | ok d ps =>
    rw [em] at h
    cases d with
    | non =>
      dsimp only at h
      cases eg : getS ps 0 with
      | none => rw [eg] at h; exact h.elim
      | some d' =>
        rw [eg] at h
        intro Hf' H' P' Rp v t q
        obtain ⟨v', e1, r0⟩ := q.at_ 0 d' eg
        cases e1
        obtain ⟨p2, t2⟩ := old (P' := Rp 0) (pp := Rep ca X.K Hf' H' (Rp 0) (.ref x) d') t q.w (fun b z => .inr ⟨0, z⟩) r0
        exact ⟨rep_non q.pend, h Hf' H' (Rp 0) R (.ref x) t2 p2⟩
    | _ => exact h.elim
  | exc y ps =>
    rw [em] at h
    intro Hf' H' Rp cls dd t q
    obtain ⟨p2, t2⟩ := old (P' := Em) t q.w (fun b z => z.elim) q.pend
    exact h Hf' H' R cls dd t2 p2
end
end DL

/-! DL12: == and != of instances by an own __eq__; isinstance; methods called. -/
namespace DL
open PySem L2 PyProof.Rows

/-- a value is let stand -/
def eFz (m : ME) : ME := fun st => (m st).bind fun d st1 => .ok (frz d) st1
def insC : D → Option Nat
  | .ins false C _ => some C
  | _ => none
/-- a == b (a != b: neg) of two instances of the class C that stand, by the meaning of __eq__ -/
def eEqI (neg : Bool) (C : Nat) (f : MF) (oa ob : Opd) : ME := fun st => opds [oa, ob] st fun gs st2 => match gs st2 with
  | some [x, y] => if insC x = some C ∧ insC y = some C then (match f [x, y] with
    | .ok (.bl k) _ => .ok (.bl (if neg then !k else k)) st2
    | _ => .fail) else .fail
  | _ => .fail

section
variable {ca : Nat → Addr} {K : PySem.W.Frag} {Hf H Hf1 H1 Hf2 H2 : Hp} {S S1 S2 P P1 P2 : Rg} {R R1 R2 : Nat → Rg} {pp qq : Prop} {σ σ' : L2.St} {st st' : Sl} {v : V} {d : D} {vs : List V} {ds xs : List D} {X : Cx} {L : List Nat}
theorem ce_fz {e : Expr} {m : ME} (h : CE ca X e m) : CE ca X e (eFz m) := fun Hf H R σ st Q p hq => by
  refine h Hf H R σ st Q p ?_
  unfold eFz at hq
  cases r : m st with
  | fail => rw [r] at hq; exact hq
  | exc x st1 => rw [r] at hq; exact hq
  | ok d st1 =>
    rw [r] at hq
    intro Hf1 H1 P1 R1 v t1 p1
    obtain ⟨Hf2, x1, x2, p2, t2⟩ := p1.standP
    exact hq Hf2 H1 Em R1 v (t1.trans t2) (p2.put (p1.pend.frz x1 x2))

/-! ### rich comparison by an own __eq__ -/
/-- what the written part says of a class with an own __eq__ and no own __ne__ -/
structure OwnEqC (K : PySem.W.Frag) (C f : Addr) : Prop where
  eq : PySem.W.findIn K (.ref C) "__eq__" = some (some (.ref f))
  fn : PySem.W.isFn K (.ref
      f) = true
  ne : ∃ (of : Obj) (nm q : Str) (N : Addr) (bs : List Value) (hdct : Bool) (sn : List Str) (sub : List Value) (ab : Bool) (col : Option Bool) (dd : Option Addr) (k0 k1 k2 k3 k5 : Option Value) (newId : String),
    K.lookup C = some (excClassObj nm q C N bs [.type "object"] hdct sn sub ab col dd k0 k1 k2 k3 k5 newId) ∧ PySem.W.nsOkIn K N = true ∧ PySem.W.nsIn K N "__eq__" = some (some (.ref f)) ∧ PySem.W.nsIn K N "__ne__" = some none ∧ K.lookup f = some of ∧ of.cls = .type "function"
theorem ns_some {h : Heap} {N : Addr} {m : Str → Option Value} {x : Str} {u : Value} (k : K.In h) (G : h.Ns N m) (e : PySem.W.nsIn K N x = some (some u)) : m x = some u := by
  obtain ⟨ob, ents, epoch, gets, dat, _, finds⟩ := G
  unfold PySem.W.nsIn at e
  split at e
  · rename_i c d ents' n' sl look
    have same := k _ _ look
    rw [gets] at same
    cases same
    cases dat
    split at e
    · rename_i en found
      cases e
      rw [← finds]
      show (findBy _ _ _) = _
      unfold findBy
      rw [← Array.find?_toList, found]
      rfl
    · split at e <;> cases e
  · cases e
end

section
variable {ca : Nat → Addr} {Hf H Hf1 H1 Hf2 H2 : Hp} {S P : Rg} {R R1 R2 : Nat → Rg} {σ : L2.St} {st : Sl} {v : V} {d : D} {vs : List V} {ds : List D} {X : Cx} {L : List Nat}
/-! ### isinstance -/
/-- what the written part says of an own class, for isinstance of its instances -/
structure InsTy (K : PySem.W.Frag) (C : Addr) : Prop where
  cl : Cls K C
  ha : PySem.W.findIn K (.ref C) "__class__" = some (some
      (.builtin "object.__class__"))
  hn : PySem.W.specialIn K (.builtin "object.__class__") "__get__" = some (some
      (.builtin "getset_descriptor.__get__"))
  htk : PySem.W.takesIn K (.builtin
      "object.__class__") = some true
  hm : PySem.W.mroIn K C (.type
      "object") = some true
def noScr : D → Bool
  | .scr _ => false
  | _ => true
/-- isinstance(x, T), T a built-in type -/
def oIsiB (T : String) : List D → Option Out
  | [x, .ty t] => if t = T ∧ noScr x = true then ((tyName x).bind fun n => L2.kitB n T).map fun b => .val (.bl b) else none
  | _ => none
theorem os_isiB {K : PySem.W.Frag} {T : String} : OpS ca K (rIsi K) (oIsiB T) := fun Hf H vs ds o Q hx rd h q => by
  match ds, h with
  | [x, .ty t], hh =>
    dsimp only [oIsiB] at hh
    by_cases hc : t = T ∧ noScr x = true
    · rw [if_pos hc] at hh
      obtain ⟨rfl, hs⟩ := hc
      cases en : tyName x with
      | none => rw [en] at hh; cases hh
      | some n =>
        rw [en] at hh
        cases ek : L2.kitB n t with
        | none => simp [ek] at hh
        | some b =>
          simp only [Option.bind_some, ek, Option.map_some, Option.some.injEq] at hh
          subst hh
          obtain ⟨v, w, S, S', e1, r1, r2⟩ := rdl2 rd rfl
          subst e1
          cases r2
          exact ⟨v, .ty t, .type n, .type t, b, rfl, .ty t, rep_ty hx r1 en (fun xs e => by subst e; cases hs), kit_ty ek, q _ .bl⟩
    · rw [if_neg hc] at hh; cases hh
/-- isinstance(x, (T, U)) of two built-in types -/
def oIsi2 (T U : String) : List D → Option Out
  | [x, .tup [.ty t, .ty u]] => if t = T ∧ u = U ∧ noScr x = true then (match (tyName x).bind fun n => L2.kitB n T, (tyName x).bind fun n => L2.kitB n U with
    | some a, some b => some (.val (.bl (a || b)))
    | _, _ => none) else none
  | _ => none
theorem os_isi2 {K : PySem.W.Frag} {T U : String} : OpS ca K (rIsiT K) (oIsi2 T U) := fun Hf H vs ds o Q hx rd h q => by
  match ds, h with
  | [x, .tup [.ty t, .ty u]], hh =>
    dsimp only [oIsi2] at hh
    by_cases hc : t = T ∧ u = U ∧ noScr x = true
    · rw [if_pos hc] at hh
      obtain ⟨rfl, rfl, hs⟩ := hc
      cases en : tyName x with
      | none => rw [en] at hh; cases hh
      | some n =>
        rw [en] at hh
        simp only [Option.bind_some] at hh
        cases ek : L2.kitB n t with
        | none => simp [ek] at hh
        | some b =>
          cases ek2 : L2.kitB n u with
          | none => simp [ek, ek2] at hh
          | some b2 =>
            simp only [ek, ek2, Option.some.injEq] at hh
            subst hh
            obtain ⟨v, w, S, S', e1, r1, r2⟩ := rdl2 rd rfl
            subst e1
            obtain ⟨a, vs, rfl, e2, r3⟩ := rep_tup hx r2
            cases r3 with
            | cons q1 q2 _ _ _ => cases q2 with
              | cons q3 q4 _ _ _ =>
                cases q4
                cases q1
                cases q3
                refine ⟨v, a, [.ty t, .ty u], .type n, [.type t, .type u], b || b2, rfl, e2, .cons (.ty t) (.cons (.ty u) .nil), rep_ty hx r1 en (fun xs e => by subst e; cases hs), ?_, q _ .bl⟩
                refine kitAny_cons (kit_ty ek) (fun hb => ?_) fun hb => by rw [hb]; rfl
                subst hb
                exact kitAny_cons (kit_ty ek2) (fun hb => by subst hb; exact kitAny_nil) fun hb => by rw [hb]; rfl
    · rw [if_neg hc] at hh; cases hh
/-! ### methods called -/
end
end DL

/-! DL13: a, b = x, y; len of instances; tests; what is not followed; [.. for .. for ..]. -/
namespace DL
open PySem L2 PyProof.Rows

def eLenI (C : Nat) (f : MF) (oa : Opd) : ME := fun st => opds [oa] st fun gs st2 => match gs st2 with
  | some [x] => if insC x = some C then (match f [x] with
    | .ok (.int n) _ => if 0 ≤ n ∧ n < 2 ^ 63 then .ok (.int n) st2 else .fail
    | _ => .fail) else .fail
  | _ => .fail
def sFail : MS := fun _ => .fail
section
variable {ca : Nat → Addr} {K : PySem.W.Frag} {Hf H Hf1 H1 Hf2 H2 : Hp} {S S1 S2 P P1 P2 : Rg} {R R1 R2 : Nat → Rg} {pp qq : Prop} {σ σ' : L2.St} {st st' : Sl} {v w : V} {d e : D} {vs : List V} {ds xs : List D} {X : Cx} {L : List Nat}
theorem css_fail {s : List Stmt} : CSs ca X L s sFail := fun Hf H R σ st E p h => h.elim
/-! ### a, b = x, y -/
theorem PR.store2 {i j : Nat} (hij : i ≠ j) (p : PR ca K Hf H P (RepL ca K Hf H P [v, w] [d, e]) R σ st) : ∃ R', PR ca K Hf H Em True R' ((σ.set i (some v)).set j (some w)) ((st.set i (some d)).set j (some e)) ∧ Tr (jn P R) Hf H (jn Em R') Hf H := by
  obtain ⟨S1, S2, q1, q2, h1, h2, h3⟩ : ∃ S1 S2 : Rg, Rep ca K Hf H S1 v d ∧ Rep ca K Hf H S2 w e ∧ (∀ b, S1 b → P b) ∧ (∀ b, S2 b → P b) ∧ ∀ b, S1 b → S2 b → False := by
    have r := p.pend
    cases r with
    | cons a b c1 c2 c3 =>
      cases b with
      | cons a' b' c1' c2' c3' => exact ⟨_, _, a, a', c1, fun b q => c2 b (c1' b q), fun b q1 q2 => c3 b q1 (c1' b q2)⟩
  have p1 : PR ca K Hf H S1 (Rep ca K Hf H S1 v d) R σ st := p.toP h1 q1
  have p2 := p1.store i
  have p3 : PR ca K Hf H S2 (Rep ca K Hf H S2 w e) (fun k b => if k = i then S1 b else R k b) (σ.set i (some v)) (st.set i (some d)) :=
    ⟨q2, p2.len, p2.at_, p2.dj, fun k b x y => by
      split at y
      · exact h3 b y x
      · exact p.dp k b (h2 b x) y, p.w.mono fun b q => by
      rcases q with q | ⟨k, q⟩
      · exact .inl (h2 b q)
      · split at q
        · exact .inl (h1 b q)
        · exact .inr ⟨k, q⟩⟩
  refine ⟨_, p3.store j, Tr.refl fun b q => ?_⟩
  rcases q with q | ⟨k, q⟩
  · exact q.elim
  · split at q
    · exact .inl (h2 b q)
    · split at q
      · exact .inl (h1 b q)
      · exact .inr ⟨k, q⟩
theorem cs_par {i j : Nat} {x y : Str} {a b : Expr} {ms : MA} {px py pt pos : Pos} {kt k2 pt2} (hc : X.calm = true) (hN : X.N.Nodup) (hi : X.N[i]? = some x) (hj : X.N[j]? = some y) (hij : i ≠ j)
    (hx : X.env.scope.names.lookup x = some .local) (hy : X.env.scope.names.lookup y = some .local) (hL1 : i ∉ L) (hL2 : j ∉ L) (ha : CL ca X [a, b] ms) (hst : NoStar [a, b])
    (hw : swappedStores [.Tuple [.Name x px, .Name y py] kt
        pt] (.Tuple [a, b] k2 pt2) X.env = pure (some [x, y]))
    (hs : swapsWithSole [.Tuple [.Name x px, .Name y py] kt pt]
        (.Tuple [a, b] k2 pt2) pos.line X.env = pure false := by rfl) :
    CS ca X L (.Assign [.Tuple [.Name x px, .Name y py] kt pt] (.Tuple [a, b] k2 pt2) pos) (sPar i j ms) := fun Hf H R σ st E p h => by
  refine ws_of (ps_par hc hN hi hj hij hx hy (wa_pa X [a, b]) hw hs) ?_
  refine wa_wl (fun e' r' q => noStar_suf hst e' r' q _) (ha Hf H R σ st _ p ?_)
  unfold sPar at h
  cases e1 : ms st with
  | fail => rw [e1] at h; exact h
  | exc x st1 => rw [e1] at h; exact fun Hf' H' R' cls dd t q => h Hf' H' R' σ cls dd t q Lk.refl
  | ok ds st1 =>
    rw [e1] at h
    intro Hf1 H1 P1 R1 vs t1 p1
    dsimp only [Res.toS] at h
    match ds, h with
    | [d1, d2], h =>
      obtain ⟨v1, v2, rfl⟩ : ∃ v1 v2, vs = [v1, v2] := by
        have := p1.pend
        cases this with
        | cons a b _ _ _ => cases b with
          | cons a' b' _ _ _ => cases b'; exact ⟨_, _, rfl⟩
      obtain ⟨R', p2, t2⟩ := PR.store2 hij p1
      exact ⟨v1, v2, rfl, h Hf1 H1 R' _ (t1.trans t2) p2 ((Lk.set hL1).trans (Lk.set hL2))⟩

/-! ### tests -/
theorem isTrue_cmpV {l r : Expr} {op : CmpOp} {pos : Pos} {env : Env} {whole : Sem Value} : isTrue (.Compare l [op] [r] pos) env whole = (do let c ← eval (.Compare l [op] [r] pos) env; holding [c] (truthy c)) := by
  rw [isTrue_Compare1, eval_Compare1]
  simp only [bind_assoc]
theorem ct_cmp {a b : Expr} {op : CmpOp} {pos : Pos} {m : ME} (h : CE ca X (.Compare a [op] [b] pos) m) : CT ca X (.Compare a [op] [b] pos) (tE m) := by
  refine ct_e ⟨fun pins s σ H Q I hw => ?_⟩ h
  rw [isTrue_cmpV]
  refine wpAny_bind (thn (We.run hw pins s I) fun v s1 ⟨x, H1, I1, r1, q1⟩ => wpAny_holding ?_)
  obtain ⟨d, rfl, q⟩ := q1
  cases r1
  exact wpAny_truthy_bool ⟨H1,
      I1, q⟩
/-- an expression of any other form -/
theorem ct_val {e : Expr} {m : ME} (h : CE ca X e m) (he : ∀ whole, isTrue e X.env whole = (do let v ← whole; standAt e.pos; holding [v] (truthy v)) := by intro _; rfl) : CT ca X e (tE m) :=
  ct_e (pt_val (we_pe X e) he) h
structure Ww (X : Cx) (e : Expr) (σ : L2.St) (H : Hp) (Q : Bool → Hp → Prop) : Prop where
  run : ∀ (whole : Sem Value) (pins : List (Addr × Obj)) (s : Shared), Inv X pins σ H s → wpAny (model X.prog X.w) X.A (isTrue e X.env whole) (TP X pins σ Q) X.xe s
def CW (ca : Nat → Addr) (X : Cx) (e : Expr) (m : MT) : Prop := ∀ (Hf H : Hp) (R : Nat → Rg) (σ : L2.St) (st : Sl) (Q : Bool → Hp → Prop), PR ca X.K Hf H Em True R σ st → PostB ca X Hf H (jn Em R) σ (m st) Q → Ww X e σ H Q
theorem ww_pw (X : Cx) (e : Expr) : PW X e (Ww X e) := ⟨fun wh pins s _ _ _ I h => h.run wh pins s I⟩
theorem ct_w {e : Expr} {m : MT} (h : CW ca X e m) : CT ca X e m := fun Hf H R σ st Q p hq => ⟨fun pins s I => (h Hf H R σ st Q p hq).run _ pins s I⟩
theorem cw_and1 {a : Expr} {m : MT} {pos : Pos} (h : CT ca X a m) : CW ca X (.BoolOp .And [a] pos) m := fun Hf H R σ st Q p hq => ⟨fun wh pins s I => (pw_and1 (wt_pt X a)).run wh pins s σ H Q I (h Hf H R σ st Q p hq)⟩
theorem cw_or1 {a : Expr} {m : MT} {pos : Pos} (h : CT ca X a m) : CW ca X (.BoolOp .Or [a] pos) m := fun Hf H R σ st Q p hq => ⟨fun wh pins s I => (pw_or1 (wt_pt X a)).run wh pins s σ H Q I (h Hf H R σ st Q p hq)⟩
theorem post_tB {r : Res Bool} {k : Bool → Sl → Res Bool} {Q Q' : Bool → Hp → Prop} (h : PostB ca X Hf H S σ (r.bind k) Q) (hk : ∀ b st Hf1 H1 R1, Tr S Hf H (jn Em R1) Hf1 H1 → PR ca X.K Hf1 H1 Em True R1 σ st → PostB ca X Hf1 H1 (jn Em R1) σ (k b st) Q → Q' b H1) : PostB ca X Hf H S σ r Q' := by
  cases r with
  | fail => exact h
  | exc x st1 => exact h
  | ok b st1 => exact fun Hf1 H1 R1 t1 p1 => hk b st1 Hf1 H1 R1 t1 p1 (PostB.from t1 h)
theorem cw_and {a b : Expr} {r : List Expr} {ma mb : MT} {pos : Pos} (ha : CT ca X a ma) (hb : CW ca X (.BoolOp .And (b :: r) pos) mb) : CW ca X (.BoolOp .And (a :: b :: r) pos) (tAndM ma mb) := fun Hf H R σ st Q p hq => ⟨fun wh pins s I => by
  refine (pw_and (wt_pt X a) (ww_pw X _)).run wh pins s σ H Q I (ha Hf H R σ st _ p ?_)
  refine post_tB hq fun c st1 Hf1 H1 R1 t1 p1 h1 => ?_
  cases c with
  | true => exact hb Hf1 H1 R1 σ st1 Q p1 h1
  | false => exact h1 Hf1 H1 R1 (Tr.refl fun _ q => q) p1⟩
theorem cw_or {a b : Expr} {r : List Expr} {ma mb : MT} {pos : Pos} (ha : CT ca X a ma) (hb : CW ca X (.BoolOp .Or (b :: r) pos) mb) : CW ca X (.BoolOp .Or (a :: b :: r) pos) (tOrM ma mb) := fun Hf H R σ st Q p hq => ⟨fun wh pins s I => by
  refine (pw_or (wt_pt X a) (ww_pw X _)).run wh pins s σ H Q I (ha Hf H R σ st _ p ?_)
  refine post_tB hq fun c st1 Hf1 H1 R1 t1 p1 h1 => ?_
  cases c with
  | true => exact h1 Hf1 H1 R1 (Tr.refl fun _ q => q) p1
  | false => exact hb Hf1 H1 R1 σ st1 Q p1 h1⟩
theorem ct_not {a : Expr} {ma : MT} {pos : Pos} (ha : CT ca X a ma) : CT ca X (.UnaryOp .Not a pos) (tNotM ma) := fun Hf H R σ st Q p hq => by
  refine wt_of (pt_not (wt_pt X a)) (ha Hf H R σ st _ p ?_)
  exact post_tB hq fun c st1 Hf1 H1 R1 t1 p1 h1 => h1 Hf1 H1 R1 (Tr.refl fun _ q => q) p1
/-! ### len of an instance -/
/-- what the written part says of a class with an own special method -/
structure OwnSpC (K : PySem.W.Frag) (C f : Addr) (name : Str) : Prop where
  obj : ∃ (of : Obj) (nm q : Str) (N : Addr) (bs : List Value) (hdct : Bool) (sn : List Str) (sub : List Value) (ab : Bool) (col : Option Bool) (dd : Option Addr) (k0 k1 k2 k3 k5 : Option Value) (newId : String),
    K.lookup C = some (excClassObj nm q C N bs [.type "object"] hdct sn sub ab col dd k0 k1 k2 k3 k5 newId) ∧ PySem.W.nsOkIn K N = true ∧ PySem.W.nsIn K N name = some (some (.ref f)) ∧ K.lookup f = some of ∧ of.cls = .type "function"
theorem OwnSpC.at {C f : Addr} {name : Str} {pins : List (Addr × Obj)} {s : Shared} {a dx : Addr} {fs : List (Str × V)} {y : Option Value} (c : OwnSpC X.K C f name) (I : Inv X pins σ H s) (ha : H a = some (.ins C dx fs)) (hB : typeLookup (.type "object") name = pure y) : s.heap.OwnSpecial a C f "object" name := by
  obtain ⟨of, nm, q, N, bs, hdct, sn, sub, ab, col, dd, k0, k1, k2, k3, k5, newId, hC, hN0, hN1, hf, hfc⟩ := c.obj
  have hk : X.K.In s.heap := I.kIn
  have hNs : s.heap.Ns N (s.heap.nsMap N) := .of_isNs (PySem.W.isNs_of_in hk hN0)
  obtain ⟨mA, J, _⟩ :=
      ins_get I.hok ha
  exact ⟨_, of, nm, q, N, bs, _, hdct, sn, sub, ab, col, dd, k0, k1, k2, k3, k5, newId, _, y, J.obj, rfl, hk _ _ hC, hNs, ns_some hk hNs hN1, hk _ _ hf, hfc, PySem.F.mro_object, hB⟩
end
end DL

/-! DL14: [e for x in xs for y in ys if t]. -/
namespace DL
open PySem L2 PyProof.Rows
def comp2D (g : MG) (src1 : Sl → Res (List D)) (g1 : MG) (t1 : MT) (e : ME) (vs vs1 : List Nat) : List D → Sl → List D → Res (List D)
  | [], st, acc => .ok acc st
  | d :: ds, st, acc => (g d st).noX.bind fun _ st1 => (src1 st1).noX.bind fun ds1 st2 => (compD g1 t1 e vs1 ds1 (wipeS st2 vs1) acc).bind fun acc' st3 => comp2D g src1 g1 t1 e vs vs1 ds (wipeS st3 vs) acc'
def eLc2 (src : Sl → Res (List D)) (g : MG) (src1 : Sl → Res (List D)) (g1 : MG) (t1 : MT) (e : ME) (vs vs1 : List Nat) : ME := fun st => (src st).bind fun ds st1 => (comp2D g src1 g1 t1 e vs vs1 ds (wipeS st1 vs) []).bind fun acc st2 => .ok (.lst true acc) st2
section
variable {ca : Nat → Addr} {K : PySem.W.Frag} {Hf H Hf1 H1 Hf2 H2 : Hp} {S S1 S2 P P1 P2 : Rg} {R R1 R2 : Nat → Rg} {pp qq : Prop} {σ σ' : L2.St} {st st' : Sl} {v : V} {d : D} {vs : List V} {ds : List D} {X : Cx} {L : List Nat}
end
end DL

/-! DL15: short forms for printed derivations; getters; a law's end. -/
namespace DL
open PySem L2 PyProof.Rows ClX
section
variable {ca : Nat → Addr} {K : PySem.W.Frag} {Hf H : Hp} {S : Rg} {R : Nat → Rg} {σ : L2.St} {st : Sl} {v : V} {d : D} {vs : List V} {ds : List D} {X : Cx} {L : List Nat}
/-- a name in the slot i -/
theorem en (i : Nat) {x : Str} {pos : Pos} (hN : X.N[i]? = some x := by rfl) (hv : Vis X.env.scope x := by first | exact Or.inl rfl | exact Or.inr (Or.inl rfl) | exact Or.inr (Or.inr rfl)) (hd : (x == ("__debug__" : Str)) = false := by decide)
    (hcd : (x == ("__classdict__" : Str)) = false := by decide) : CE ca X (.Name x pos) (eN i) := ce_n (pe_var hN hv hd hcd)
theorem emv (i : Nat) {x : Str} {pos : Pos} (hN : X.N[i]? = some x := by rfl) (hv : Vis X.env.scope x := by first | exact Or.inl rfl | exact Or.inr (Or.inl rfl) | exact Or.inr (Or.inr rfl)) (hd : (x == ("__debug__" : Str)) = false := by decide)
    (hcd : (x == ("__classdict__" : Str)) = false := by decide) : CE ca X (.Name x pos) (eMv i) := ce_mv (pe_var hN hv hd hcd)
theorem es (i : Nat) {x : Str} {pos : Pos} (hN : X.N[i]? = some x := by rfl) (hv : Vis X.env.scope x := by first | exact Or.inl rfl | exact Or.inr (Or.inl rfl) | exact Or.inr (Or.inr rfl)) (hd : (x == ("__debug__" : Str)) = false := by decide)
    (hcd : (x == ("__classdict__" : Str)) = false := by decide) : CO ca X (.Name x pos) (.s i) := co_s (pe_var hN hv hd hcd)
theorem gn (i : Nat) {x : Str} {pos : Pos} (hN : X.N.Nodup) (hi : X.N[i]? = some x := by rfl) (hx : Loc X.env.scope x := by first | exact .inl rfl | exact .inr rfl) (hL : i ∉ L := by decide)
    (hf : X.fn x = true ∨ X.env.scope.names.lookup x = some .local := by first | exact .inl rfl | exact .inr rfl) : CG ca X L (.Name x pos) (gName i) (gN i) := cg_name (pg_name hN hi hx hf) hL
theorem cs_set (i : Nat) {x : Str} {e : Expr} {m : ME} {pos pos' : Pos} (hN : X.N.Nodup) (he : CE ca X e m) (hi : X.N[i]? = some x := by rfl) (hx : Loc X.env.scope x := by first | exact .inl rfl | exact .inr rfl) (hL : i ∉ L := by decide)
    (hs : swapsWith e (some (.Name x pos')) pos.line X.env = pure false := by rfl) (hf : X.fn x = true ∨ X.env.scope.names.lookup x = some .local := by first | exact .inl rfl | exact .inr rfl) : CS ca X L (.Assign [.Name x pos'] e pos) (sAsg m (gN i)) :=
  cs_asg he (cg_name (pg_name hN hi hx hf) hL) (ps_set hN hi hx (we_pe X e) hs hf)
theorem cs_asgT {tg e : Expr} {m : ME} {t : TG} {g : MG} {pos : Pos} (he : CE ca X e m) (hg : CG ca X L tg t g) (hs : swapsWithSole [tg] e pos.line X.env = pure false := by rfl) (hw : swappedStores [tg] e X.env = pure none := by rfl)
    (h1 : (assignEach [tg] X.env).map (·.2) = [assign tg X.env] := by rfl) : CS ca X L (.Assign [tg] e pos) (sAsg m g) := cs_asg he hg (ps_asg (we_pe X e) hg.1 hs hw h1)
theorem relRef (a : Addr) : RelV (.ref a) (.ref a) := rfl
theorem relTy (n : String) : RelV (.ty n) (.type n) := rfl
/-- a constant of a class -/
theorem ce_cval {x f : Str} {w : Value} {p pos : Pos} {C : Addr} {mc : Value} (hg : Gl X x) (hm : X.mg x = some (.ref C)) (r : CRead X.K C mc) (k : CVal X.K C mc f v w) (rd : ∀ Hf H, Rep ca X.K Hf H Em v d)
    (hd : (x == ("__debug__" : Str)) = false := by decide) (hb : attributeBase (.Name x p) f X.env (eval (.Name x p) X.env) = eval (.Name x p) X.env := by rfl) : CE ca X (.Attribute (.Name x p) f pos) (eC d) := by
  refine ce_c (v := v) ⟨fun pins s σ H Q I h => ?_⟩ rd
  exact (pe_cval (pe_glob hg hm (relRef _) hd) hb).run pins s σ H Q I ⟨C, mc, v, w, rfl, r, k, h⟩
/-- a built-in type, a class, as values -/
theorem ce_ty {x : Str} {T : String} {p : Pos} (hg : Gl X x) (hm : X.mg x = none) (hv : bootBuiltins x = some (.type T)) (hn : x ≠ "__name__" := by decide) (hd : (x == ("__debug__" : Str)) = false := by decide) : CE ca X (.Name x p) (eC (.ty T)) :=
  ce_c (pe_bltn hg hm hv (relTy _) hn hd) fun _ _ => .ty
end
/-- a property's getter -/
theorem getter_ok {CX : CXT} {P : Program} {w : World} {K : PySem.W.Frag} {mg : Str → Option Value} {base : Heap} {k : Nat} {fa C : Addr} {name qual f : Str} {st : Stmt} {fd : FuncData} {N : List Str} {p1 p2 p3 : Pos} (F : Fun K name qual st fa fd) (S : FnScope N ["self"] (defScope st))
    (hN : N[0]? = some ("self" : Str)) (hb : defBody st = [.Return (some (.Attribute (.Name "self" p1) f p2)) p3]) (c : Cls K C) (n : NoAttr K C f) : FnOk P w K mg base CX (k + 1) fa fd ["self"] (getSp C f) := by
  obtain ⟨oc, od, kV, doc, pm, an, cdv, ct, osl, rfl, lk, hcd⟩ :=
      F.ex
  exact fn_getter lk hcd S hN hb c n
/-- a law's promise from its meaning -/
theorem sp_law {ca : Nat → Addr} {K : PySem.W.Frag} {m : MF} {n : Nat} (h : ∀ ns : List Int, ns.length ≤ n → ∃ ps, m [.scr ns] = .ok (.bl true) ps) (H : Hp) (a : Addr) (ns : List Int) (hn : ns.length ≤ n) (hS : SqL K H a (ns.map V.int)) :
    spM ca K m [.ref a] H (fun v _ => v = .bl true) fun _ _ _ => False := by
  refine ⟨H, Em, [.scr ns], RepL.one (.scr hS), ⟨fun _ _ e => e, fun _ q => q.elim, fun _ q => q.elim, fun _ _ e => e⟩, ?_⟩
  obtain ⟨ps, e⟩ := h ns hn
  rw [e]
  exact fun Hf' H' P' Rp v t p => rep_bl p.pend
theorem law_cx {P : Program} {w : World} {H : Hp} {s : Shared} {e : Value} {s' : Shared} (h : L2.CX P w [] H s (fun _ _ _ => False) e s') : False := by
  obtain ⟨a, B, H', cls, d, _, _, _, _, _, _, _, hE⟩ := h
  exact hE
end DL

/-! DL16: blocks, checked by computing. -/
namespace DL
open PySem L2 PyProof.Rows
def blkB (N : List Str) (sc scope : Scope) (own : List (Str × Nat)) : Bool :=
  scope.names.all (fun y => decide (scope.names.lookup y.1 = some y.2)) && (own.all (fun p => decide (N[p.2]? = some p.1)) &&
  (scope.names.all (fun y => !decide (y.2 = .free) || (decide (sc.names.lookup y.1 = some .cell) || decide (sc.names.lookup y.1 = some .free))) &&
  scope.names.all (fun y => !(decide (y.2 = .local) || decide (y.2 = .cell)) || (decide (y.1 ∈ own.map (·.1)) || !decide (y.1 ∈ N)))))
theorem blk_of {N : List Str} {sc scope : Scope} {own : List (Str × Nat)} (hk : scope.kind = .function) (h : blkB N sc scope own = true) : BlkOk N sc scope own := by
  unfold blkB at h
  simp only [Bool.and_eq_true, List.all_eq_true, Bool.or_eq_true, Bool.not_eq_true', decide_eq_true_eq, decide_eq_false_iff_not] at h
  obtain ⟨h1, h2, h3, h4⟩ := h
  refine ⟨hk, fun y hy => h1 y hy, fun p hp => h2 p hp, fun y hy hf => ?_, fun y hy hl => ?_⟩
  · rcases h3 y hy with q | q
    · exact absurd hf q
    · exact q
  · rcases h4 y hy with q | q
    · rcases hl with hl | hl
      · rw [hl] at q; simp at q
      · rw [hl] at q; simp at q
    · exact q
section
variable {ca : Nat → Addr} {X : Cx} {L : List Nat}
/-- a block's own name stored -/
theorem gb (i : Nat) {n : Nat} {w : List Nat} {x : Str} {pos : Pos} (hN : X.N.Nodup) (hi : X.N[i]? = some x := by rfl) (hx : Loc X.env.scope x := by first | exact .inl rfl | exact .inr rfl) (hL : i ∈ w := by decide)
    (hf : X.fn x = true ∨ X.env.scope.names.lookup x = some .local := by first | exact .inl rfl | exact .inr rfl) : CG ca X (but n w) (.Name x pos) (gName i) (gN i) := cg_name (pg_name hN hi hx hf) (not_but hL)
end
end DL

/-! DL17: enumerate over a tuple: how it is made, how it yields, how it ends; over the library's Draws. -/
namespace DL
open PySem L2 PyProof.Rows
open Sem (wp)
/-- the two objects that enumerate(tuple) lays -/
abbrev etI (t : Addr) : Obj := { cls := .type "tuple_iterator", data := .fields #[.ref t, .int 0 0] }
abbrev etE (it : Addr) : Obj :=
  { cls := .type "enumerate",
    data := .fields #[.none, .bool false, .ref it, rawInt 0, .none, .none] }
abbrev etH (h : Heap) (t : Addr) : Heap := (h.push (etI t)).push (etE h.objs.size)
abbrev etO (dc : Option Addr) (xs : Array Value) (n : Nat) (sl : Array (Option Value)) : Obj := { cls := .type "tuple", dict := dc, data := .seq xs n, slots := sl }
theorem et_new (t : Addr) (xs : Array Value) (n : Nat) (dc : Option Addr) (sl : Array (Option Value)) :
    Meets (Builtin.«enumerate.__new__» ⟨[.type "enumerate", .ref t], []⟩) fun _ R s => s.heap.get? t = some (etO dc xs n sl) ∧ R (.ok (.ret (.ref (s.heap.push (etI t)).objs.size))) { s with heap := etH s.heap t } :=
  .of_wp fun pr wo Ar R st hst => by
    rcases st with ⟨hp, gs, dr, tk, os⟩
    rcases hst with ⟨ht, hR⟩
    have sub := sub_enumerate
    have isT : Heap.IsTuple (Shared.heap ⟨hp, gs, dr, tk, os⟩) t xs := ⟨_, ht, rfl, n, rfl⟩
    have ends : ∀ {P : Prop}, P → P := id
    wp_walk using AutoSeq1.wpAny_loadPart' ht
    refine wpAny_stack_any fun _ =>
      wpAny_pure ?_
    split
    case _ c _ _ _ _ _ =>
      cases hc : (c == Value.type "enumerate") <;>
        (wp_walk using AutoSeq1.wpAny_loadPart' ht, wpAny_pyIter_tuple isT) <;>
        exact ends ⟨_, rfl, hR⟩
    all_goals
      wp_walk using AutoSeq1.wpAny_loadPart' ht, wpAny_pyIter_tuple isT
      exact ends ⟨_, rfl, hR⟩
section
variable {pr : Program} {wo : World} {Ar : Around} {Ex' : Value → Shared → Prop} {st : Shared}
/-- the call enumerate(t) -/
theorem et_call {t : Addr} {xs : Array Value} {Q : Value → Shared → Prop} (ht : st.heap.IsTuple t xs) (hq : Q (.ref (st.heap.objs.size + 1)) { st with heap := etH st.heap t }) :
    wpAny (model pr wo) Ar (call (.type "enumerate") [.ref t]) Q Ex' st := by
  rcases ht with ⟨⟨cl, dc, dat, sl⟩, ho, hcl, n, hdat⟩
  obtain rfl : cl = .type "tuple" := hcl
  obtain rfl : dat = .seq xs n := hdat
  have sz : (st.heap.push (etI t)).objs.size = st.heap.objs.size + 1 := Heap.size_push ..
  have at1 : (etH st.heap t).get? (st.heap.objs.size + 1) = some (etE st.heap.objs.size) := by
    rw [← sz]
    exact Heap.get?_push_size _
        rfl
  have args : ∀ obj, _ := fun obj => F.args_object_init_2 obj (Value.ref t)
  refine callType_new F.called_enumerate (by decide) (F.typeCall_enumerate_1 _) (F.newCall_enumerate_1 _) args
    F.entry_enumerate_new (et_new t xs n dc sl) ⟨ho, ?_⟩
  show (∃ _, _) ∧ _
  rw [sz]
  exact ⟨⟨_, at1, rfl⟩, hq⟩
/-- its end -/
theorem et_end {e it t : Addr} {i : Nat} {xs : Array Value} {old : Value} {Q : Option Value → Shared → Prop} (hh : Ar.handled = none) (he : IsEnum st.heap e it i old) (hi : st.heap.IsTupleIter it t i)
    (ht : st.heap.IsTuple t xs) (hx : xs[i]? = none) (hq : ∀ h', Heap.ExtBut it st.heap h' → Q none { st with heap := h' }) : wpAny (model pr wo) Ar (pyNext (.ref e)) Q Ex' st := by
  have ty : st.TypeIs (.ref e) "enumerate" := ⟨_, he, rfl⟩
  have inner := fun {Q'} {E'} k => wpAny_nextOf_tuple_end (prog := pr) (w := wo) (A := Ar.in1) (Q := Q') (E := E') (s := st) hh hi ht hx k
  unfold pyNext
  refine wpAny_bind (wpAny_attempt
      ?_)
  refine wpAny_callSpecial?_slot (name := Str.ofString "__next__") ty F.slot_enumerate_next ?_
  refine wpAny_call_entry F.slot_enumerate_next ty F.entry_enumerate_next ?_ (F.args_enumerate_next_1 _)
  refine wpAny_bind (m := field (.ref e) 2) ?_
  refine wpAny_field he rfl (x := .ref it) rfl (wpAny_bind ?_)
  refine wpAny_nextOf_tuple_end hh hi ht hx fun h' x ext ⟨o, ho, hc⟩ => ?_
  refine wpAny_bind ?_
  exact wpAny_isInstance (T := "StopIteration") (b := true)
    ⟨o, ho, hc⟩ isSubtype_stop (wpAny_pure (hq _ ext))
end
/-- the tuple at a, each item in a new pair with its number -/
def IteT (K : PySem.W.Frag) (a : Addr) : It where
  go := fun i H => ∃ ys y, SqT K H a ys ∧ ys[i]? = some y
  yld := fun i H v H' => ∃ T x, v = .ref T ∧ H T = none ∧ H' = upd H T (.tup [.int (i : Nat), x]) ∧ ∀ ys, SqT K H a ys → ys[i]? = some x
  stop := fun i H => ∃ ys : List V, SqT K H a ys ∧ ys.length ≤ i
/-- how the enumeration stands before its turn i -/
structure EtAt (a e it : Addr) (i : Nat) (h : Heap) : Prop where
  en : ∃ old, IsEnum h e it ((i : Nat) : Int) old
  iter : h.IsTupleIter it a i
  n1 : e ≠ it
  n2 : e ≠ a
  n3 : a ≠ it
theorem two_mem {b e it : Addr} (h : b ∈ [e, it]) : b = e ∨ b = it := by simpa using h
theorem turn_enumT {P : Program} {w : World} {K : PySem.W.Frag} {elts : List Expr} {kk : Nat} {tpos : Pos} (a e it : Addr) : Turn P w K (.Tuple elts kk tpos) (IteT K a) [e, it] e (EtAt a e it) where
  mem := List.mem_cons_self
  obj := by
    intro i h z b hb
    obtain ⟨old, he⟩ := z.en
    obtain ⟨o, ho, _, hd⟩ := z.iter
    rcases two_mem hb with rfl | rfl
    · exact ⟨_, he, fun _ q => nomatch q⟩
    · refine ⟨o, ho, fun v q => ?_⟩
      rw [hd] at q
      cases q
  keep := by
    intro i h h' z k
    obtain ⟨old, he⟩ := z.en
    exact ⟨⟨old, k e (List.mem_cons_self) _ he⟩, z.iter.at fun o q => k it (by simp) o q, z.n1, z.n2, z.n3⟩
  item := by
    intro X e1 e2 e3 calm i pins s σ H E I fresh z go
    subst e1 e2 e3
    obtain ⟨old, he⟩ := z.en
    obtain ⟨ys, y, hq, hy⟩ := go
    obtain ⟨us, rel, isT, _⟩ := I.tuple hq
    obtain ⟨u, hu, ru⟩ := rel.get hy
    have isT' : s.heap.IsTuple a us.toArray := isT
    have below : ∀ b ∈ [e, it], b < s.heap.objs.size := fun b hb => by
      rcases two_mem hb with rfl | rfl
      · exact Heap.lt_size he
      · obtain ⟨_, q, _⟩ := z.iter
        exact Heap.lt_size q
    have ilt : i < us.toArray.size := by simpa using (List.getElem?_eq_some_iff.mp hu).1
    have draws := Draws.tuple (prog := X.prog) (w := X.w) (A := X.A.in1) (I.ok.hd calm) it a z.n3 us.toArray
    refine wpAny_pyNext_enum_itemD draws he ⟨z.iter, isT'⟩ ilt z.n1 (by simp [z.n1, z.n2]) fun xv h1 tk at_i out st1 newT size kept => ?_
    obtain rfl : u = xv := by
      have q : us.toArray[i]? = some u := by simpa using hu
      exact Option.some.inj (q.symm.trans at_i)
    refine ⟨_, rfl, ?_⟩
    refine wpAny_letOwnedTupleGo_enum (s := { s with heap := h1, toks := tk + 1 }) out fun h2 en2 same => ?_
    have eN : s.heap.objs.size ≠ e := Nat.ne_of_gt (below e List.mem_cons_self)
    have T2 : h2.get? s.heap.objs.size = some { cls := .type "tuple", data := .seq #[.int i tk, u] } := (same.2 _ eN).trans newT
    have pair : Vals [V.int (i : Nat), y] [.int i tk, u] := .cons ⟨_, rfl⟩ (.cons ru .nil)
    have ok : ObjOk X.prog X.w (upd H s.heap.objs.size (.tup [.int (i : Nat), y])) h2 s.heap.objs.size
        (.tup [.int (i : Nat), y]) := ⟨show 2 ≤ sizeLine from by decide, _, pair, ⟨_, T2, rfl, _, rfl⟩⟩
    have stays : ∀ b o, b ∉ [e, it] → s.heap.get? b = some o → h2.get? b = some o := fun b o nb q => by
      have b1 : b ≠ e := fun h => nb (by simp [h])
      have b2 : b ≠ it := fun h => nb (by simp [h])
      exact (same.2 b b1).trans (kept b o b1 b2 q)
    have J := I.turnedNew (t' := tk + 1) (ch := [e, it]) stays fresh (Nat.le_refl _) ok
    refine ⟨.ref s.heap.objs.size, _, J, rfl, ⟨_, y, rfl, I.hok.fresh (Nat.le_refl _), rfl, ?_⟩, ⟨⟨u, ?_⟩, ?_, z.n1, z.n2, z.n3⟩, ?_⟩
    · intro ws hws
      rw [I.tuple_inj hws hq]
      exact hy
    · rw [show ((i + 1 : Nat) : Int) = (i : Int) + 1 by omega]
      exact en2
    · exact st1.1.at fun o q => (same.2 it z.n1.symm).trans q
    · intro b hb
      rw [upd_ne (Nat.ne_of_lt (below b hb))]
      exact (fresh b hb).1
  done := by
    intro X e1 e2 e3 calm i pins s σ H E I fresh z stop
    subst e1 e2 e3
    obtain ⟨old, he⟩ := z.en
    obtain ⟨ys, hq, le⟩ := stop
    obtain ⟨us, rel, isT, _⟩ := I.tuple hq
    have isT' : s.heap.IsTuple a us.toArray := isT
    have len := rel.length
    have none_at : us.toArray[i]? = none := by
      simp
      omega
    have ft := fresh it (by simp)
    refine et_end (I.ok.hd calm) he z.iter isT' none_at fun h' ext => ⟨rfl, ?_⟩
    exact I.turned (t' := s.toks) (fun b o nb q => ext b o nb q) ft.1 ft.2.1 ft.2.2.2.1 ft.2.2.2.2.1 ft.2.2.2.2.2
  self := by
    intro A i s Q E z h
    obtain ⟨_, he⟩ := z.en
    exact wpAny_pyIter_enum he h
def iEnumT (K : PySem.W.Frag) (ta : TA) : TI := fun σ H R => ta σ H fun vs H1 => ∃ a ys, vs = [.ref a] ∧ SqT K H1 a ys ∧ R (IteT K a) H1
theorem pi_enumT {X : Cx} {e : Expr} {ta : TA} {p pos tpos : Pos} {elts : List Expr} {kk : Nat} (hg : Gl X "enumerate") (hm : X.mg "enumerate" = none) (ha : PA X [e] ta)
    (one : starEach [e] X.env = [(false, eval e X.env)] := by rfl) : PI X (.Tuple elts kk tpos) (.Call (.Name "enumerate" p) [e] [] pos) (iEnumT X.K ta) := by
  constructor
  intro pins s σ H R I h
  refine Call_ (ld_blt I hg hm boot_enumerate ?_)
  refine PyProof.Rows.callWith_type1 (thn (ha.run pos pins s σ H _ I h) ?_) one rfl
  rintro us s1 ⟨vs, H1, I1, rel, a, ys, rfl, hq, goal⟩
  obtain ⟨u, rfl, ru⟩ := vals1 rel
  obtain rfl : u = .ref a := ru
  obtain ⟨its, _, isT, _⟩ := I1.tuple hq
  have isT' : s1.heap.IsTuple a its.toArray := isT
  have alt : a < s1.heap.objs.size := by
    obtain ⟨o, ho, _⟩ := isT'
    exact Heap.lt_size ho
  have sz : (s1.heap.push (etI a)).objs.size = s1.heap.objs.size + 1 := Heap.size_push ..
  have en : IsEnum (etH s1.heap a) (s1.heap.objs.size + 1) s1.heap.objs.size 0 .none := by
    show (etH s1.heap a).get? _ = _
    rw [← sz]
    exact Heap.get?_push_size _
        rfl
  have itr : (etH s1.heap a).IsTupleIter s1.heap.objs.size a 0 := ⟨_, Heap.get?_push_of_some _ (Heap.get?_push_size _ rfl), rfl, rfl⟩
  have grown : ∀ b o, s1.heap.get? b = some o → (etH s1.heap a).get? b = some o := fun b o q => Heap.get?_push_of_some _ (Heap.get?_push_of_some _ q)
  refine et_call isT' (wpAny_pyIter_enum en ?_)
  have I2 := I1.kept (t' := s1.toks) grown
  refine ⟨s1.heap.objs.size + 1, [s1.heap.objs.size + 1, s1.heap.objs.size], _, _, H1, rfl, I2, turn_enumT a (s1.heap.objs.size + 1) s1.heap.objs.size,
    ⟨⟨.none, en⟩, itr, Nat.succ_ne_self _, Nat.ne_of_gt (Nat.lt_succ_of_lt alt), Nat.ne_of_lt alt⟩, ?_, goal⟩
  intro b hb
  have up : s1.heap.objs.size ≤ b := by
    rcases two_mem hb with rfl | rfl
    · exact Nat.le_succ _
    · exact Nat.le_refl _
  exact I1.fpOk up (I1.hok.fresh up)
section
variable {ca : Nat → Addr} {K : PySem.W.Frag} {Hf H : Hp} {vs : List V} {ds : List D} {X : Cx}
theorem itd_enumT {a : Addr} (h : SqT K Hf a vs) (r : RepL ca K Hf H Em vs ds) (hc : colds ds = true) : ItD ca K (IteT K a) Hf (enumD 0 ds) := by
  intro Hf' H' x1 x2 x5
  have x3 : Ex Hf H' := fun a o e => x2 a o (x1 a o e)
  refine ⟨fun i hi => ?_, ⟨vs, sqT_ex x3 h, by rw [r.length, enumD_length]; exact Nat.le_refl _⟩, fun i d x H2 e y => ?_⟩
  · have : i < vs.length := by rw [r.length]; rw [enumD_length] at hi; exact hi
    exact ⟨vs, vs[i], sqT_ex x3 h, by simp [this]⟩
  · obtain ⟨T, xv, rfl, hT, rfl, y⟩ := y
    obtain ⟨d', e1, rfl⟩ := enumD_get e
    obtain ⟨v', T', e2, r2, z⟩ := repL_at r e1
    have := y vs (sqT_ex x3 h)
    rw [e2] at this
    have e3 : v' = xv := Option.some.inj this
    subst e3
    have hT' : Hf' T = none := by
      cases q : Hf' T with
      | none => rfl
      | some o => rw [x2 T o q] at hT; cases hT
    refine ⟨rfl, upd Hf' T (.tup [.int (i : Nat), v']), fun b o e => upd_keep hT' b o e, fun b o e => upd_keep hT b o e, fun b o e => ?_, fun b o e => ?_, x5.upd2, ?_⟩
    · by_cases q : b = T
      · subst q; rw [upd_same] at e ⊢; exact e
      · rw [upd_ne q] at e ⊢; exact x2 b o e
    · by_cases q : b = T
      · subst q; exact .inr hT
      · rw [upd_ne q] at e; exact .inl e
    · refine .tup upd_same (.cons (S1 := Em) (S2 := Em) (by rw [Nat.zero_add]; exact .int) (.cons (S1 := Em) (S2 := Em) ((r2.mono z).keep (fun b o e => upd_keep hT' b o (x1 b o e)) fun _ q => q.elim) .nil (fun _ q => q) (fun _ q => q) fun _ q _ => q) (fun _ q => q) (fun _ q => q) fun _ q _ => q)
/-- enumerate(tuple) -/
def iEnT (m : ME) : Sl → Res (List D) := fun st => (m st).bind fun d st1 => match tupItems d with
  | some ds => if colds ds then .ok (enumD 0 ds) st1 else .fail
  | none => .fail
theorem ci_enumT {e : Expr} {m : ME} {p pos tpos : Pos} {elts : List Expr} {kk : Nat} (hg : Gl X "enumerate") (hm : X.mg "enumerate" = none) (he : CE ca X e m) (hs : starEach [e] X.env = [(false, eval e X.env)] := by rfl) :
    CI ca X (.Tuple elts kk tpos) (.Call (.Name "enumerate" p) [e] [] pos) (iEnumT X.K (tCons (We X e) tNil)) (iEnT m) := ⟨pi_enumT hg hm (pa_cons (we_pe X e) pa_nil hs) hs, fun Hf H R σ st Q p h => by
  refine he Hf H R σ st _ p ?_
  unfold iEnT at h
  cases r : m st with
  | fail => rw [r] at h; exact h
  | exc x st => rw [r] at h; exact h
  | ok d st1 =>
    rw [r] at h
    dsimp only [Res.bind] at h
    intro Hf1 H1 P R1 v t1 p1
    cases d with
    | tup ds =>
      dsimp only [tupItems] at h
      by_cases hc : colds ds = true
      · rw [if_pos hc] at h
        obtain ⟨Hf', a, vs, rfl, s1, r1, p2, t2⟩ := p1.walkedT
        exact ⟨a, vs, rfl, sqT_ex p2.w.ex s1, h Hf' H1 R1 _ (t1.trans t2) p2 (itd_enumT s1 r1 hc)⟩
      · rw [if_neg hc] at h; exact h.elim
    | _ => exact h.elim⟩
end
end DL

/-! DL18: a law's end. -/
namespace DL
open PySem L2 PyProof.Rows
def strKeys (es : Array DictEntry) : Bool := es.all fun e => match e.key with
  | .str _ _ => true
  | _ => false
theorem nsOk_of {K : PySem.W.Frag} {N : Addr} {oc : Value} {od : Option Addr} {es : Array DictEntry} {n : Nat} {sl : Array (Option Value)} (l : K.lookup N = some ⟨oc, od, .dict es n, sl⟩) (h : strKeys es = true) : PySem.W.nsOkIn K N = true := by
  unfold PySem.W.nsOkIn
  rw [l]
  exact h
end DL

/-! DL19: lists of whole numbers as data; loops read. -/
namespace DL
open PySem (Str)
open L2 (atI ixN)
def nums (l : List Int) : List D := l.map D.int
theorem nums_nil : nums [] = [] := rfl
theorem nums_cons (a : Int) (l : List Int) : nums (a :: l) = .int a :: nums l := rfl
theorem nums_len (l : List Int) : (nums l).length = l.length := by unfold nums; rw [List.length_map]
theorem nums_app (l k : List Int) : nums (l ++ k) = nums l ++ nums k := by unfold nums; rw [List.map_append]
theorem nums_colds (l : List Int) : colds (nums l) = true := by
  unfold colds nums
  rw [List.all_map]
  exact List.all_eq_true.mpr fun x _ => rfl
theorem nums_frz : ∀ l : List Int, frzL (nums l) = nums l
  | [] => rfl
  | a :: l => by rw [nums_cons, frzL, frz, nums_frz l]
theorem nums_as : ∀ l : List Int, asInts (nums l) = some l
  | [] => rfl
  | a :: l => by rw [nums_cons, asInts, nums_as l]; rfl
theorem scr_items (l : List Int) : l.map D.int = nums l := rfl
theorem ixN_nat {n : Nat} {i : Int} (h0 : 0 ≤ i) (h1 : i < n) : ixN n i = some i.toNat := by
  unfold ixN
  rw [if_pos h0, if_pos h1]
theorem nums_at {l : List Int} {i : Int} (h0 : 0 ≤ i) (h1 : i < l.length) : atI (nums l) i = some (.int (l.getD i.toNat 0)) := by
  unfold atI
  rw [nums_len, ixN_nat h0 h1, Option.bind_some]
  unfold nums
  have h2 : i.toNat < l.length := by omega
  rw [List.getElem?_map, List.getElem?_eq_getElem h2, Option.map_some, List.getD_eq_getElem?_getD, List.getElem?_eq_getElem h2, Option.getD_some]
theorem oIx_nums {o : Bool} {l : List Int} {i : Int} (h0 : 0 ≤ i) (h1 : i < l.length) : oIx [.lst o (nums l), .int i] = some (.val (.int (l.getD i.toNat 0))) := by
  simp [oIx, items, nums_at h0 h1, cold, hot]
theorem oIx_tup {l : List Int} {i : Int} (h0 : 0 ≤ i) (h1 : i < l.length) : oIx [.tup (nums l), .int i] = some (.val (.int (l.getD i.toNat 0))) := by
  simp [oIx, items, nums_at h0 h1, cold, hot]
theorem oIx_scr {l : List Int} {i : Int} (h0 : 0 ≤ i) (h1 : i < l.length) : oIx [.scr l, .int i] = some (.val (.int (l.getD i.toNat 0))) := by
  simp [oIx, items, scr_items, nums_at h0 h1, cold, hot]
/-- a for over data, with an invariant by the items that are behind -/
theorem forD_ok {g : MG} {body : MS} (I : Nat → Sl → Prop) : ∀ (ds : List D) (k : Nat) (st : Sl), I k st →
    (∀ (i : Nat) (d : D) (st : Sl), ds[i]? = some d → I (k + i) st → ∃ st1 st2, g d st = .ok () st1 ∧ (body st1 = .next st2 ∨ body st1 = .cont st2) ∧ I (k + i + 1) st2) → ∃ st', forD g body ds st = .next st' ∧ I (k + ds.length) st'
  | [], k, st, h, _ => ⟨st, rfl, h⟩
  | d :: ds, k, st, h, hs => by
    obtain ⟨st1, st2, e1, e2, h2⟩ := hs 0 d st rfl h
    obtain ⟨st', e3, h3⟩ := forD_ok I ds (k + 1) st2 h2 fun i d' st3 e h4 => by
      have := hs (i + 1) d' st3 (by simpa using e) (by rw [show k + (i + 1) = k + 1 + i by omega]; exact h4)
      rw [show k + (i + 1) + 1 = k + 1 + i + 1 by omega] at this
      exact this
    refine ⟨st', ?_, by rw [show k + (d :: ds).length = k + 1 + ds.length by rw [List.length_cons]; omega]; exact h3⟩
    rw [forD, e1]
    show (match body st1 with | .next st2 => forD g body ds st2 | .cont st2 => forD g body ds st2 | .brk st2 => .next st2 | r => r) = _
    rcases e2 with e2 | e2
    · rw [e2]; exact e3
    · rw [e2]; exact e3
/-- a comprehension's loop, with an invariant -/
theorem compD_ok {g : MG} {t : MT} {e : ME} {vs : List Nat} (I : Nat → Sl → List D → Prop) : ∀ (ds : List D) (k : Nat) (st : Sl) (acc : List D), I k st acc →
    (∀ (i : Nat) (d : D) (st : Sl) (acc : List D), ds[i]? = some d → I (k + i) st acc → ∃ st1 b st2, g d st = .ok () st1 ∧ t st1 = .ok b st2 ∧
      (b = false → I (k + i + 1) (wipeS st2 vs) acc) ∧ (b = true → acc.length < 16777216 ∧ ∃ y st3, e st2 = .ok y st3 ∧ I (k + i + 1) (wipeS st3 vs) (acc ++ [y]))) →
    ∃ acc' st', compD g t e vs ds st acc = .ok acc' st' ∧ I (k + ds.length) st' acc'
  | [], k, st, acc, h, _ => ⟨acc, st, rfl, h⟩
  | d :: ds, k, st, acc, h, hs => by
    obtain ⟨st1, b, st2, e1, e2, h2, h3⟩ := hs 0 d st acc rfl h
    have step : ∀ st' acc', I (k + 1) st' acc' → ∃ acc2 st2, compD g t e vs ds st' acc' = .ok acc2 st2 ∧ I (k + (d :: ds).length) st2 acc2 := fun st' acc' h' => by
      obtain ⟨a2, s2, q1, q2⟩ := compD_ok I ds (k + 1) st' acc' h' fun i d' st3 acc3 e' h4 => by
        have := hs (i + 1) d' st3 acc3 (by simpa using e') (by rw [show k + (i + 1) = k + 1 + i by omega]; exact h4)
        rw [show k + (i + 1) + 1 = k + 1 + i + 1 by omega] at this
        exact this
      exact ⟨a2, s2, q1, by rw [show k + (d :: ds).length = k + 1 + ds.length by rw [List.length_cons]; omega]; exact q2⟩
    rw [compD, e1]
    dsimp only [Res.noX, Res.bind]
    rw [e2]
    dsimp only
    cases b with
    | false =>
      rw [if_neg (by decide)]
      exact step _ _ (h2 rfl)
    | true =>
      obtain ⟨hl, y, st3, e3, h4⟩ := h3 rfl
      rw [if_pos rfl, e3]
      dsimp only
      rw [if_pos hl]
      exact step _ _ h4
theorem rangeD_get {lo : Int} {n i : Nat} {d : D} (h : (rangeD lo n)[i]? = some d) : i < n ∧ d = .int (lo + i) := by
  unfold rangeD at h
  rw [List.getElem?_map] at h
  cases e : (List.range n)[i]? with
  | none =>
    rw [e] at h
    cases h
  | some j =>
    rw [e] at h
    have hi : i < n := by
      have := (List.getElem?_eq_some_iff.mp e).1
      simpa using this
    have : j = i := by
      have := (List.getElem?_eq_some_iff.mp e).2
      simp at this
      exact this.symm
    subst this
    exact ⟨hi, (Option.some.inj h).symm⟩
theorem rangeD_len (lo : Int) (n : Nat) : (rangeD lo n).length = n := by unfold rangeD; rw [List.length_map, List.length_range]
theorem nums_get {l : List Int} {i : Nat} {d : D} (h : (nums l)[i]? = some d) : ∃ x, l[i]? = some x ∧ d = .int x := by
  unfold nums at h
  rw [List.getElem?_map] at h
  cases e : l[i]? with
  | none =>
    rw [e] at h
    cases h
  | some x => rw [e] at h; exact ⟨x, rfl, (Option.some.inj h).symm⟩
theorem colds_range (lo : Int) (n : Nat) : colds (rangeD lo n) = true := by
  unfold colds rangeD
  rw [List.all_map]
  exact List.all_eq_true.mpr fun x _ => rfl
theorem nums_py : ∀ l : List Int, toPyL (nums l) = l.map PySem.PyData.int
  | [] => by rw [nums_nil, toPyL]; rfl
  | a :: l => by rw [nums_cons, toPyL, toPy, nums_py l]; rfl
theorem lay_nums : ∀ l : List Int, PySem.PyData.canLayAll0 (l.map PySem.PyData.int) = true
  | [] => by rw [List.map_nil, PySem.PyData.canLayAll0]
  | a :: l => by rw [List.map_cons, PySem.PyData.canLayAll0, lay_nums l, PySem.PyData.canLay0]; rfl
theorem depth_nums : ∀ l : List Int, PySem.PyData.depthAll (l.map PySem.PyData.int) = 0
  | [] => by rw [List.map_nil, PySem.PyData.depthAll]
  | a :: l => by rw [List.map_cons, PySem.PyData.depthAll, depth_nums l, PySem.PyData.depth]; rfl
theorem eqv_nums : ∀ l k : List Int, PySem.PyData.eqvAll (l.map PySem.PyData.int) (k.map PySem.PyData.int) = decide (l = k)
  | [], [] => by rw [List.map_nil, PySem.PyData.eqvAll]; rfl
  | [], b :: k => by rw [List.map_nil, List.map_cons, PySem.PyData.eqvAll]; rfl
  | a :: l, [] => by rw [List.map_nil, List.map_cons, PySem.PyData.eqvAll]; rfl
  | a :: l, b :: k => by
    rw [List.map_cons, List.map_cons, PySem.PyData.eqvAll, eqv_nums l k, PySem.PyData.eqv]
    by_cases h : a = b <;> by_cases h2 : l = k <;> simp [h, h2]
theorem sh_int (a : Int) : PySem.SeqAt.shaped (toPy (.int a)) = true := by
  rw [toPy]
  unfold PySem.SeqAt.shaped
  rw [PySem.PyData.canLay0, PySem.PyData.depth]
  rfl
theorem sh_bl (a : Bool) : PySem.SeqAt.shaped (toPy (.bl a)) = true := by
  rw [toPy]
  unfold PySem.SeqAt.shaped
  rw [PySem.PyData.canLay0, PySem.PyData.depth]
  rfl
theorem sh_lst (o : Bool) (l : List Int) : PySem.SeqAt.shaped (toPy (.lst o (nums l))) = true := by
  rw [toPy, nums_py]
  unfold PySem.SeqAt.shaped
  rw [PySem.PyData.canLay0, PySem.PyData.depth, lay_nums, depth_nums]
  rfl
theorem sh_tup (l : List Int) : PySem.SeqAt.shaped (toPy (.tup (nums l))) = true := by
  rw [toPy, nums_py]
  unfold PySem.SeqAt.shaped
  rw [PySem.PyData.canLay0, PySem.PyData.depth, lay_nums, depth_nums]
  rfl
theorem pEq_int (a b : Int) : pEq (.int a) (.int b) = some (.bl (decide (a = b))) := by
  unfold pEq
  rw [sh_int, sh_int, toPy, toPy, PySem.PyData.eqv]
  by_cases h : a = b <;> simp [h]
theorem pNe_int (a b : Int) : pNe (.int a) (.int b) = some (.bl (!decide (a = b))) := by
  unfold pNe
  rw [sh_int, sh_int, toPy, toPy, PySem.PyData.eqv]
  by_cases h : a = b <;> simp [h]
theorem pEq_bl (a b : Bool) : pEq (.bl a) (.bl b) = some (.bl (decide (a = b))) := by
  unfold pEq
  rw [sh_bl, sh_bl, toPy, toPy, PySem.PyData.eqv]
  by_cases h : a = b <;> simp [h]
theorem pNe_bl (a b : Bool) : pNe (.bl a) (.bl b) = some (.bl (!decide (a = b))) := by
  unfold pNe
  rw [sh_bl, sh_bl, toPy, toPy, PySem.PyData.eqv]
  by_cases h : a = b <;> simp [h]
theorem pEq_lst (o p : Bool) (l k : List Int) : pEq (.lst o (nums l)) (.lst p (nums k)) = some (.bl (decide (l = k))) := by
  unfold pEq
  rw [sh_lst, sh_lst, toPy, toPy, nums_py, nums_py, PySem.PyData.eqv, eqv_nums]
  rfl
theorem pNe_lst (o p : Bool) (l k : List Int) : pNe (.lst o (nums l)) (.lst p (nums k)) = some (.bl (!decide (l = k))) := by
  unfold pNe
  rw [sh_lst, sh_lst, toPy, toPy, nums_py, nums_py, PySem.PyData.eqv, eqv_nums]
  rfl
theorem pEq_tup (l k : List Int) : pEq (.tup (nums l)) (.tup (nums k)) = some (.bl (decide (l = k))) := by
  unfold pEq
  rw [sh_tup, sh_tup, toPy, toPy, nums_py, nums_py, PySem.PyData.eqv, eqv_nums]
  rfl
theorem pNe_tup (l k : List Int) : pNe (.tup (nums l)) (.tup (nums k)) = some (.bl (!decide (l = k))) := by
  unfold pNe
  rw [sh_tup, sh_tup, toPy, toPy, nums_py, nums_py, PySem.PyData.eqv, eqv_nums]
  rfl
theorem eLenI_v {C : Nat} {f : MF} {m : ME} {st st2 : Sl} {x : D} {n : Nat} {ps : Sl} (h : m st = .ok x st2) (hc : insC x = some C) (hf : f [x] = .ok (.int (n : Int)) ps) (hn : n < 1000000000) : eLenI C f (.v m) st = .ok (.int (n : Int)) st2 := by
  unfold eLenI
  rw [opds, h]
  dsimp only [Res.bind, opds, Option.map]
  rw [if_pos hc, hf]
  dsimp only
  rw [if_pos ⟨by omega, by omega⟩]
theorem eOp2_v {f : List D → Option Out} {m1 m2 : ME} {st st1 st2 : Sl} {a b : D} {o : Out} (h1 : m1 st = .ok a st1) (h2 : m2 st1 = .ok b st2) (hf : f [a, b] = some o) : eOp f [.v m1, .v m2] st = .ok o.d st2 := by
  unfold eOp
  rw [opds, h1]
  dsimp only [Res.bind]
  rw [opds, h2]
  dsimp only [Res.bind, opds, Option.map, Option.bind]
  rw [hf]
theorem fn_ret {n w : Nat} {L : List Nat} {body : MS} {ds : List D} {d : D} {st : Sl} (hl : ds.length = n) (h : body (ds.map some ++ List.replicate (w - n) none) = .ret d st) : fn n w L body ds = .ok d (keepL L n st) := by
  unfold fn
  rw [if_pos hl, h]
theorem sRet_ok {m : ME} {st st1 : Sl} {d : D} (h : m st = .ok d st1) : sRet m st = .ret d st1 := by
  unfold sRet
  rw [h]
  rfl
theorem sSeq_next {a b : MS} {st st1 : Sl} {r : SR} (h : a st = .next st1) (h2 : b st1 = r) : sSeq a b st = r := by
  unfold sSeq
  rw [h]
  exact h2
theorem sAsg_ok {m : ME} {g : MG} {st st1 st2 : Sl} {d : D} (h : m st = .ok d st1) (h2 : g d st1 = .ok () st2) : sAsg m g st = .next st2 := by
  unfold sAsg
  rw [h]
  show (g d st1).toN _ = _
  rw [h2]
  rfl
theorem sIf_ok {c : MT} {a b : MS} {st st1 : Sl} {k : Bool} (h : c st = .ok k st1) : sIf c a b st = if k then a st1 else b st1 := by
  unfold sIf
  rw [h]
  rfl
theorem tE_ok {m : ME} {st st1 : Sl} {k : Bool} (h : m st = .ok (.bl k) st1) : tE m st = .ok k st1 := by
  unfold tE
  rw [h]
  rfl
theorem tOr_ok {a b : MT} {st st1 st2 : Sl} {k : Bool} (h : a st = .ok false st1) (h2 : b st1 = .ok k st2) : tOrM a b st = .ok k st2 := by
  unfold tOrM
  rw [h]
  exact h2
theorem eEqI_v {neg : Bool} {C : Nat} {f : MF} {m1 m2 : ME} {st st1 st2 : Sl} {a b : D} {k : Bool} {ps : Sl} (h1 : m1 st = .ok a st1) (h2 : m2 st1 = .ok b st2) (ha : insC a = some C) (hb : insC b = some C) (hf : f [a, b] = .ok (.bl k) ps) : eEqI neg C f (.v m1) (.v m2) st = .ok (.bl (if neg then !k else k)) st2 := by
  unfold eEqI
  rw [opds, h1]
  dsimp only [Res.bind]
  rw [opds, h2]
  dsimp only [Res.bind, opds, Option.map]
  rw [if_pos ⟨ha, hb⟩, hf]
theorem eFz_v {m : ME} {st st1 : Sl} {a : D} (h : m st = .ok a st1) : eFz m st = .ok (frz a) st1 := by
  unfold eFz
  rw [h]
  rfl
theorem eOp1_v {f : List D → Option Out} {m1 : ME} {st st1 : Sl} {a : D} {o : Out} (h1 : m1 st = .ok a st1) (hf : f [a] = some o) : eOp f [.v m1] st = .ok o.d st1 := by
  unfold eOp
  rw [opds, h1]
  dsimp only [Res.bind, opds, Option.map, Option.bind]
  rw [hf]
theorem eOpvs_v {f : List D → Option Out} {m1 : ME} {i : Nat} {st st1 : Sl} {a b : D} {o : Out} (h1 : m1 st = .ok a st1) (h2 : getS st1 i = some b) (hf : f [a, b] = some o) : eOp f [.v m1, .s i] st = .ok o.d st1 := by
  unfold eOp
  rw [opds, h1]
  dsimp only [Res.bind]
  rw [opds, if_pos (by rw [h2]; rfl)]
  dsimp only [opds, Option.map, Option.bind]
  rw [h2]
  dsimp only
  rw [hf]
theorem iR1_v {m : ME} {st st1 : Sl} {n : Nat} {j : Int} (hj : j = (n : Int)) (h : m st = .ok (.int j) st1) (hs : small62 j = true) : iR1 m st = .ok (rangeD 0 n) st1 := by
  have e : j.toNat = n := by omega
  simp only [iR1, h, Res.bind, hs, if_true, e]
theorem eN_v {i : Nat} {st : Sl} {d : D} (h : getS st i = some d) (hc : hot d = false) : eN i st = .ok d st := by
  unfold eN
  rw [h]
  dsimp only
  rw [hc]
  rfl
theorem eNf_v {i : Nat} {st : Sl} {d : D} (h : getS st i = some d) (hc : hot d = true) : eN i st = .ok (frz d) (st.set i (some (frz d))) := by
  unfold eN
  rw [h]
  dsimp only
  rw [hc]
  rfl
theorem eOp1_s {f : List D → Option Out} {i : Nat} {st : Sl} {a : D} {o : Out} (h1 : getS st i = some a) (hf : f [a] = some o) : eOp f [.s i] st = .ok o.d st := by
  unfold eOp
  rw [opds, if_pos (by rw [h1]; rfl)]
  dsimp only [opds, Option.map, Option.bind]
  rw [h1]
  dsimp only
  rw [hf]
theorem oLen_l {o : Bool} {l : List Int} : oLen [.lst o (nums l)] = some (.val (.int (l.length : Nat))) := by
  show some (Out.val (.int (nums l).length)) = _
  rw [nums_len]
theorem oMul_v {i j : Int} (h : -(2 ^ 64) < j ∧ j < 2 ^ 64) : oMul [.int i, .int j] = some (.val (.int (i * j))) := by
  show (if (-(2 ^ 64) < i ∧ i < 2 ^ 64) ∨ (-(2 ^ 64) < j ∧ j < 2 ^ 64) then some (Out.val (.int (i * j))) else none) = _
  rw [if_pos (.inr h)]
theorem oMod_v {i j : Int} (h : 0 < j) : oMod [.int i, .int j] = some (.val (.int (i % j))) := by
  show (if 0 < j then some (Out.val (.int (i % j))) else none) = _
  rw [if_pos h]
theorem oDiv_v {i j : Int} (h : 0 < j) (h2 : j < 9000) : oDiv [.int i, .int j] = some (.val (.int (i / j))) := by
  show (if 0 < j ∧ j.natAbs.log2 < 9000 then some (Out.val (.int (i / j))) else none) = _
  rw [if_pos ⟨h, by
    have := Nat.log2_le_self j.natAbs
    omega⟩]
theorem oPow_v {i j : Int} (h : 0 ≤ j ∧ j ≤ 1000000) (h2 : i.natAbs < 2 ^ 64) : oPow [.int i, .int j] = some (.val (.int (i ^ j.toNat))) := by
  show (if 0 ≤ j ∧ j ≤ 1000000 ∧ i.natAbs < 2 ^ 64 then some (Out.val (.int (i ^ j.toNat))) else none) = _
  rw [if_pos ⟨h.1, h.2, h2⟩]
theorem ix2_0 {o : Bool} {a b : Int} : oIx [.lst o [.int a, .int b], .int 0] = some (.val (.int a)) := oIx_nums (l := [a, b]) (i := 0) (by decide) (by show (0 : Int) < ((2 : Nat) : Int); decide)
theorem ix2_1 {o : Bool} {a b : Int} : oIx [.lst o [.int a, .int b], .int 1] = some (.val (.int b)) := oIx_nums (l := [a, b]) (i := 1) (by decide) (by show (1 : Int) < ((2 : Nat) : Int); decide)
theorem ixN2_0 : L2.ixN 2 0 = some 0 := rfl
theorem ixN2_1 : L2.ixN 2 1 = some 1 := rfl
theorem oMul_l {i j : Int} (h : -(2 ^ 64) < i ∧ i < 2 ^ 64) : oMul [.int i, .int j] = some (.val (.int (i * j))) := by
  show (if (-(2 ^ 64) < i ∧ i < 2 ^ 64) ∨ (-(2 ^ 64) < j ∧ j < 2 ^ 64) then some (Out.val (.int (i * j))) else none) = _
  rw [if_pos (.inl h)]
theorem cut_nums (l : List Int) (lo hi : Option Int) : ∃ k, cutD (nums l) lo hi = nums k ∧ k.length ≤ l.length := by
  refine ⟨(l.drop (HT.sIx l.length 0 lo)).take (HT.sIx l.length l.length hi - HT.sIx l.length 0 lo), ?_, ?_⟩
  · unfold cutD nums
    rw [List.length_map, List.map_take, List.map_drop]
  · rw [List.length_take, List.length_drop]
    omega
theorem oSl01_scr (l : List Int) (j : Int) (hl : l.length ≤ 63) : ∃ k, oSl01 [.scr l, .int j] = some (.newL (nums k)) := by
  obtain ⟨k, e, h⟩ := cut_nums l none (some j)
  refine ⟨k, ?_⟩
  show newLc (cutD (nums l) none (some j)) = _
  rw [e]
  unfold newLc
  rw [nums_colds, nums_len, decide_eq_true (by omega : k.length ≤ 16777216)]
  rfl
theorem oSum_nums (o : Bool) (k : List Int) : oSum [.lst o (nums k)] = some (.val (.int k.sum)) := by
  unfold oSum lstItems
  dsimp only [Option.bind]
  rw [nums_as]
  rfl
theorem oLen_scr (l : List Int) : oLen [.scr l] = some (.val (.int (l.length : Nat))) := by
  show some (Out.val (.int (l.map D.int).length)) = _
  rw [List.length_map]
theorem eLc_v {src : Sl → Res (List D)} {g : MG} {t : MT} {e : ME} {vs : List Nat} {st st1 st2 : Sl} {ds acc : List D} (h1 : src st = .ok ds st1) (h2 : compD g t e vs ds (wipeS st1 vs) [] = .ok acc st2) : eLc src g t e vs st = .ok (.lst true acc) st2 := by
  unfold eLc
  rw [h1]
  dsimp only [Res.bind]
  rw [h2]
theorem eOpsv_v {f : List D → Option Out} {m1 : ME} {i : Nat} {st st1 : Sl} {a b : D} {o : Out} (h0 : (getS st i).isSome = true) (h1 : m1 st = .ok b st1) (h2 : getS st1 i = some a) (hf : f [a, b] = some o) : eOp f [.s i, .v m1] st = .ok o.d st1 := by
  unfold eOp
  rw [opds, if_pos h0, opds, h1]
  dsimp only [Res.bind, opds, Option.map, Option.bind]
  rw [h2]
  dsimp only
  rw [hf]
theorem kb_NoneType_int : L2.kitB "NoneType" "int" = some false := by kernel_rfl
theorem kb_NoneType_bool : L2.kitB "NoneType" "bool" = some false := by kernel_rfl
theorem kb_NoneType_list : L2.kitB "NoneType" "list" = some false := by kernel_rfl
theorem kb_NoneType_tuple : L2.kitB "NoneType" "tuple" = some false := by kernel_rfl
theorem kb_NoneType_str : L2.kitB "NoneType" "str" = some false := by kernel_rfl
theorem kb_bool_int : L2.kitB "bool" "int" = some true := by kernel_rfl
theorem kb_bool_bool : L2.kitB "bool" "bool" = some true := by kernel_rfl
theorem kb_bool_list : L2.kitB "bool" "list" = some false := by kernel_rfl
theorem kb_bool_tuple : L2.kitB "bool" "tuple" = some false := by kernel_rfl
theorem kb_bool_str : L2.kitB "bool" "str" = some false := by kernel_rfl
theorem kb_int_int : L2.kitB "int" "int" = some true := by kernel_rfl
theorem kb_int_bool : L2.kitB "int" "bool" = some false := by kernel_rfl
theorem kb_int_list : L2.kitB "int" "list" = some false := by kernel_rfl
theorem kb_int_tuple : L2.kitB "int" "tuple" = some false := by kernel_rfl
theorem kb_int_str : L2.kitB "int" "str" = some false := by kernel_rfl
theorem kb_str_int : L2.kitB "str" "int" = some false := by kernel_rfl
theorem kb_str_bool : L2.kitB "str" "bool" = some false := by kernel_rfl
theorem kb_str_list : L2.kitB "str" "list" = some false := by kernel_rfl
theorem kb_str_tuple : L2.kitB "str" "tuple" = some false := by kernel_rfl
theorem kb_str_str : L2.kitB "str" "str" = some true := by kernel_rfl
theorem kb_list_int : L2.kitB "list" "int" = some false := by kernel_rfl
theorem kb_list_bool : L2.kitB "list" "bool" = some false := by kernel_rfl
theorem kb_list_list : L2.kitB "list" "list" = some true := by kernel_rfl
theorem kb_list_tuple : L2.kitB "list" "tuple" = some false := by kernel_rfl
theorem kb_list_str : L2.kitB "list" "str" = some false := by kernel_rfl
theorem kb_tuple_int : L2.kitB "tuple" "int" = some false := by kernel_rfl
theorem kb_tuple_bool : L2.kitB "tuple" "bool" = some false := by kernel_rfl
theorem kb_tuple_list : L2.kitB "tuple" "list" = some false := by kernel_rfl
theorem kb_tuple_tuple : L2.kitB "tuple" "tuple" = some true := by kernel_rfl
theorem kb_tuple_str : L2.kitB "tuple" "str" = some false := by kernel_rfl
theorem kb_dict_int : L2.kitB "dict" "int" = some false := by kernel_rfl
theorem kb_dict_bool : L2.kitB "dict" "bool" = some false := by kernel_rfl
theorem kb_dict_list : L2.kitB "dict" "list" = some false := by kernel_rfl
theorem kb_dict_tuple : L2.kitB "dict" "tuple" = some false := by kernel_rfl
theorem kb_dict_str : L2.kitB "dict" "str" = some false := by kernel_rfl
end DL

/-! DL20: the plain law of comparators between neighbours: exchanges, active steps, inversions. -/
namespace Nw
def hit (l : List Int) (s : Int) : Bool := decide (l.getD s.toNat 0 < l.getD (s - 1).toNat 0)
def xch (l : List Int) (s : Int) : List Int := (l.set (s - 1).toNat (l.getD s.toNat 0)).set s.toNat (l.getD (s - 1).toNat 0)
def stp (l : List Int) (s : Int) : List Int := if hit l s then xch l s else l
def runL (ss : List Int) (l : List Int) : List Int := ss.foldl stp l
def okS (w : Int) (ss : List Int) : Prop := ∀ s ∈ ss, 1 ≤ s ∧ s ≤ w - 1
def actS : List Int → List Int → List Int
  | [], _ => []
  | s :: ss, l => if hit l s then s :: actS ss (stp l s) else actS ss (stp l s)
theorem stp_len (l : List Int) (s : Int) : (stp l s).length = l.length := by
  unfold stp xch
  split <;> simp
/-! ### inversions -/
def cnt (x : Int) (p : List Int) : Nat := (p.filter fun y => decide (x < y)).length
def invP : List Int → List Int → Nat
  | _, [] => 0
  | p, x :: r => cnt x p + invP (p ++ [x]) r
def inv (l : List Int) : Nat := invP [] l
theorem cnt_app (x : Int) (p q : List Int) : cnt x (p ++ q) = cnt x p + cnt x q := by unfold cnt; rw [List.filter_append, List.length_append]
theorem cnt_one (x y : Int) : cnt x [y] = if x < y then 1 else 0 := by
  unfold cnt
  by_cases h : x < y <;> simp [h]
theorem xch_split {p r : List Int} {a b : Int} {s : Int} (h1 : 1 ≤ s) (hp : (p.length : Int) = s - 1) : xch (p ++ a :: b :: r) s = p ++ b :: a :: r := by
  have e1 : (s - 1).toNat = p.length := by omega
  have e2 : s.toNat = p.length + 1 := by omega
  unfold xch
  rw [e1, e2]
  have g1 : (p ++ a :: b :: r).getD p.length 0 = a := by
    rw [List.getD_eq_getElem?_getD, List.getElem?_append_right (Nat.le_refl _), Nat.sub_self]; rfl
  have g2 : (p ++ a :: b :: r).getD (p.length + 1) 0 = b := by
    rw [List.getD_eq_getElem?_getD, List.getElem?_append_right (by omega), show p.length + 1 - p.length = 1 by omega]; rfl
  rw [g1, g2, List.set_append_right _ _ (Nat.le_refl _), Nat.sub_self, List.set_cons_zero, List.set_append_right _ _ (by omega), show p.length + 1 - p.length = 1 by omega]
  rfl
def desc : Nat → List Int
  | 0 => []
  | n + 1 => ((n + 1 : Nat) : Int) :: desc n
theorem desc_len : ∀ n, (desc n).length = n
  | 0 => rfl
  | n + 1 => by rw [desc, List.length_cons, desc_len n]
theorem cnt_all {x : Int} : ∀ {p : List Int}, (∀ y ∈ p, x < y) → cnt x p = p.length
  | [], _ => rfl
  | a :: p, h => by
    have := cnt_all (x := x) (p := p) fun y hy => h y (List.mem_cons_of_mem _ hy)
    unfold cnt at this ⊢
    rw [List.filter_cons, if_pos (decide_eq_true (h a List.mem_cons_self)), List.length_cons, List.length_cons, this]
end Nw

/-! DL21: the relations of the steps; every network is as a normal one. -/
namespace Nw
/-- the step between the places i and i + 1 -/
def sN (l : List Int) (i : Nat) : List Int := stp l ((i : Int) + 1)
theorem sN_len (l : List Int) (i : Nat) : (sN l i).length = l.length := stp_len _ _
theorem sN_get {l : List Int} {i : Nat} (h : i + 1 < l.length) (k : Nat) : (sN l i).getD k 0 = if k = i then min (l.getD i 0) (l.getD (i + 1) 0) else if k = i + 1 then max (l.getD i 0) (l.getD (i + 1) 0) else l.getD k 0 := by
  have e1 : ((i : Int) + 1).toNat = i + 1 := by omega
  have e2 : ((i : Int) + 1 - 1).toNat = i := by omega
  unfold sN stp hit xch
  rw [e1, e2]
  by_cases hh : l.getD (i + 1) 0 < l.getD i 0
  · rw [if_pos (decide_eq_true hh)]
    simp only [List.getD_eq_getElem?_getD, List.getElem?_set, List.length_set]
    simp only [List.getD_eq_getElem?_getD] at hh
    by_cases k1 : k = i
    · subst k1
      rw [if_neg (by omega), if_pos rfl, if_pos (by omega), if_pos rfl]
      simp only [Option.getD_some]
      omega
    · by_cases k2 : k = i + 1
      · subst k2
        rw [if_pos rfl, if_pos (by omega), if_neg (by omega), if_pos rfl]
        simp only [Option.getD_some]
        omega
      · rw [if_neg (by omega), if_neg (by omega), if_neg k1, if_neg k2]
  · rw [if_neg (by simpa using hh)]
    by_cases k1 : k = i
    · subst k1
      rw [if_pos rfl]
      omega
    · rw [if_neg k1]
      by_cases k2 : k = i + 1
      · subst k2
        rw [if_pos rfl]
        omega
      · rw [if_neg k2]
theorem ext_get {l m : List Int} (hl : l.length = m.length) (h : ∀ k, l.getD k 0 = m.getD k 0) : l = m := by
  apply List.ext_getElem hl
  intro k h1 h2
  have := h k
  rw [List.getD_eq_getElem?_getD, List.getD_eq_getElem?_getD, List.getElem?_eq_getElem h1, List.getElem?_eq_getElem h2] at this
  exact this
theorem sN_idem {l : List Int} {i : Nat} (h : i + 1 < l.length) : sN (sN l i) i = sN l i := by
  apply ext_get (by rw [sN_len])
  intro k
  rw [sN_get (by rw [sN_len]; exact h)]
  simp only [sN_get h, if_true]
  by_cases k1 : k = i <;> by_cases k2 : k = i + 1 <;> simp [k1, k2] <;> omega
theorem sN_comm {l : List Int} {i j : Nat} (hi : i + 1 < l.length) (hj : j + 1 < l.length) (hij : i + 2 ≤ j) : sN (sN l i) j = sN (sN l j) i := by
  apply ext_get (by rw [sN_len, sN_len, sN_len, sN_len])
  intro k
  rw [sN_get (l := sN l i) (i := j) (by rw [sN_len]; exact hj), sN_get (l := sN l j) (i := i) (by rw [sN_len]; exact hi)]
  simp only [sN_get hi, sN_get hj]
  rw [if_neg (show ¬ j = i by omega), if_neg (show ¬ j = i + 1 by omega), if_neg (show ¬ j + 1 = i by omega), if_neg (show ¬ j + 1 = i + 1 by omega), if_neg (show ¬ i = j by omega), if_neg (show ¬ i = j + 1 by omega), if_neg (show ¬ i + 1 = j by omega), if_neg (show ¬ i + 1 = j + 1 by omega)]
  by_cases k1 : k = i
  · rw [if_neg (by omega), if_neg (by omega), if_pos k1, if_pos k1]
  · by_cases k2 : k = i + 1
    · rw [if_neg (by omega), if_neg (by omega), if_neg k1, if_pos k2, if_neg k1, if_pos k2]
    · rw [if_neg k1, if_neg k2, if_neg k1, if_neg k2]
theorem sN_braid {l : List Int} {i : Nat} (h : i + 2 < l.length) : sN (sN (sN l (i + 1)) i) (i + 1) = sN (sN (sN l i) (i + 1)) i := by
  apply ext_get (by simp only [sN_len])
  intro k
  have h1 : i + 1 < l.length := by omega
  have g1 : ∀ k, (sN l (i + 1)).getD k 0 = if k = i + 1 then min (l.getD (i + 1) 0) (l.getD (i + 1 + 1) 0) else if k = i + 1 + 1 then max (l.getD (i + 1) 0) (l.getD (i + 1 + 1) 0) else l.getD k 0 := fun k => sN_get h k
  have g2 : ∀ k, (sN l i).getD k 0 = if k = i then min (l.getD i 0) (l.getD (i + 1) 0) else if k = i + 1 then max (l.getD i 0) (l.getD (i + 1) 0) else l.getD k 0 := fun k => sN_get h1 k
  have g3 : ∀ k, (sN (sN l (i + 1)) i).getD k 0 = if k = i then min ((sN l (i + 1)).getD i 0) ((sN l (i + 1)).getD (i + 1) 0) else if k = i + 1 then max ((sN l (i + 1)).getD i 0) ((sN l (i + 1)).getD (i + 1) 0) else (sN l (i + 1)).getD k 0 := fun k => sN_get (by rw [sN_len]; exact h1) k
  have g4 : ∀ k, (sN (sN l i) (i + 1)).getD k 0 = if k = i + 1 then min ((sN l i).getD (i + 1) 0) ((sN l i).getD (i + 1 + 1) 0) else if k = i + 1 + 1 then max ((sN l i).getD (i + 1) 0) ((sN l i).getD (i + 1 + 1) 0) else (sN l i).getD k 0 := fun k => sN_get (by rw [sN_len]; exact h) k
  rw [sN_get (l := sN (sN l (i + 1)) i) (i := i + 1) (by rw [sN_len, sN_len]; exact h), sN_get (l := sN (sN l i) (i + 1)) (i := i) (by rw [sN_len, sN_len]; exact h1)]
  simp only [g3, g4, g1, g2]
  generalize l.getD i 0 = a
  generalize l.getD (i + 1) 0 = b
  generalize l.getD (i + 1 + 1) 0 = c
  generalize l.getD k 0 = d
  by_cases k1 : k = i
  · subst k1
    simp
    omega
  · by_cases k2 : k = i + 1
    · subst k2
      simp
      omega
    · by_cases k3 : k = i + 1 + 1
      · subst k3
        simp
        omega
      · simp [k1, k2, k3]
/-! ### words of steps, by the left place -/
def runN (w : List Nat) (l : List Int) : List Int := w.foldl sN l
theorem runN_app (a b : List Nat) (l : List Int) : runN (a ++ b) l = runN b (runN a l) := by unfold runN; rw [List.foldl_append]
theorem runN_cons (i : Nat) (a : List Nat) (l : List Int) : runN (i :: a) l = runN a (sN l i) := rfl
theorem runN_one (i : Nat) (l : List Int) : runN [i] l = sN l i := rfl
theorem runN_len : ∀ (w : List Nat) (l : List Int), (runN w l).length = l.length
  | [], _ => rfl
  | i :: w, l => by rw [runN_cons, runN_len w, sN_len]
theorem sN_comm2 {l : List Int} {i j : Nat} (hi : i + 1 < l.length) (hj : j + 1 < l.length) (h : i + 2 ≤ j ∨ j + 2 ≤ i) : sN (sN l i) j = sN (sN l j) i := by
  rcases h with h | h
  · exact sN_comm hi hj h
  · exact (sN_comm hj hi h).symm
theorem comm_past {i : Nat} : ∀ (ds : List Nat) (l : List Int), i + 1 < l.length → (∀ d ∈ ds, d + 1 < l.length ∧ (i + 2 ≤ d ∨ d + 2 ≤ i)) → runN (ds ++ [i]) l = runN (i :: ds) l
  | [], _, _, _ => rfl
  | d :: ds, l, hi, h => by
    obtain ⟨hd, hc⟩ := h d List.mem_cons_self
    have ih := comm_past ds (sN l d) (by rw [sN_len]; exact hi) fun e he => by
      rw [sN_len]
      exact h e (List.mem_cons_of_mem _ he)
    rw [List.cons_append, runN_cons, ih, runN_cons, runN_cons, runN_cons, sN_comm2 hd hi (hc.symm)]
/-- a descending block: m, m - 1, .. (c of them) -/
def dn : Nat → Nat → List Nat
  | _, 0 => []
  | m, c + 1 => m :: dn (m - 1) c
theorem dn_mem : ∀ (c m : Nat), c ≤ m + 1 → ∀ d ∈ dn m c, d ≤ m ∧ m < d + c
  | 0, _, _, d, h => by cases h
  | c + 1, m, hc, d, h => by
    rcases List.mem_cons.mp h with h | h
    · subst h
      omega
    · cases m with
      | zero =>
        have : c = 0 := by omega
        subst this
        cases h
      | succ m =>
        have := dn_mem c m (by omega) d h
        omega
theorem dn_snoc : ∀ (c m : Nat), c ≤ m → dn m (c + 1) = dn m c ++ [m - c]
  | 0, m, _ => rfl
  | c + 1, m, h => by
    rw [dn, dn_snoc c (m - 1) (by omega), dn, List.cons_append, show m - 1 - c = m - (c + 1) by omega]
/-- a step that lies within a block goes through it, one place lower -/
theorem push : ∀ (c m i : Nat) (l : List Int), c ≤ m + 1 → m + 1 < i + c → i ≤ m → m + 1 < l.length → runN (dn m c ++ [i]) l = runN ((i - 1) :: dn m c) l
  | 0, m, i, l, _, h1, h2, _ => by omega
  | c + 1, m, i, l, hc, h1, h2, hl => by
    by_cases him : i = m
    · subst him
      cases c with
      | zero => omega
      | succ c =>
        obtain ⟨k, rfl⟩ : ∃ k, i = k + 1 := ⟨i - 1, by omega⟩
        have far := comm_past (i := k + 1) (dn (k - 1) c) (sN (sN l (k + 1)) k) (by rw [sN_len, sN_len]; omega) fun d hd => by
          rw [sN_len, sN_len]
          cases k with
          | zero =>
            have : c = 0 := by omega
            subst this
            cases hd
          | succ k =>
            have := dn_mem c k (by omega) d hd
            omega
        show runN (dn (k - 1) c ++ [k + 1]) (sN (sN l (k + 1)) k) = runN (dn (k - 1) c) (sN (sN (sN l k) (k + 1)) k)
        rw [far, runN_cons, sN_braid (by omega)]
    · have ih := push c (m - 1) i (sN l m) (by omega) (by omega) (by omega) (by rw [sN_len]; omega)
      show runN (dn (m - 1) c ++ [i]) (sN l m) = runN (dn (m - 1) c) (sN (sN l (i - 1)) m)
      rw [ih, runN_cons, sN_comm2 (l := l) (i := m) (j := i - 1) hl (by omega) (.inr (by omega))]
/-! ### normal words by codes; a code is given from its end -/
def nfR : List Nat → List Nat
  | [] => []
  | c :: r => nfR r ++ dn r.length c
def okC : List Nat → Prop
  | [] => True
  | c :: r => c ≤ r.length + 1 ∧ okC r
/-- a step behind a normal word: a normal word again -/
theorem absorb : ∀ (cs : List Nat) (i : Nat), okC cs → i < cs.length → ∃ cs', cs'.length = cs.length ∧ okC cs' ∧ ∀ l : List Int, cs.length < l.length → runN (nfR cs ++ [i]) l = runN (nfR cs') l
  | [], i, _, h => by cases h
  | c :: r, i, ⟨h1, h2⟩, hi => by
    rw [List.length_cons] at hi
    -- a step for what lies before
    have before : ∀ j, j < r.length → (∀ l : List Int, r.length + 1 < l.length → runN (dn r.length c ++ [i]) l = runN (j :: dn r.length c) l) →
        ∃ cs', cs'.length = (c :: r).length ∧ okC cs' ∧ ∀ l : List Int, (c :: r).length < l.length → runN (nfR (c :: r) ++ [i]) l = runN (nfR cs') l := fun j hj hp => by
      obtain ⟨r', e1, e2, e3⟩ := absorb r j h2 hj
      refine ⟨c :: r', by rw [List.length_cons, e1, List.length_cons], ⟨by rw [e1]; exact h1, e2⟩, fun l hl => ?_⟩
      rw [List.length_cons] at hl
      show runN (nfR r ++ dn r.length c ++ [i]) l = runN (nfR r' ++ dn r'.length c) l
      rw [List.append_assoc, runN_app, hp _ (by rw [runN_len]; exact hl), runN_app, e1, ← e3 l (by omega), runN_app]
      rfl
    cases c with
    | zero =>
      by_cases him : i = r.length
      · subst him
        refine ⟨1 :: r, rfl, ⟨by omega, h2⟩, fun l _ => ?_⟩
        show runN (nfR r ++ [] ++ [r.length]) l = runN (nfR r ++ [r.length]) l
        rw [List.append_nil]
      · exact before i (by omega) fun l _ => rfl
    | succ c =>
      by_cases q1 : i + c + 1 = r.length
      · -- it makes the block longer
        refine ⟨(c + 2) :: r, rfl, ⟨by omega, h2⟩, fun l _ => ?_⟩
        show runN (nfR r ++ dn r.length (c + 1) ++ [i]) l = runN (nfR r ++ dn r.length (c + 1 + 1)) l
        rw [dn_snoc (c + 1) r.length (by omega), List.append_assoc, show r.length - (c + 1) = i by omega]
      · by_cases q2 : i + c = r.length
        · -- it is the block's last step
          refine ⟨(c + 1) :: r, rfl, ⟨h1, h2⟩, fun l hl => ?_⟩
          rw [List.length_cons] at hl
          show runN (nfR r ++ dn r.length (c + 1) ++ [i]) l = runN (nfR r ++ dn r.length (c + 1)) l
          rw [dn_snoc c r.length (by omega), show r.length - c = i by omega]
          rw [runN_app, ← List.append_assoc, runN_app, runN_one, runN_one, sN_idem (by rw [runN_len]; omega)]
        · by_cases q3 : i + c + 1 < r.length
          · refine before i (by omega) fun l hl => comm_past _ l (by omega) fun d hd => ?_
            have := dn_mem (c + 1) r.length h1 d hd
            omega
          · exact before (i - 1) (by omega) fun l hl => push (c + 1) r.length i l h1 (by omega) (by omega) hl
theorem normal_from : ∀ (f : List Nat) (cs : List Nat), okC cs → (∀ i ∈ f, i < cs.length) → ∃ cs', cs'.length = cs.length ∧ okC cs' ∧ ∀ l : List Int, cs.length < l.length → runN (nfR cs ++ f) l = runN (nfR cs') l
  | [], cs, h, _ => ⟨cs, rfl, h, fun l _ => by rw [List.append_nil]⟩
  | i :: f, cs, h, hf => by
    obtain ⟨c1, e1, e2, e3⟩ := absorb cs i h (hf i List.mem_cons_self)
    obtain ⟨c2, e4, e5, e6⟩ := normal_from f c1 e2 fun j hj => by
      rw [e1]
      exact hf j (List.mem_cons_of_mem _ hj)
    refine ⟨c2, e4.trans e1, e5, fun l hl => ?_⟩
    rw [show nfR cs ++ i :: f = nfR cs ++ [i] ++ f by simp, runN_app, e3 l hl, ← runN_app]
    exact e6 l (by omega)
theorem zeros_ok : ∀ w, okC (List.replicate w 0)
  | 0 => trivial
  | w + 1 => ⟨Nat.zero_le _, zeros_ok w⟩
theorem zeros_nf : ∀ w, nfR (List.replicate w 0) = []
  | 0 => rfl
  | w + 1 => by
    rw [List.replicate_succ, nfR, zeros_nf w]
    rfl
/-- every word is as a normal one -/
theorem normal (w : Nat) (f : List Nat) (h : ∀ i ∈ f, i < w) : ∃ cs, cs.length = w ∧ okC cs ∧ ∀ l : List Int, w < l.length → runN f l = runN (nfR cs) l := by
  obtain ⟨cs, e1, e2, e3⟩ := normal_from f (List.replicate w 0) (zeros_ok w) (by simpa using h)
  rw [List.length_replicate] at e1 e3
  rw [zeros_nf] at e3
  exact ⟨cs, e1, e2, e3⟩
end Nw

/-! DL22: the profile of a normal word, its code; equal profiles, equal effects. -/
namespace Nw
/-- what a normal word makes of the descending list: numbers put in one after the other -/
def pf (w : Int) : List Nat → List Int
  | [] => [w]
  | c :: r => (pf w r).take (r.length + 1 - c) ++ (w - ((r.length : Int) + 1)) :: (pf w r).drop (r.length + 1 - c)
theorem pf_len (w : Int) : ∀ cs, (pf w cs).length = cs.length + 1
  | [] => rfl
  | c :: r => by
    have ih := pf_len w r
    rw [pf, List.length_append, List.length_cons, List.length_take, List.length_drop, List.length_cons, ih]
    omega
theorem pf_gt (w : Int) : ∀ cs, ∀ y ∈ pf w cs, w - (cs.length : Int) ≤ y
  | [], y, h => by
    have : y = w := by simpa [pf] using h
    subst this
    show y - ((0 : Nat) : Int) ≤ y
    omega
  | c :: r, y, h => by
    have ih := pf_gt w r
    rw [List.length_cons]
    rw [pf] at h
    rcases List.mem_append.mp h with h | h
    · have := ih y (List.mem_of_mem_take h)
      omega
    · rcases List.mem_cons.mp h with h | h
      · subst h
        omega
      · have := ih y (List.mem_of_mem_drop h)
        omega
theorem sN_at {q rest : List Int} {x y : Int} (h : x < y) : sN (q ++ y :: x :: rest) q.length = q ++ x :: y :: rest := by
  have e2 : ((q.length : Int) + 1).toNat = q.length + 1 := by omega
  have e1 : ((q.length : Int) + 1 - 1).toNat = q.length := by omega
  have g1 : (q ++ y :: x :: rest).getD q.length 0 = y := by
    rw [List.getD_eq_getElem?_getD, List.getElem?_append_right (Nat.le_refl _), Nat.sub_self]
    rfl
  have g2 : (q ++ y :: x :: rest).getD (q.length + 1) 0 = x := by
    rw [List.getD_eq_getElem?_getD, List.getElem?_append_right (by omega), show q.length + 1 - q.length = 1 by omega]
    rfl
  have hh : hit (q ++ y :: x :: rest) ((q.length : Int) + 1) = true := by
    unfold hit
    rw [e1, e2, g1, g2]
    exact decide_eq_true h
  unfold sN stp
  rw [hh, if_pos rfl]
  exact xch_split (by omega) (by omega)
/-- a block carries the small number c places down -/
theorem bubble : ∀ (c m : Nat) (q rest : List Int) (x : Int), q.length = m + 1 → c ≤ m + 1 → (∀ y ∈ q, x < y) → runN (dn m c) (q ++ x :: rest) = q.take (m + 1 - c) ++ x :: (q.drop (m + 1 - c) ++ rest)
  | 0, m, q, rest, x, hq, _, _ => by
    rw [Nat.sub_zero, ← hq, List.take_length, List.drop_length]
    rfl
  | c + 1, m, q, rest, x, hq, hc, hx => by
    obtain ⟨q', y, rfl⟩ : ∃ q' y, q = q' ++ [y] := by
      have : q ≠ [] := fun z => by rw [z] at hq; cases hq
      exact ⟨q.dropLast, q.getLast this, (List.dropLast_concat_getLast this).symm⟩
    have hq' : q'.length = m := by simpa using hq
    have hy : x < y := hx y (by simp)
    rw [dn, runN_cons, show q' ++ [y] ++ x :: rest = q' ++ y :: x :: rest by simp]
    have s := sN_at (q := q') (rest := rest) hy
    rw [hq'] at s
    rw [s]
    cases m with
    | zero =>
      have c0 : c = 0 := by omega
      subst c0
      have q0 : q' = [] := List.length_eq_zero_iff.mp hq'
      subst q0
      rfl
    | succ m =>
      have ih := bubble c m q' (y :: rest) x hq' (by omega) fun z hz => hx z (List.mem_append_left _ hz)
      rw [show m + 1 - 1 = m by omega, ih]
      rw [show m + 1 + 1 - (c + 1) = m + 1 - c by omega, List.take_append_of_le_length (by omega), List.drop_append_of_le_length (by omega)]
      simp
theorem desc_succ (n : Nat) : desc (n + 1) = ((n + 1 : Nat) : Int) :: desc n := rfl
/-- the profile of a normal word -/
theorem run_nf (w : Nat) : ∀ cs, okC cs → cs.length + 1 ≤ w → runN (nfR cs) (desc w) = pf w cs ++ desc (w - cs.length - 1)
  | [], _, h => by
    obtain ⟨k, rfl⟩ : ∃ k, w = k + 1 := ⟨w - 1, by simp at h; omega⟩
    show desc (k + 1) = [((k + 1 : Nat) : Int)] ++ desc (k + 1 - 0 - 1)
    rw [show k + 1 - 0 - 1 = k by omega]
    rfl
  | c :: r, ⟨h1, h2⟩, h => by
    rw [List.length_cons] at h
    obtain ⟨k, hk⟩ : ∃ k, w - r.length - 1 = k + 1 := ⟨w - r.length - 2, by omega⟩
    have ih := run_nf w r h2 (by omega)
    rw [nfR, runN_app, ih, hk, desc_succ]
    have ex : ((k + 1 : Nat) : Int) = (w : Int) - ((r.length : Int) + 1) := by omega
    rw [ex]
    rw [bubble c r.length (pf w r) (desc k) _ (pf_len _ _) h1 fun y hy => by
      have := pf_gt w r y hy
      omega]
    rw [pf, List.length_cons, show w - (r.length + 1) - 1 = k by omega]
    simp
/-- what stands behind the first n -/
def aft (n : Int) : List Int → List Int
  | [] => []
  | x :: r => if x = n then r else aft n r
theorem aft_at {n : Int} : ∀ {a b : List Int}, (∀ y ∈ a, n < y) → aft n (a ++ n :: b) = b
  | [], b, _ => by
    show (if n = n then b else aft n b) = b
    rw [if_pos rfl]
  | x :: a, b, h => by
    have := h x List.mem_cons_self
    show (if x = n then a ++ n :: b else aft n (a ++ n :: b)) = b
    rw [if_neg (by omega)]
    exact aft_at fun y hy => h y (List.mem_cons_of_mem _ hy)
theorem cnt_cons (n x : Int) (p : List Int) : cnt n (x :: p) = (if n < x then 1 else 0) + cnt n p := by
  rw [show x :: p = [x] ++ p from rfl, cnt_app, cnt_one]
theorem cnt_put {n x : Int} (h : x < n) : ∀ (a b : List Int), cnt n (aft n (a ++ x :: b)) = cnt n (aft n (a ++ b))
  | [], b => by
    show cnt n (if x = n then b else aft n b) = _
    rw [if_neg (by omega)]
    rfl
  | y :: a, b => by
    show cnt n (if y = n then a ++ x :: b else aft n (a ++ x :: b)) = cnt n (if y = n then a ++ b else aft n (a ++ b))
    split
    · rw [cnt_app, cnt_app, cnt_cons, if_neg (by omega)]
      omega
    · exact cnt_put h a b
/-- how many greater numbers stand behind n -/
def cd (p : List Int) (n : Int) : Nat := cnt n (aft n p)
theorem cd_new {w : Int} {c : Nat} {r : List Nat} (h : c ≤ r.length + 1) : cd (pf w (c :: r)) (w - ((r.length : Int) + 1)) = c := by
  unfold cd
  have gt : ∀ y ∈ pf w r, w - ((r.length : Int) + 1) < y := fun y hy => by
    have := pf_gt w r y hy
    omega
  rw [pf, aft_at fun y hy => gt y (List.mem_of_mem_take hy), cnt_all fun y hy => gt y (List.mem_of_mem_drop hy), List.length_drop, pf_len]
  omega
theorem cd_old {w : Int} {c : Nat} {r : List Nat} {n : Int} (h : w - ((r.length : Int) + 1) < n) : cd (pf w (c :: r)) n = cd (pf w r) n := by
  unfold cd
  rw [pf, cnt_put h, List.take_append_drop]
/-- the code of the profile of a normal word -/
theorem code_pf (w : Int) : ∀ cs, okC cs → (List.range cs.length).map (fun (i : Nat) => cd (pf w cs) (w - 1 - (i : Int))) = cs.reverse
  | [], _ => rfl
  | c :: r, ⟨h1, h2⟩ => by
    rw [List.length_cons, List.range_succ, List.map_append, List.reverse_cons, ← code_pf w r h2]
    congr 1
    · apply List.map_congr_left
      intro i hi
      have := List.mem_range.mp hi
      exact cd_old (by omega)
    · show [cd (pf w (c :: r)) (w - 1 - (r.length : Int))] = [c]
      rw [show w - 1 - (r.length : Int) = w - ((r.length : Int) + 1) by omega, cd_new h1]
/-- equal profiles: equal codes -/
theorem pf_inj {w : Nat} {cs ds : List Nat} (hc : okC cs) (hd : okC ds) (e : cs.length = ds.length) (h : cs.length + 1 ≤ w) (hp : runN (nfR cs) (desc w) = runN (nfR ds) (desc w)) : cs = ds := by
  rw [run_nf w cs hc h, run_nf w ds hd (by omega), e] at hp
  have p : pf w cs = pf w ds := List.append_cancel_right hp
  have a := code_pf w cs hc
  have b := code_pf w ds hd
  rw [p, e, b] at a
  exact (List.reverse_inj.mp a).symm
/-- THE DESCENDING LIST DECIDES -/
theorem decides {w : Nat} {f g : List Nat} (hw : 1 ≤ w) (hf : ∀ i ∈ f, i + 1 < w) (hg : ∀ i ∈ g, i + 1 < w) (hp : runN f (desc w) = runN g (desc w)) (l : List Int) (hl : l.length = w) : runN f l = runN g l := by
  obtain ⟨cs, a1, a2, a3⟩ := normal (w - 1) f fun i hi => by have := hf i hi; omega
  obtain ⟨ds, b1, b2, b3⟩ := normal (w - 1) g fun i hi => by have := hg i hi; omega
  rw [a3 _ (by rw [desc_len]; omega), b3 _ (by rw [desc_len]; omega)] at hp
  have : cs = ds := pf_inj a2 b2 (by omega) (by omega) hp
  rw [a3 l (by omega), b3 l (by omega), this]
end Nw

/-! DL23: sorted of whole numbers. -/
namespace DL
open PySem L2 PyProof.Rows
def srt (ns : List Int) : List Int := ns.mergeSort fun a b => decide (a ≤ b)
theorem srt_perm (ns : List Int) : (srt ns).Perm ns := List.mergeSort_perm ns _
theorem srt_up (ns : List Int) : (srt ns).Pairwise (· ≤ ·) := by
  have h := List.pairwise_mergeSort (le := fun a b : Int => decide (a ≤ b)) (fun a b c h1 h2 => by
    have := of_decide_eq_true h1
    have := of_decide_eq_true h2
    exact decide_eq_true (by omega)) (fun a b => by
    rw [Bool.or_eq_true, decide_eq_true_eq, decide_eq_true_eq]
    omega) ns
  exact h.imp fun q => of_decide_eq_true q
theorem srt_eq {ns ms : List Int} (p : ms.Perm ns) (u : ms.Pairwise (· ≤ ·)) : ms = srt ns :=
  List.Perm.eq_of_pairwise (le := (· ≤ ·)) (fun a b _ _ h1 h2 => Int.le_antisymm h1 h2) u (srt_up ns) (p.trans (srt_perm ns).symm)
def oSorted : List D → Option Out
  | [x] => ((lstItems x).bind asInts).map fun ns => .newL (nums (srt ns))
  | _ => none
section
variable {ca : Nat → Addr} {K : PySem.W.Frag} {Hf H : Hp} {S : Rg}
theorem repL_nums : ∀ l : List Int, RepL ca K Hf H Em (l.map V.int) (nums l)
  | [] => .nil
  | a :: l => .cons (S1 := Em) (S2 := Em) .int (repL_nums l) (fun _ z => z.elim) (fun _ z => z.elim) fun _ z _ => z
theorem os_sorted : OpS ca K (rSortedI K) oSorted := fun Hf H vs ds o Q hx rd h q => by
  match ds, h with
  | [x], h =>
    dsimp only [oSorted] at h
    cases ei : lstItems x with
    | none => simp [ei] at h
    | some xs =>
      rw [ei] at h
      cases en : asInts xs with
      | none => simp [en] at h
      | some ns =>
        simp only [Option.bind_some, en, Option.map_some, Option.some.injEq] at h
        subst h
        obtain ⟨v, S, e1, r1⟩ := rdl1 rd rfl
        subst e1
        obtain ⟨a, vs, T, rfl, e2, r3⟩ := rep_lstItems hx r1 ei
        rw [repL_ints r3 en] at e2
        refine ⟨a, ns, rfl, e2, fun ms p hp up free => ?_⟩
        rw [srt_eq hp up]
        exact q p _ free (repL_nums _)
theorem oSorted_l {o : Bool} {l : List Int} : oSorted [.lst o (nums l)] = some (.newL (nums (srt l))) := by
  show ((lstItems (.lst o (nums l))).bind asInts).map _ = _
  rw [show lstItems (.lst o (nums l)) = some (nums l) from rfl, Option.bind_some, nums_as]
  rfl
end
end DL

/-! DL24: codes as the program's lists; steps as whole numbers. -/
namespace Nw
def up1 (f : List Nat) : List Int := f.map fun (i : Nat) => (i : Int) + 1
theorem up1_run : ∀ (f : List Nat) (l : List Int), runL (up1 f) l = runN f l
  | [], _ => rfl
  | i :: f, l => up1_run f (sN l i)
theorem up1_of {w : Int} : ∀ {ss : List Int}, okS w ss → ∃ f : List Nat, ss = up1 f ∧ ∀ i ∈ f, (i : Int) + 1 ≤ w - 1
  | [], _ => ⟨[], rfl, fun i hi => by cases hi⟩
  | s :: ss, h => by
    obtain ⟨f, e, hf⟩ := up1_of fun t ht => h t (List.mem_cons_of_mem _ ht)
    have hs := h s List.mem_cons_self
    refine ⟨(s - 1).toNat :: f, ?_, fun i hi => ?_⟩
    · rw [e]
      show s :: up1 f = ((((s - 1).toNat : Nat) : Int) + 1) :: up1 f
      rw [show (((s - 1).toNat : Nat) : Int) + 1 = s by omega]
    · rcases List.mem_cons.mp hi with hi | hi
      · subst hi
        omega
      · exact hf i hi
end Nw

/-! DL25: the reading of codes: index, slices, extend. -/
namespace DL
open PySem (Str)
open Nw
theorem eqF_int (a b : Int) : eqF (.int a) (.int b) = decide (a = b) := by
  unfold eqF
  by_cases h : a = b <;> simp [h]
theorem nums_flat (l : List Int) : (nums l).all flat = true := by
  unfold nums
  rw [List.all_map]
  exact List.all_eq_true.mpr fun x _ => rfl
theorem eMt_s {i j : Nat} {f : List D → Option Out} {st : Sl} {x y : D} {o : Out} (h0 : getS st i = some x) (hl : isLst x = true) (h1 : getS st j = some y) (hf : f [x, y] = some o) : eMt i f [.s j] st = .ok o.d st := by
  unfold eMt
  rw [h0]
  dsimp only
  rw [if_pos hl, opds, if_pos (by rw [h1]; rfl)]
  dsimp only [opds, Option.map, Option.bind]
  rw [h0, h1]
  dsimp only
  rw [hf]
theorem eApp_v {i : Nat} {m : ME} {st st1 : Sl} {d d0 : D} {xs : List D} (h0 : getS st i = some d0) (hl : isLst d0 = true) (h1 : m st = .ok d st1) (h2 : getS st1 i = some (.lst true xs)) (hn : xs.length < 16777216) : eApp i m st = .ok .non (st1.set i (some (.lst true (xs ++ [d])))) := by
  unfold eApp
  rw [h0]
  dsimp only
  rw [if_pos hl, h1]
  dsimp only [Res.bind]
  rw [h2]
  dsimp only
  rw [if_pos hn]
theorem eExt_v {i : Nat} {m : ME} {st st1 : Sl} {d0 : D} {o : Bool} {xs ys : List Int} (h0 : getS st i = some d0) (hl : isLst d0 = true) (h1 : m st = .ok (.lst o (nums ys)) st1) (h2 : getS st1 i = some (.lst true (nums xs))) (hn : xs.length + ys.length ≤ 16777216) : eExt i m st = .ok .non (st1.set i (some (.lst true (nums (xs ++ ys))))) := by
  unfold eExt
  rw [h0]
  dsimp only
  rw [if_pos hl, h1]
  dsimp only [Res.bind]
  rw [h2]
  have e : ext2 (some (.lst true (nums xs))) (.lst o (nums ys)) = some (nums (xs ++ ys)) := by
    unfold ext2
    dsimp only
    rw [nums_colds, nums_len, nums_len, decide_eq_true hn, nums_app]
    rfl
  rw [e]
theorem sExpr_ok {m : ME} {st st1 : Sl} {d : D} (h : m st = .ok d st1) : sExpr m st = .next st1 := by
  unfold sExpr
  rw [h]
  rfl
end DL
namespace Nw
/-- the code's part as it stands after i turns -/
def part (cs : List Nat) (i : Nat) : List Nat := (cs.reverse.take i).reverse
end Nw
namespace DL
open Nw
theorem sm62 {z : Int} (h1 : -1000 ≤ z) (h2 : z ≤ 1000) : small62 z = true := by
  unfold small62
  refine decide_eq_true ?_
  omega
end DL
namespace Nw
end Nw
namespace DL
open Nw
theorem log2_small {m : Int} (h : m.natAbs < 2 ^ 80) : m.natAbs.log2 < 9000 := by
  by_cases z : m.natAbs = 0
  · rw [z]
    decide
  · exact Nat.lt_trans ((Nat.log2_lt z).mpr h) (by decide)
theorem oDiv_w {i j : Int} (h : 0 < j) (h2 : j.natAbs < 2 ^ 80) : oDiv [.int i, .int j] = some (.val (.int (i / j))) := by
  show (if 0 < j ∧ j.natAbs.log2 < 9000 then some (Out.val (.int (i / j))) else none) = _
  rw [if_pos ⟨h, log2_small h2⟩]
end DL

/-! DL26: no network exchanges more often than on the descending list. -/
namespace Nw
end Nw

/-! DL27: the meanings evaluated step by step, by unification. -/
namespace DL
open PySem (Str)
section
variable {m m1 m2 m3 : ME} {ms ns : MA} {st st1 st2 st3 st' : Sl} {a b c d d' x y : D} {ds es : List D} {o : Out} {f : List D → Option Out} {i j k : Nat} {F : MF} {ps : Sl} {g : MG} {s s1 s2 : MS} {r : SR} {t t1 t2 : MT} {p q : Bool} {C : Nat}
theorem od_val : (Out.val d).d = d := rfl
theorem od_newL : (Out.newL ds).d = .lst true ds := rfl
theorem od_newT : (Out.newT ds).d = .tup ds := rfl
theorem od_eq (h : d = d') : (Out.val d).d = d' := h
theorem set_0 {o : Option D} {l : Sl} : (o :: l).set 0 x' = x' :: l := rfl
theorem set_s {o : Option D} {l l' : Sl} {z : Option D} (h : l.set i z = l') : (o :: l).set (i + 1) z = o :: l' := by rw [← h]; rfl
/-! expressions -/
theorem xC : eC d st = .ok d st := rfl
theorem xN (h : getS st i = some d) (hc : hot d = false) : eN i st = .ok d st := eN_v h hc
theorem xNf (h : getS st i = some d) (hc : hot d = true) (hf : frz d = d') (hs : st.set i (some d') = st') : eN i st = .ok d' st' := by
  rw [eNf_v h hc, hf, hs]
theorem xMv (h : getS st i = some d) (hs : st.set i none = st') : eMv i st = .ok d st' := by
  unfold eMv; rw [h]; subst hs; rfl
theorem xOv (h : m st = .ok a st1) (hf : f [a] = some o) (hd : o.d = d) : eOp f [.v m] st = .ok d st1 := by rw [eOp1_v h hf, hd]
theorem xOs (h : getS st i = some a) (hf : f [a] = some o) (hd : o.d = d) : eOp f [.s i] st = .ok d st := by rw [eOp1_s h hf, hd]
theorem xOvv (h : m1 st = .ok a st1) (h2 : m2 st1 = .ok b st2) (hf : f [a, b] = some o) (hd : o.d = d) : eOp f [.v m1, .v m2] st = .ok d st2 := by rw [eOp2_v h h2 hf, hd]
theorem xOvs (h : m1 st = .ok a st1) (h2 : getS st1 i = some b) (hf : f [a, b] = some o) (hd : o.d = d) : eOp f [.v m1, .s i] st = .ok d st1 := by rw [eOpvs_v h h2 hf, hd]
theorem xOsv (h0 : getS st i = some x) (h : m1 st = .ok b st1) (h2 : getS st1 i = some a) (hf : f [a, b] = some o) (hd : o.d = d) : eOp f [.s i, .v m1] st = .ok d st1 := by rw [eOpsv_v (by rw [h0]; rfl) h h2 hf, hd]
theorem xOss (h1 : getS st i = some a) (h2 : getS st j = some b) (hf : f [a, b] = some o) (hd : o.d = d) : eOp f [.s i, .s j] st = .ok d st := by
  unfold eOp opds opds opds
  rw [h1, h2]
  simp only [Option.isSome_some, if_true, h1, h2, Option.bind_some, Option.map_some, hf, hd]
theorem xAndT (h : m1 st = .ok (.bl true) st1) (h2 : m2 st1 = .ok d st2) : eAnd m1 m2 st = .ok d st2 := by unfold eAnd; rw [h]; exact h2
theorem xAndF (h : m1 st = .ok (.bl false) st1) : eAnd m1 m2 st = .ok (.bl false) st1 := by unfold eAnd; rw [h]; rfl
theorem xOrT (h : m1 st = .ok (.bl true) st1) : eOr m1 m2 st = .ok (.bl true) st1 := by unfold eOr; rw [h]; rfl
theorem xOrF (h : m1 st = .ok (.bl false) st1) (h2 : m2 st1 = .ok d st2) : eOr m1 m2 st = .ok d st2 := by unfold eOr; rw [h]; exact h2
theorem xAndB (h : m1 st = .ok (.bl p) st1) (h2 : m2 st1 = .ok (.bl q) st1) : eAnd m1 m2 st = .ok (.bl (p && q)) st1 := by
  unfold eAnd; rw [h]; cases p
  · rfl
  · exact h2
theorem xOrB (h : m1 st = .ok (.bl p) st1) (h2 : m2 st1 = .ok (.bl q) st1) : eOr m1 m2 st = .ok (.bl (p || q)) st1 := by
  unfold eOr; rw [h]; cases p
  · exact h2
  · rfl
theorem xNot (h : m st = .ok (.bl p) st1) : eNot m st = .ok (.bl (!p)) st1 := by unfold eNot; rw [h]; rfl
theorem xIfT (h : t st = .ok true st1) (h2 : m1 st1 = .ok d st2) : eIf t m1 m2 st = .ok d st2 := by unfold eIf; rw [h]; exact h2
theorem xIfF (h : t st = .ok false st1) (h2 : m2 st1 = .ok d st2) : eIf t m1 m2 st = .ok d st2 := by unfold eIf; rw [h]; exact h2
theorem xANil : aNil st = .ok [] st := rfl
theorem xACons (h : m st = .ok d st1) (h2 : ms st1 = .ok ds st2) : aCons m ms st = .ok (d :: ds) st2 := by unfold aCons; rw [h]; show (ms st1).bind _ = _; rw [h2]; rfl
theorem xLst (h : ms st = .ok ds st1) (hl : Nat.ble ds.length 16777216 = true) : eLst ms st = .ok (.lst true ds) st1 := by
  unfold eLst; rw [h]; exact if_pos (Nat.le_of_ble_eq_true hl)
theorem xTup (h : ms st = .ok ds st1) (hl : Nat.ble ds.length 16777216 = true) (hf : frzL ds = es) : eTup ms st = .ok (.tup es) st1 := by
  unfold eTup; rw [h]; subst hf; exact if_pos (Nat.le_of_ble_eq_true hl)
theorem xFz (h : m st = .ok d st1) (hf : frz d = d') : eFz m st = .ok d' st1 := by rw [eFz_v h, hf]
theorem xCall (h : ms st = .ok ds st1) (hf : F ds = .ok d ps) : eCall F ms st = .ok d st1 := by
  unfold eCall; rw [h]; show (match F ds with | .ok d _ => _ | .exc x _ => _ | .fail => _) = _; rw [hf]
theorem xCallL (h : ms st = .ok ds st1) (h0 : getS st1 i = some y) (h1 : ns st1 = .ok es st2) (h2 : getS st2 i = some x) (hx : hot x = true) (hf : F (ds ++ x :: es) = .ok d ps) (hg : getS ps ds.length = some x1) (hs : st2.set i (some x1) = st') : eCallL F ms i ns st = .ok d st' := by
  rw [← hg] at hs
  unfold eCallL; rw [h]
  show (if (getS st1 i).isSome = true then _ else _) = _
  rw [if_pos (by rw [h0]; rfl), h1]
  show (match getS st2 i with | some d => _ | none => _) = _
  rw [h2]
  show (if hot x = true then _ else _) = _
  rw [if_pos hx, hf]
  subst hs
  rfl
/-- a lent slot that is not owned -/
theorem xCallLc (h : ms st = .ok ds st1) (h0 : getS st1 i = some y) (h1 : ns st1 = .ok es st2) (h2 : getS st2 i = some x) (hx : hot x = false) (hf : F (ds ++ x :: es) = .ok d ps) : eCallL F ms i ns st = .ok d st2 := by
  unfold eCallL; rw [h]
  show (if (getS st1 i).isSome = true then _ else _) = _
  rw [if_pos (by rw [h0]; rfl), h1]
  show (match getS st2 i with | some d => _ | none => _) = _
  rw [h2]
  show (if hot x = true then _ else _) = _
  rw [if_neg (by rw [hx]; exact Bool.false_ne_true), hf]
theorem xMake (h : ms st = .ok ds st1) (hf : F (.ins true C [] :: ds) = .ok .non (some x :: ps)) : eMake C F ms st = .ok x st1 := by
  unfold eMake; rw [h]; show (match F (.ins true C [] :: ds) with | .ok .non ps => _ | .exc x _ => _ | _ => _) = _; rw [hf]; rfl
theorem xEqI {neg : Bool} (h1 : m1 st = .ok a st1) (h2 : m2 st1 = .ok b st2) (ha : insC a = some C) (hb : insC b = some C) (hf : F [a, b] = .ok (.bl p) ps) (hd : D.bl (if neg then !p else p) = d) : eEqI neg C F (.v m1) (.v m2) st = .ok d st2 := by
  rw [eEqI_v h1 h2 ha hb hf, hd]
theorem xLenI {n : Nat} (h : m st = .ok x st2) (hc : insC x = some C) (hf : F [x] = .ok (.int (n : Int)) ps) (hn : Nat.blt n 1000000000 = true) : eLenI C F (.v m) st = .ok (.int (n : Int)) st2 := eLenI_v h hc hf (Nat.le_of_ble_eq_true hn)
theorem xApp {xs : List D} (h0 : getS st i = some a) (hl : isLst a = true) (h : m st = .ok d st1) (h2 : getS st1 i = some (.lst true xs)) (hn : xs.length < 16777216) (hs : st1.set i (some (.lst true (xs ++ [d]))) = st') : eApp i m st = .ok .non st' := by
  rw [eApp_v h0 hl h h2 hn, hs]
theorem xExt {z : Bool} {xs ys : List Int} (h0 : getS st i = some a) (hl : isLst a = true) (h : m st = .ok (.lst z (nums ys)) st1) (h2 : getS st1 i = some (.lst true (nums xs))) (hn : xs.length + ys.length ≤ 16777216) (hs : st1.set i (some (.lst true (nums (xs ++ ys)))) = st') : eExt i m st = .ok .non st' := by
  rw [eExt_v h0 hl h h2 hn, hs]
theorem xMtS (h0 : getS st i = some x) (hl : isLst x = true) (h1 : getS st j = some y) (hf : f [x, y] = some o) (hd : o.d = d) : eMt i f [.s j] st = .ok d st := by rw [eMt_s h0 hl h1 hf, hd]
/-! walked things -/
theorem wE {P : D → Option (List D)} (h : m st = .ok d st1) (hp : P d = some ds) (hc : colds ds = true) : iE m P st = .ok ds st1 := by
  unfold iE; rw [h]; show (match P d with | some ds => _ | none => _) = _; rw [hp]; exact if_pos hc
theorem wR1 {n : Nat} {z : Int} (h : m st = .ok (.int z) st1) (hz : z = (n : Int)) (hs : small62 z = true) : iR1 m st = .ok (rangeD 0 n) st1 := iR1_v hz h hs
theorem lst_it {z : Bool} : lstItems (.lst z ds) = some ds := rfl
theorem tup_it : tupItems (.tup ds) = some ds := rfl
/-! tests -/
theorem cE (h : m st = .ok (.bl p) st1) : tE m st = .ok p st1 := tE_ok h
theorem cNotF (h : t st = .ok true st1) : tNotM t st = .ok false st1 := by unfold tNotM; rw [h]; rfl
theorem cNotT (h : t st = .ok false st1) : tNotM t st = .ok true st1 := by unfold tNotM; rw [h]; rfl
theorem cOrF (h : t1 st = .ok false st1) (h2 : t2 st1 = .ok p st2) : tOrM t1 t2 st = .ok p st2 := tOr_ok h h2
theorem cOrT (h : t1 st = .ok true st1) : tOrM t1 t2 st = .ok true st1 := by unfold tOrM; rw [h]; rfl
theorem cAndT (h : t1 st = .ok true st1) (h2 : t2 st1 = .ok p st2) : tAndM t1 t2 st = .ok p st2 := by unfold tAndM; rw [h]; exact h2
theorem cAndF (h : t1 st = .ok false st1) : tAndM t1 t2 st = .ok false st1 := by unfold tAndM; rw [h]; rfl
/-! statements -/
theorem zSeq (h : s1 st = .next st1) (h2 : s2 st1 = r) : sSeq s1 s2 st = r := sSeq_next h h2
theorem zSeqR (h : s1 st = .ret d st1) : sSeq s1 s2 st = .ret d st1 := by unfold sSeq; rw [h]; rfl
theorem zAsg (h : m st = .ok d st1) (hg : g d st1 = .ok () st2) : sAsg m g st = .next st2 := sAsg_ok h hg
theorem zExpr (h : m st = .ok d st1) : sExpr m st = .next st1 := sExpr_ok h
theorem zRet (h : m st = .ok d st1) : sRet m st = .ret d st1 := sRet_ok h
theorem zYes (h : t st = .ok true st1) (h2 : s1 st1 = r) : sIf t s1 s2 st = r := by rw [sIf_ok h]; exact h2
theorem zNo (h : t st = .ok false st1) (h2 : s2 st1 = r) : sIf t s1 s2 st = r := by rw [sIf_ok h]; exact h2
theorem zSkip : sNext st = .next st := rfl
theorem zFor {src : Sl → Res (List D)} {B : MS} (h : src st = .ok ds st1) (h2 : forD g B ds st1 = r) : sFor src g B st = r := by unfold sFor; rw [h]; exact h2
theorem zPar (h : ms st = .ok [a, b] st1) (hs : st1.set i (some a) = st2) (hs2 : st2.set j (some b) = st3) : sPar i j ms st = .next st3 := by
  unfold sPar; rw [h]; subst hs hs2; rfl
theorem zAug (h0 : getS st i = some a) (hc : cold a = true) (h : m st = .ok b st1) (hf : f [a, b] = some (.val d)) (hs : st1.set i (some d) = st') : sAug i f m st = .next st' := by
  unfold sAug; rw [h0]; show (if cold a = true then _ else _) = _; rw [if_pos hc, h]; show (match f [a, b] with | some (.val z) => _ | _ => _) = _; rw [hf]; subst hs; rfl
theorem zWhile {B : MS} {n : Nat} (h : t st = .ok true st1) (h2 : B st1 = .next st2) (h3 : whileD t B n st2 = r) : whileD t B (n + 1) st = r := by
  rw [whileD, h]
  show (match B st1 with | .next st2 => whileD t B n st2 | .cont st2 => whileD t B n st2 | .brk st2 => .next st2 | r => r) = r
  rw [h2]; exact h3
theorem zWhile0 {B : MS} {n : Nat} (h : t st = .ok false st1) : whileD t B (n + 1) st = .next st1 := by
  rw [whileD, h]; rfl
theorem gN_r (hs : st.set i (some d) = st') : gN i d st = .ok () st' := by unfold gN; rw [hs]
theorem gIx_r {xs : List D} {kk : Int} {n : Nat} (hc : cold d = true) (h0 : getS st i = some a) (h : m st = .ok (.int kk) st1) (h2 : getS st1 i = some (.lst true xs)) (hn : L2.ixN xs.length kk = some n) (hs : st1.set i (some (.lst true (xs.set n d))) = st') : gIx i m d st = .ok () st' := by
  unfold gIx; rw [hc, h0]
  show (if true = true then _ else _) = _
  rw [if_pos rfl, h]
  show (match getS st1 i with | some (.lst true xs) => _ | _ => _) = _
  rw [h2]
  show (match L2.ixN xs.length kk with | some j => _ | none => _) = _
  rw [hn]; subst hs; rfl
theorem fn_go {n w : Nat} {L : List Nat} {body : MS} (hl : ds.length = n) (h : body (ds.map some ++ List.replicate (w - n) none) = .ret d st) : fn n w L body ds = .ok d (keepL L n st) := fn_ret hl h
/-! operations -/
theorem add_i {i j : Int} : oAdd [.int i, .int j] = some (.val (.int (i + j))) := rfl
theorem sub_i {i j : Int} : oSub [.int i, .int j] = some (.val (.int (i - j))) := rfl
theorem neg_i {i : Int} : oNeg [.int i] = some (.val (.int (-i))) := rfl
theorem abs_i {i : Int} : oAbs [.int i] = some (.val (.int (if i < 0 then -i else i))) := rfl
theorem lt_i {i j : Int} : f2 pLt [.int i, .int j] = some (.val (.bl (decide (i < j)))) := rfl
theorem le_i {i j : Int} : f2 pLe [.int i, .int j] = some (.val (.bl (decide (i ≤ j)))) := rfl
theorem gt_i {i j : Int} : f2 pGt [.int i, .int j] = some (.val (.bl (decide (j < i)))) := rfl
theorem ge_i {i j : Int} : f2 pGe [.int i, .int j] = some (.val (.bl (decide (j ≤ i)))) := rfl
theorem int_i {i : Int} : oInt [.int i] = some (.val (.int i)) := rfl
theorem int_b {b : Bool} : oInt [.bl b] = some (.val (.int (if b then 1 else 0))) := rfl
theorem eq_of {a b c : D} (h : pEq a b = some c) : f2 pEq [a, b] = some (.val c) := by simp only [f2, h, Option.map_some]
theorem ne_of {a b c : D} (h : pNe a b = some c) : f2 pNe [a, b] = some (.val c) := by simp only [f2, h, Option.map_some]
theorem bl_y {P : Prop} [Decidable P] (h : P) : D.bl (decide P) = .bl true := by rw [decide_eq_true h]
theorem bl_n {P : Prop} [Decidable P] (h : ¬ P) : D.bl (decide P) = .bl false := by rw [decide_eq_false h]
theorem nbl_y {P : Prop} [Decidable P] (h : ¬ P) : D.bl (!decide P) = .bl true := by rw [decide_eq_false h]; rfl
theorem nbl_n {P : Prop} [Decidable P] (h : P) : D.bl (!decide P) = .bl false := by rw [decide_eq_true h]; rfl
theorem lst_o {z : Bool} {l : List Int} (h : l.length ≤ 16777216) : oList [.lst z (nums l)] = some (.newL (nums l)) := by
  simp [oList, items, newLc, nums_colds, nums_len, h]
theorem lst_t {l : List Int} (h : l.length ≤ 16777216) : oList [.tup (nums l)] = some (.newL (nums l)) := by
  simp [oList, items, newLc, nums_colds, nums_len, h]
theorem tup_l {z : Bool} {l : List Int} (h : l.length ≤ 16777216) : oTuple [.lst z (nums l)] = some (.newT (nums l)) := by
  simp [oTuple, nums_colds, nums_len, h]
theorem tup_t {l : List D} : oTuple [.tup l] = some (.val (.tup l)) := rfl
theorem len_t {l : List Int} : oLen [.tup (nums l)] = some (.val (.int (l.length : Nat))) := by simp [oLen, items, nums_len]
theorem fz_l {z : Bool} {l : List Int} : frz (.lst z (nums l)) = .lst false (nums l) := by rw [frz, nums_frz]
theorem fz_t {l : List Int} : frz (.tup (nums l)) = .tup (nums l) := by rw [frz, nums_frz]
theorem fz_i {i : Int} : frz (.int i) = .int i := by rw [frz]
theorem fz_b {b : Bool} : frz (.bl b) = .bl b := by rw [frz]
theorem fz_s {b : Str} : frz (.str b) = .str b := by rw [frz]
theorem fz_n : frz .non = .non := by rw [frz]
theorem fzL_n : frzL [] = [] := by rw [frzL]
theorem fzL_c (h : frz d = d') (h2 : frzL ds = es) : frzL (d :: ds) = d' :: es := by rw [frzL, h, h2]
theorem fz_lst {z : Bool} (h : frzL ds = es) : frz (.lst z ds) = .lst false es := by rw [frz, h]
theorem fz_tup (h : frzL ds = es) : frz (.tup ds) = .tup es := by rw [frz, h]
end
/-! comprehensions of one clause whose parts leave the state -/
section
variable {α : Type}
theorem comp_go {g : MG} {t : MT} {e : ME} {i : Nat} {st : Sl} (enc φ : α → D) (p : α → Bool) (hi : i < st.length) : ∀ (l : List α) (acc : List D),
    (∀ x ∈ l, g (enc x) (st.set i none) = .ok () (st.set i (some (enc x)))) → (∀ x ∈ l, t (st.set i (some (enc x))) = .ok (p x) (st.set i (some (enc x)))) →
    (∀ x ∈ l, p x = true → e (st.set i (some (enc x))) = .ok (φ x) (st.set i (some (enc x)))) → acc.length + l.length ≤ 16777216 →
    compD g t e [i] (l.map enc) (st.set i none) acc = .ok (acc ++ (l.filter p).map φ) (st.set i none)
  | [], acc, _, _, _, _ => by rw [List.map_nil, compD, List.filter_nil, List.map_nil, List.append_nil]
  | x :: l, acc, hg, ht, he, hl => by
    have w : ∀ o : Option D, wipeS (st.set i o) [i] = st.set i none := fun o => by
      show (st.set i o).set i none = _
      rw [List.set_set]
    rw [List.map_cons, compD, hg x List.mem_cons_self]
    show ((t (st.set i (some (enc x)))).noX.bind _) = _
    rw [ht x List.mem_cons_self]
    show (if p x = true then _ else _) = _
    rw [List.length_cons] at hl
    by_cases hp : p x = true
    · rw [if_pos hp, he x List.mem_cons_self hp]
      show (if acc.length < 16777216 then _ else _) = _
      rw [if_pos (by omega), w, comp_go enc φ p hi l (acc ++ [φ x]) (fun y h => hg y (List.mem_cons_of_mem _ h)) (fun y h => ht y (List.mem_cons_of_mem _ h)) (fun y h => he y (List.mem_cons_of_mem _ h)) (by rw [List.length_append, List.length_singleton]; omega), List.filter_cons_of_pos hp, List.map_cons, List.append_assoc]
      rfl
    · rw [if_neg hp, w, comp_go enc φ p hi l acc (fun y h => hg y (List.mem_cons_of_mem _ h)) (fun y h => ht y (List.mem_cons_of_mem _ h)) (fun y h => he y (List.mem_cons_of_mem _ h)) (by omega), List.filter_cons_of_neg hp]
theorem xLc {g : MG} {t : MT} {e : ME} {i : Nat} {st st1 st2 : Sl} {src : Sl → Res (List D)} (enc φ : α → D) (p : α → Bool) (l : List α) {ds out : List D} (hs : src st = .ok ds st1) (hd : ds = l.map enc) (hl : l.length ≤ 16777216) (hi : i < st1.length) (hw : st1.set i none = st2)
    (hg : ∀ x ∈ l, g (enc x) (st1.set i none) = .ok () (st1.set i (some (enc x)))) (ht : ∀ x ∈ l, t (st1.set i (some (enc x))) = .ok (p x) (st1.set i (some (enc x))))
    (he : ∀ x ∈ l, p x = true → e (st1.set i (some (enc x))) = .ok (φ x) (st1.set i (some (enc x)))) (ho : (l.filter p).map φ = out) : eLc src g t e [i] st = .ok (.lst true out) st2 := by
  unfold eLc
  rw [hs]
  show (compD g t e [i] ds (st1.set i none) []).bind _ = _
  subst hd hw ho
  rw [comp_go enc φ p hi l [] hg ht he (by simpa using hl), List.nil_append]
  rfl
/-- every item is taken -/
theorem xLcA {g : MG} {e : ME} {i : Nat} {st st1 st2 : Sl} {src : Sl → Res (List D)} (enc φ : α → D) (l : List α) {ds out : List D} (hs : src st = .ok ds st1) (hd : ds = l.map enc) (hl : l.length ≤ 16777216) (hi : i < st1.length) (hw : st1.set i none = st2)
    (hg : ∀ x ∈ l, g (enc x) (st1.set i none) = .ok () (st1.set i (some (enc x))))
    (he : ∀ x ∈ l, e (st1.set i (some (enc x))) = .ok (φ x) (st1.set i (some (enc x)))) (ho : l.map φ = out) : eLc src g tYesM e [i] st = .ok (.lst true out) st2 :=
  xLc enc φ (fun _ => true) l hs hd hl hi hw hg (fun _ _ => rfl) (fun x hx _ => he x hx) (by rw [List.filter_eq_self.mpr (fun _ _ => rfl), ho])
end
end DL

/-! DL28: methods called, defs with a starred parameter, classmethods; promises by FnR. -/
namespace DL
open PySem L2 PyProof.Rows
def insOf (C : Nat) (nm : Str) : D → Bool
  | .ins _ C' fs => decide (C' = C) && (fs.lookup nm).isNone
  | _ => false
/-- o.m(..): o's value handed over -/
def eMth (C : Nat) (nm : Str) (f : MF) (m0 : ME) (ms : MA) : ME := fun st => (m0 st).bind fun d0 st1 => if insOf C nm d0 then (ms st1).bind fun ds st2 => (match f (d0 :: ds) with
  | .ok d _ => .ok d st2
  | .exc x _ => .exc x st2
  | .fail => .fail) else .fail
/-- C(..), C at a slot that holds the class -/
def eMakeV (C i : Nat) (f : MF) (ms : MA) : ME := fun st => match getS st i with
  | some (.cls C') => if C' = C then eMake C f ms st else .fail
  | _ => .fail

/-- room, and no repr under way -/
def RoomG (k : Nat) (A : Around) : Prop := A.guards = some [] ∧ Room k A
theorem RoomG.mono {j k : Nat} {A : Around} (r : RoomG k A) (h : j ≤ k) : RoomG j A := ⟨r.1, r.2.mono h⟩
theorem RoomG.in1 {k : Nat} {A : Around} (r : RoomG (k + 1) A) : RoomG k A.in1 := ⟨r.1, r.2.in1⟩
theorem RoomG.deeper {k : Nat} {A : Around} (r : RoomG (k + 1) A) (env : Env) : RoomG k (A.deeper env) := ⟨r.1, r.2.deeper env⟩
theorem RoomG.make {k : Nat} {A : Around} (r : RoomG (k + 1) A) (C : Addr) (us : List Value) (kw : List (Str × Value)) : RoomG k (A.under (.builtin "type.__call__" ⟨.ref C :: us, kw⟩)) := ⟨r.1, r.2.make C us kw⟩
/-- a promise by positional values, no repr under way -/
def FnG (P : Program) (w : World) (K : PySem.W.Frag) (mg : Str → Option Value) (base : Heap) (CX : CXT) (k : Nat) (f : Addr) (sp : Sp) : Prop :=
  ∀ (A : Around) (outer : List Env) (s : Shared) (H : Hp) (us : List Value) (vs : List V) (Q : VK) (E : XK), RoomG k A → Env0 P w K mg base A outer s H → Vals vs us → sp vs H Q E →
    codeAny (model P w) A (.call (.ref f) ⟨us, []⟩) (L2.CR CX outer P w H s Q E) s
section
variable {ca : Nat → Addr} {Hf H Hf1 H1 Hf2 H2 : Hp} {S P P1 P2 : Rg} {R R1 R2 : Nat → Rg} {σ : L2.St} {st : Sl} {v : V} {d : D} {vs : List V} {ds : List D} {X : Cx} {L : List Nat}
theorem run_fnRS {CX : CXT} {pins : List (Addr × Obj)} {s : Shared} {k : Nat} {f : Addr} {sp : Sp} {E : XK} {Q : VK} {us : List Value} {vs : List V} (F : FnG X.prog X.w X.K X.mg X.base CX k f sp) (hr : RoomG k X.A) (hx : PassesAt CX X σ E) (I : Inv X pins σ H s) (r : Vals vs us) (h : sp vs H Q E) :
    codeAny (model X.prog X.w) X.A (.call (.ref f) ⟨us, []⟩) (fun r s' => match r with | .ok (.ret v) => EP X pins σ Q v s' | .ok _ => False | .error e => X.xe e s') s := by
  refine codeAny_mono (F X.A X.stack s H us vs Q E hr I.env0 r h) fun r s' hq => ?_
  cases r with
  | error e => exact hx pins H s e s' I hq
  | ok fl =>
    cases fl with
    | ret u => exact I.after hq
    | next => exact False.elim hq
    | brk => exact False.elim hq
    | cont => exact False.elim hq
/-! ### methods -/
/-- the form of a method's call -/
def MForm (X : Cx) (o : Expr) (m : Str) (es : List Expr) (apos pos : Pos) (pl : Sem Bool) : Prop := eval (.Call (.Attribute o m apos) es [] pos) X.env = (do
      let ov ← eval o X.env
      standAt apos.atName
      let (g, first) ← holding [ov] (getMethod ov m pl)
      callWith pos g first (backTo pos (starEach es X.env)) (backToKw pos (keywordEach [] X.env)))
end
end DL

/-! DL29: defs with a starred parameter; classmethods. -/
namespace DL
open PySem L2 PyProof.Rows
/-- how a def with a starred parameter binds -/
structure StarB (fd : FuncData) (ps : List Str) (pv : Str) : Prop where
  b : ∀ us rest : List Value, us.length = ps.length → bindArgs fd ⟨us ++ rest, []⟩ = (newTuple rest >>= fun t => pure (ps.zip us ++ [(pv, t)]))
section
variable {ca : Nat → Addr} {P : Program} {w : World} {K : PySem.W.Frag} {mg : Str → Option Value} {base : Heap} {L : List Nat}
theorem repL_cutAt {K : PySem.W.Frag} {Hf H : Hp} : ∀ (n : Nat) {S : Rg} {vs : List V} {ds : List D}, RepL ca K Hf H S vs ds → ∃ A B : Rg, RepL ca K Hf H A (vs.take n) (ds.take n) ∧ RepL ca K Hf H B (vs.drop n) (ds.drop n) ∧ (∀ b, A b → S b) ∧ (∀ b, B b → S b) ∧ ∀ b, A b → B b → False
  | 0, S, vs, ds, r => ⟨Em, S, .nil, r, fun _ q => q.elim, fun _ q => q, fun _ q => q.elim⟩
  | n + 1, S, [], [], r => ⟨Em, S, .nil, r, fun _ q => q.elim, fun _ q => q, fun _ q => q.elim⟩
  | n + 1, S, v :: vs, d :: ds, r => by
    cases r with
    | cons r1 r2 h1 h2 h3 =>
      obtain ⟨A, B, a, b, c, e, f⟩ := repL_cutAt n r2
      exact ⟨_, B, .cons (S := fun x => _ ∨ A x) r1 a (fun _ q => .inl q) (fun _ q => .inr q) (fun x q1 q2 => h3 x q1 (c x q2)), b, fun x q => q.elim (h1 x) fun q => h2 x (c x q), fun x q => h2 x (e x q), fun x q1 q2 => q1.elim (fun q => h3 x q (e x q2)) fun q => f x q q2⟩
  | _ + 1, _, [], _ :: _, r => by cases r
  | _ + 1, _, _ :: _, [], r => by cases r
theorem fn_body {x qual : Str} {st : Stmt} {f : Addr} {fd : FuncData} {N ps : List Str} {k n : Nat} {mb : MS} (F : Fun K x qual st f fd) (S : FnScope N ps (defScope st)) (hn : ps.length = n)
    (hb : ∀ (cdv : Value) (A : Around) (outer : List Env) (s : Shared) (H : Hp) (E : XK), RoomG k (A.deeper (envOfC qual (defScope st) s.heap.objs.size f cdv)) →
      CSs ca (cxOf (L2.CX P w) P w K mg base N qual (defScope st) f cdv A outer s H E) L (defBody st) mb) {cdv : Value} {A : Around} {outer : List Env} {s : Shared} {H : Hp} {vs : List V} {Q : VK} {E : XK} (hr : RoomG k (A.deeper (envOfC qual (defScope st) s.heap.objs.size f cdv)))
    (h : spM ca K (fn n N.length L mb) vs H Q E) : ∃ t, PSs (cxOf (L2.CX P w) P w K mg base N qual (defScope st) f cdv A outer s H E) (defBody st) t ∧ t { nx := fun _ H' => Q .non H', rt := Q } (L2.start N vs) H := by
  refine ⟨_, wss_pss _ _, ?_⟩
  have hl := spM_len h
  obtain ⟨Hf, Pg, ds, r, w1, post⟩ := h
  have hds : ds.length = n := by rw [← r.length]; exact hl
  obtain ⟨R, a, b, c⟩ := repL_split r
  have hvn : vs.length ≤ N.length := by
    have := congrArg List.length S.pre
    rw [List.length_take] at this
    omega
  have p0 : PR ca K Hf H Em True R (L2.start N vs) (ds.map some ++ List.replicate (N.length - n) none) := by
    refine ⟨trivial, ?_, fun i d e => ?_, b, fun _ _ q => q.elim, ?_⟩
    · unfold L2.start; simp [hds, hl]
    · have hi : i < ds.length := by
        by_cases hi : i < ds.length
        · exact hi
        · exfalso
          unfold getS at e
          rw [List.getElem?_append_right (by simp; omega), List.getElem?_replicate] at e
          split at e <;> cases e
      have e1 : ds[i]? = some d := by
        unfold getS at e
        rw [List.getElem?_append_left (by simpa using hi), List.getElem?_map, List.getElem?_eq_getElem hi] at e
        rw [List.getElem?_eq_getElem hi]
        exact e
      obtain ⟨v, e2, r2⟩ := a i d e1
      refine ⟨v, ?_, r2⟩
      rw [start_at (by rw [r.length]; exact hi), e2]
    · exact w1.mono fun b q => q.elim (fun q => q.elim) fun ⟨i, q⟩ => c i b q
  refine hb cdv A outer s H E hr Hf H R (L2.start N vs) _ _ p0 ?_
  unfold fn at post
  rw [if_pos hds] at post
  have hkk : ∀ σ' : L2.St, Lk L (L2.start N vs) σ' → ∀ i ∈ L, i < n → σ'[i]? = some (vs[i]?) := fun σ' k i hi hn' => by
    rw [k.2 i hi]; exact start_at (by omega)
  have hS : ∀ b, jn Em R b → Pg b := fun b q => q.elim (fun q => q.elim) fun ⟨i, q⟩ => c i b q
  have hR : ∀ {P' : Rg} {R' : Nat → Rg} (b : Addr), jn P' (fun i b => i ∈ L ∧ i < n ∧ R' i b) b → jn P' R' b := fun b q => q.elim .inl fun ⟨i, q⟩ => .inr ⟨i, q.2.2⟩
  cases em : mb (ds.map some ++ List.replicate (N.length - n) none) with
  | fail => rw [em] at post; exact post.elim
  | brk st1 => rw [em] at post; exact post.elim
  | cont st1 => rw [em] at post; exact post.elim
  | next st1 =>
    rw [em] at post
    intro Hf1 H1 R1 σ1 t1 p1 k1
    exact post Hf1 H1 Em _ .non ((t1.more hS).less hR) (p1.params hl (hkk σ1 k1) .non fun _ q => q)
  | ret d st1 =>
    rw [em] at post
    intro Hf1 H1 P1 R1 σ1 v t1 p1 k1
    exact post Hf1 H1 P1 _ v ((t1.more hS).less hR) (p1.params hl (hkk σ1 k1) p1.pend fun _ q => q)
  | exc x st1 =>
    rw [em] at post
    intro Hf1 H1 R1 σ1 cls dd t1 p1 k1
    exact wX_of (takes_of rfl rfl rfl rfl) (post Hf1 H1 _ cls dd ((t1.more hS).less hR) (p1.params hl (hkk σ1 k1) p1.pend fun _ q => q))
theorem FnG.imp {CX : CXT} {k : Nat} {f : Addr} {sp sp' : Sp} (F : FnG P w K mg base CX k f sp) (h : ∀ vs H Q E, sp' vs H Q E → sp vs H Q E) : FnG P w K mg base CX k f sp' :=
  fun A outer s H us vs Q E hr e0 r hs => F A outer s H us vs Q E hr e0 r (h _ _ _ _ hs)
theorem fn_okG {x qual : Str} {st : Stmt} {f : Addr} {fd : FuncData} {N ps : List Str} {k n : Nat} {mb : MS} (F : Fun K x qual st f fd) (B : Binds K fd ps []) (S : FnScope N ps (defScope st)) (hn : ps.length = n)
    (hb : ∀ (cdv : Value) (A : Around) (outer : List Env) (s : Shared) (H : Hp) (E : XK), RoomG k (A.deeper (envOfC qual (defScope st) s.heap.objs.size f cdv)) →
      CSs ca (cxOf (L2.CX P w) P w K mg base N qual (defScope st) f cdv A outer s H E) L (defBody st) mb) : FnG P w K mg base (L2.CX P w) (k + 1) f (spM ca K (fn n N.length L mb)) := by
  obtain ⟨oc, od, kV, doc, pm, an, cdv, ct, osl, rfl, lk, hcd⟩ := F.ex
  have F' : Fun K x qual st f (PySem.W.fnOf x qual (defArgs st) (defBody st) (defScope st) .none kV doc pm an cdv ct) := F
  intro A outer s H us vs Q E hr e0 r h
  have hl := spM_len h
  have KX : K.In s.heap := e0.mod.kin.keeps fun b o e => (e0.bs b o e).1
  refine StX.run_bnd lk hcd S hr.2 e0 (G := fun xs H2 => xs = vs ∧ H2 = H) (fun A' Ex Q' hq => ?_) fun s2 H2 xs ⟨e1, e2⟩ hr' => ?_
  · have b := B s us KX (by rw [List.append_nil, ← r.length, hl, hn])
    rw [List.append_nil] at b
    exact b _ _ _ _ (hq s H vs us e0 Un.refl rfl (fun _ _ z => z) r (by rw [hl, hn]) ⟨rfl, rfl⟩)
  · subst e1 e2
    exact fn_body F' S hn hb ⟨hr.1, hr'⟩ h
end
end DL

/-! DL30: t[::-1] of a tuple; slices of lists and tuples; classmethods; a class at a slot called. -/
namespace DL
open PySem L2 PyProof.Rows
section
variable {prog : Program} {w : World} {A : Around} {E : Value → Shared → Prop} {s : Shared}
theorem applied_rev {sl : Addr} {vs : Value} {n : Nat} {Q : Int × Int × Nat → Shared → Prop} (hs : s.heap.IsSliceOf sl .none .none vs) (ps : IsPart vs (some (-1)))
    (h : Q ((n : Int) - 1, -1, n) s) : wpAny (model prog w) A (Builtin.Slice.sliceApplied (.ref sl) (pure (n : Int))) Q E s := by
  obtain ⟨os, hos, hcs, hds⟩ := id hs
  unfold Builtin.Slice.sliceApplied
  unfold Builtin.Slice.sliceFields
  refine wpAny_bind (wpAny_bind (wpAny_field hos hds (x := .none) rfl (wpAny_bind
    (wpAny_field hos hds (x := .none) rfl (wpAny_bind (wpAny_field hos hds (x := vs) rfl
      (wpAny_pure ?_)))))))
  refine wpAny_bind (HT.slicePart_ ps ?_)
  show wpAny _ _ (if ((-1 : Int) == 0) = true then _ else _) _ _ s
  rw [if_neg (by decide)]
  refine wpAny_bind (HT.slicePart_ .none (wpAny_bind
    (HT.slicePart_ .none (wpAny_bind (wpAny_pure ?_)))))
  have e : Builtin.Slice.sliceAdjust none none (-1) (n : Int) = ((n : Int) - 1, -1) := rfl
  have e2 : Builtin.Slice.slicePlaces ((n : Int) - 1) (-1) (-1) = n := by
    unfold Builtin.Slice.slicePlaces
    rw [if_neg (by decide)]
    by_cases hn : n = 0
    · subst hn; rfl
    · rw [if_pos (by omega), show -(-1 : Int) = 1 from rfl, Int.ediv_one]; omega
  show wpAny _ _ (match Builtin.Slice.sliceAdjust none none (-1) (n : Int) with | (lo, hi) => pure (lo, (-1 : Int), Builtin.Slice.slicePlaces lo hi (-1))) _ _ s
  rw [e]
  show wpAny _ _ (pure ((n : Int) - 1, (-1 : Int), Builtin.Slice.slicePlaces ((n : Int) - 1) (-1) (-1))) _ _ s
  rw [e2]
  exact wpAny_pure h
theorem pick_rev (xs : Array Value) : ((List.range xs.size).filterMap fun (m : Nat) => xs[(((xs.size : Int) - 1) + (m : Int) * (-1)).toNat]?).toArray = xs.toList.reverse.toArray := by
  congr 1
  have e : ∀ m ∈ List.range xs.size, xs[(((xs.size : Int) - 1) + (m : Int) * (-1)).toNat]? = xs.toList.reverse[m]? := fun m hm => by
    have hm : m < xs.size := by simpa using hm
    have i : (((xs.size : Int) - 1) + (m : Int) * (-1)).toNat = xs.size - 1 - m := by omega
    rw [i, List.getElem?_reverse (by simpa using hm)]
    simp
  have e3 : (List.range xs.size).filterMap (fun (m : Nat) => xs[(((xs.size : Int) - 1) + (m : Int) * (-1)).toNat]?) = (List.range xs.size).filterMap fun m => xs.toList.reverse[m]? := by
    have gen : ∀ l : List Nat, (∀ m ∈ l, xs[(((xs.size : Int) - 1) + (m : Int) * (-1)).toNat]? = xs.toList.reverse[m]?) → l.filterMap (fun (m : Nat) => xs[(((xs.size : Int) - 1) + (m : Int) * (-1)).toNat]?) = l.filterMap fun m => xs.toList.reverse[m]? := fun l => by
      induction l with
      | nil => exact fun _ => rfl
      | cons y l ih =>
        intro h
        rw [List.filterMap_cons, List.filterMap_cons, h y List.mem_cons_self, ih fun z hz => h z (List.mem_cons_of_mem _ hz)]
    exact gen _ e
  rw [e3]
  have := PySem.W.krv_all (xs.toList.reverse.toArray)
  simpa using this
theorem getItem_tuple_rev {t sl : Addr} {items : Array Value} {vs : Value} {Q : Value → Shared → Prop} (ht : IsTup s.heap t items) (hs : s.heap.IsSliceOf sl .none .none vs) (ps : IsPart vs (some (-1)))
    (h : Q (.ref s.heap.objs.size) { s with heap := s.heap.push { cls := .type "tuple", data := .seq items.toList.reverse.toArray } })
    (hsz : items.size ≤ sizeLine) : wpAny (model prog w) A (getItem (.ref t) (.ref sl)) Q E s := by
  have htake : sizeOk (.seq items.toList.reverse.toArray) := by
    show items.toList.reverse.toArray.size ≤ sizeLine
    rw [List.size_toArray, List.length_reverse, Array.length_toList]
    exact hsz
  obtain ⟨os, hos, hcs, hds⟩ := id hs
  have hTs : s.TypeIs (.ref sl) "slice" := ⟨os, hos, hcs⟩
  unfold getItem
  try with_reducible refine wpAny_holding ?_
  first
    | refine wpAny_bind (wpAny_pure ?_)
    | skip
  refine wpAny_bind (wpAny_sequenceKey ht.typeIs
    (by decide) ?_)
  refine wpAny_bind (wpAny_callSpecial?_slot (name := Str.ofString "__getitem__")
    ht.typeIs PyProof.Rows.slot_tuple_getitem
    (wpAny_call_entry PyProof.Rows.slot_tuple_getitem ht.typeIs
      entry_tuple_getitem ?_ (args_tuple_getitem _ _)))
  show wpAny _ _ (Builtin.Tuple.tupleItemsOf (.ref t)
    >>= _) _ _ s
  refine wpAny_bind (PyProof.Rows.tupleItemsOf_ ht ?_)
  refine wpAny_bind (wpAny_typeOf hTs ?_)
  rw [if_pos (by decide)]
  refine wpAny_bind (applied_rev hs ps ?_)
  have hno : ¬ ((((items.size : Int) - 1) == 0 && (-1 : Int) == 1 && items.size == items.size) = true) := by
    intro q
    rw [Bool.and_eq_true, Bool.and_eq_true] at q
    exact absurd (eq_of_beq q.1.2) (by decide)
  show wpAny _ _ (if (((items.size : Int) - 1) == 0 && (-1 : Int) == 1 && items.size == items.size) = true then _ else _) _ _ s
  rw [if_neg hno, pick_rev]
  first
    | exact wpAny_bind (m := Builtin.Tuple.tupleExact _)
        (wpAny_newObj_type (wpAny_pure ⟨_, rfl, wpAny_pure h⟩) htake)
    | exact wpAny_bind (m := Builtin.Tuple.tupleExact _)
        (wpAny_newObj_type (wpAny_bind (wpAny_pure (wpAny_pure ⟨_, rfl, wpAny_pure h⟩))) htake)
    | exact wpAny_bind (wpAny_bind (m := Builtin.Tuple.tupleExact _)
        (wpAny_newObj_type (wpAny_pure (wpAny_pure ⟨_, rfl, wpAny_pure h⟩)) htake))
    | exact wpAny_bind (wpAny_bind (m := Builtin.Tuple.tupleExact _)
        (wpAny_newObj_type (wpAny_pure ⟨_, rfl, wpAny_pure h⟩) htake))
end
/-- xs[::-1], a list or a tuple -/
def oRevA : List D → Option Out
  | [.tup xs] => if xs.length ≤ 16777216 then some (.newT xs.reverse) else none
  | ds => oRev ds
section
variable {ca : Nat → Addr} {Hf H Hf1 H1 Hf2 H2 : Hp} {S P P1 P2 : Rg} {R R1 R2 : Nat → Rg} {σ : L2.St} {st : Sl} {v : V} {d : D} {vs : List V} {ds : List D} {X : Cx} {L : List Nat}
theorem pe_revA {e : Expr} {te : TE} {k : Nat} {p1 p2 p3 pos : Pos} (he : PE X e te) : PE X (.Subscript e (.Slice none none (some (.UnaryOp .USub (.Constant (.int 1) k p1) p2)) p3) pos)
    (fun σ H Q => te σ H fun x H1 => ∃ a xs, x = .ref a ∧ ((SqL X.K H1 a xs ∧ ∀ p, H1 p = none → Q (.ref p) (upd H1 p (.lst xs.reverse))) ∨ (SqT X.K H1 a xs ∧ ∀ p, H1 p = none → Q (.ref p) (upd H1 p (.tup xs.reverse))))) := by
  refine ⟨fun pins s σ H Q I h => ?_⟩
  refine Subscript_ (thn (he.run pins s σ H _ I h) fun v s1 ⟨x, H1, I1, r1, q1⟩ => ?_)
  obtain ⟨a, xs, ex, q⟩ := q1
  subst ex
  cases r1
  have hst : PO X (some (.UnaryOp .USub (.Constant (.int 1) k p1) p2)) (tPart (tUn (rU fun i => .int (-i)) (tC (.int 1)))) :=
    po_some (pe_un un_neg pe_int)
  refine wpAny_Slice (thn (po_none.run pins s1 σ H1 (fun o H2 => o = none ∧ H2 = H1) I1 ⟨rfl, rfl⟩)
    fun vl s2 ⟨l, H2, I2, pl, el, e2⟩ => ?_)
  subst el e2
  refine thn (po_none.run pins s2 σ H2 (fun o H3 => o = none ∧ H3 = H2) I2 ⟨rfl, rfl⟩)
    fun vu s3 ⟨u, H3, I3, pu, eu, e3⟩ => ?_
  subst eu e3
  refine thn (hst.run pins s3 σ H3 (fun o H4 => o = some (-1) ∧ H4 = H3) I3 ⟨1, rfl, -1, rfl, rfl, rfl⟩)
    fun vs s4 ⟨o, H4, I4, ps, eo, e4⟩ => ?_
  subst eo e4
  have I5 : Inv X pins σ H4 { s4 with heap := s4.heap.push { cls := .type "slice", data := .fields #[vl, vu, vs] } } :=
    I4.kept (t' := s4.toks) fun b ob q => Heap.get?_push_of_some _ q
  show wpAny (model X.prog X.w) X.A (subscriptTail e (.Slice none none (some (.UnaryOp .USub (.Constant (.int 1) k p1) p2)) p3) (.ref a) (.ref s4.heap.objs.size))
    (EP X pins σ Q) X.xe { s4 with heap := s4.heap.push { cls := .type "slice", data := .fields #[vl, vu, vs] } }
  rcases q with ⟨hx, q⟩ | ⟨hx, q⟩
  · obtain ⟨its, r, ht, hz⟩ := I5.list hx
    have hlen := r.length
    refine tail_any (ops := [.ref a, .ref s4.heap.objs.size]) ht.isList.typeIs
      (PySem.slot_list_getitem.lookup) ?_ (by with_unfolding_all rfl)
    refine wpAny_getItem_list_slice ht.isList (Heap.IsSliceOf.new _ vl vu vs) pl pu ps (by decide)
      ?_ (by rw [List.size_toArray]; omega)
    rw [PySem.W.krv_pick]
    refine ⟨.ref _, _, I5.laid (t' := s4.toks) (o := .lst xs.reverse) (fun b ob q => Heap.get?_push_of_some _ q)
      (Nat.le_refl _) ?_, rfl, q _ (I5.hok.fresh (Nat.le_refl _))⟩
    exact ⟨by rw [List.length_reverse]; exact hz, _, 0, r.reverse,
      Heap.get?_push_size _ rfl⟩
  · obtain ⟨its, r, ht, hz⟩ := I5.tuple hx
    have hlen := r.length
    cases pl
    cases pu
    refine tail_any (ops := [.ref a, .ref s4.heap.objs.size]) ht.typeIs
      (PyProof.Rows.slot_tuple_getitem.lookup) ?_ (by with_unfolding_all rfl)
    refine getItem_tuple_rev ht (Heap.IsSliceOf.new _ _ _ vs) ps
      ?_ (by rw [List.size_toArray]; omega)
    refine ⟨.ref _, _, I5.laid (t' := s4.toks) (o := .tup xs.reverse) (fun b ob q => Heap.get?_push_of_some _ q)
      (Nat.le_refl _) ?_, rfl, q _ (I5.hok.fresh (Nat.le_refl _))⟩
    exact ⟨by rw [List.length_reverse]; exact hz, _, r.reverse, IsTup.new _ _⟩
end
end DL

/-! DL31: where a statement stands in a def; slices of lists and tuples; classmethods; a class at a slot called. -/
namespace DL
open PySem L2 PyProof.Rows
def nthS (ss : List Stmt) (i : Nat) : Stmt := ss.getD i (.Pass ⟨0, 0, 0, 0⟩)
def forB : Stmt → List Stmt
  | .For _ _ b _ _ => b
  | _ => []
def ifB : Stmt → List Stmt
  | .If _ b _ _ => b
  | _ => []
/-- xs[lo:hi], a list or a tuple -/
def cutA (lo hi : Option Int) : List D → Option Out
  | [.tup xs] => if HT.sIx xs.length 0 lo = 0 ∧ HT.sIx xs.length xs.length hi = xs.length then some (.val (.tup xs)) else if xs.length ≤ 16777216 then some (.newT (cutD xs lo hi)) else none
  | ds => cutO lo hi ds
def oS10 : List D → Option Out
  | [x, .int a] => cutA (some a) none [x]
  | _ => none
def oS01 : List D → Option Out
  | [x, .int b] => cutA none (some b) [x]
  | _ => none
def eS11 (i : Nat) (ma mb : ME) : ME := fun st => if (getS st i).isSome then (ma st).bind fun a st2 => (match a with
  | .int x => (mb st2).bind fun b st3 => (match b with
    | .int y => (match (getS st3 i).bind fun d => cutA (some x) (some y) [d] with
      | some o => .ok o.d st3
      | none => .fail)
    | _ => .fail)
  | _ => .fail) else .fail

def rSlZ (K : PySem.W.Frag) : V → Option Int → Option Int → Hp → VK → Prop := fun x lo hi H Q => rSlL K x lo hi H Q ∨ rSlA K x lo hi H Q
section
variable {ca : Nat → Addr} {K : PySem.W.Frag} {Hf H Hf1 H1 Hf2 H2 : Hp} {S P P1 P2 : Rg} {R R1 R2 : Nat → Rg} {σ : L2.St} {st : Sl} {v : V} {d : D} {vs : List V} {ds : List D} {X : Cx} {L : List Nat}
theorem sl_any : SlR X (rSlZ X.K) := SlR.or sl_list sl_tupA
theorem os_cutA {lo hi : Option Int} {x : D} {o : Out} {Q : VK} (hx : Ex Hf H) (r1 : Rep ca K Hf H S v x) (h : cutA lo hi [x] = some o) (q : OutQ ca K Hf H o Q) : rSlZ K v lo hi H Q := by
  cases x with
  | tup xs =>
    right
    obtain ⟨a, vs, rfl, e2, r3⟩ := rep_tup hx r1
    have hl := r3.length
    refine ⟨a, vs, rfl, (show SqT K H a vs from .inl (.inl e2)), fun hw => ?_, fun hw p hp => ?_⟩
    · rw [hl] at hw
      dsimp only [cutA] at h
      rw [if_pos hw] at h
      cases h
      exact q _ (r1.cold rfl)
    · rw [hl] at hw
      dsimp only [cutA] at h
      rw [if_neg hw] at h
      split at h
      · cases h
        refine q p _ hp ?_
        obtain ⟨_, B, _, r4, _, hB, _⟩ := repL_cutAt (HT.sIx vs.length 0 lo) r3
        obtain ⟨A, _, r5, _, hA, _, _⟩ := repL_cutAt (HT.sIx vs.length vs.length hi - HT.sIx vs.length 0 lo) r4
        have r6 := r5.mono (S' := Em) fun b z => hB b (hA b z)
        unfold cutV cutD
        rw [← hl]
        exact r6
      · cases h
  | _ => exact .inl (os_cut hx r1 h q)
theorem ce_s10 {e a : Expr} {oe oa : Opd} {p2 pos : Pos} (he : CO ca X e oe) (ha : CO ca X a oa) : CE ca X (.Subscript e (.Slice (some a) none none p2) pos) (eOp oS10 [oe, oa]) :=
  ce_op (es := [e, a]) (rl := rl2 fun x y H Q => ∃ i, y = .int i ∧ rSlZ X.K x (some i) none H Q) (fun σ H Q h => we_of (pe_slice sl_any (we_pe X e) (po_some (we_pe X a)) po_none) h) (.cons he (.cons ha .nil)) fun Hf H vs ds o Q hx rd h q => by
    match ds, h with
    | [x, .int i], h =>
      obtain ⟨v, w, S, S', e1, r1, r2⟩ := rdl2 rd rfl
      subst e1
      exact ⟨i, rep_int r2, os_cutA hx r1 h q⟩
theorem ce_s01 {e a : Expr} {oe oa : Opd} {p2 pos : Pos} (he : CO ca X e oe) (ha : CO ca X a oa) : CE ca X (.Subscript e (.Slice none (some a) none p2) pos) (eOp oS01 [oe, oa]) :=
  ce_op (es := [e, a]) (rl := rl2 fun x y H Q => ∃ i, y = .int i ∧ rSlZ X.K x none (some i) H Q) (fun σ H Q h => we_of (pe_slice sl_any (we_pe X e) po_none (po_some (we_pe X a))) h) (.cons he (.cons ha .nil)) fun Hf H vs ds o Q hx rd h q => by
    match ds, h with
    | [x, .int i], h =>
      obtain ⟨v, w, S, S', e1, r1, r2⟩ := rdl2 rd rfl
      subst e1
      exact ⟨i, rep_int r2, os_cutA hx r1 h q⟩
theorem ce_s11 {e a b : Expr} {i : Nat} {ma mb : ME} {p2 pos : Pos} (he : PE X e (tVar i)) (ha : CE ca X a ma) (hb : CE ca X b mb) : CE ca X (.Subscript e (.Slice (some a) (some b) none p2) pos) (eS11 i ma mb) := fun Hf H R σ st Q p h => by
  refine we_of (pe_slice sl_any he (po_some (we_pe X a)) (po_some (we_pe X b))) ?_
  unfold eS11 at h
  cases g : getS st i with
  | none => rw [g] at h; exact h.elim
  | some d0 =>
    rw [g] at h
    obtain ⟨x, ex, rx⟩ := p.at_ i d0 g
    refine ⟨x, ex, ha Hf H R σ st _ p ?_⟩
    have h0 : Post ca X Hf H (jn Em R) σ ((ma st).bind fun a st2 => (match a with
      | .int x => (mb st2).bind fun b st3 => (match b with
        | .int y => (match (getS st3 i).bind fun d => cutA (some x) (some y) [d] with
          | some o => .ok o.d st3
          | none => .fail)
        | _ => .fail)
      | _ => .fail)) Q := h
    clear h
    cases em : ma st with
    | fail => rw [em] at h0; exact h0
    | exc x0 st1 => rw [em] at h0; exact h0
    | ok d1 st1 =>
      rw [em] at h0
      intro Hf1 H1 P1 R1 v1 t1 p1
      cases d1 with
      | int k =>
        refine ⟨k, rep_int p1.pend, hb Hf1 H1 R1 σ st1 _ p1.drop ?_⟩
        have h1 : Post ca X Hf1 H1 (jn Em R1) σ ((mb st1).bind fun b st3 => (match b with
          | .int y => (match (getS st3 i).bind fun d => cutA (some k) (some y) [d] with
            | some o => .ok o.d st3
            | none => .fail)
          | _ => .fail)) Q := Post.from (less0 t1) h0
        clear h0
        cases eb : mb st1 with
        | fail => rw [eb] at h1; exact h1
        | exc x0 st2 => rw [eb] at h1; exact h1
        | ok d2 st2 =>
          rw [eb] at h1
          intro Hf2 H2 P2 R2 v2 t2 p2
          cases d2 with
          | int m =>
            refine ⟨m, rep_int p2.pend, ?_⟩
            have h2 : Post ca X Hf2 H2 (jn Em R2) σ (match (getS st2 i).bind fun d => cutA (some k) (some m) [d] with
              | some o => .ok o.d st2
              | none => .fail) Q := Post.from (less0 t2) h1
            clear h1
            cases g2 : getS st2 i with
            | none => rw [g2] at h2; exact h2.elim
            | some dx =>
              rw [g2] at h2
              obtain ⟨x2, ex2, rx2⟩ := p2.at_ i dx g2
              rw [ex] at ex2
              cases ex2
              cases g3 : cutA (some k) (some m) [dx] with
              | none => simp only [Option.bind_some, g3] at h2; exact h2.elim
              | some o =>
                simp only [Option.bind_some, g3] at h2
                exact os_cutA p2.w.ex rx2 g3 (outQ_of p2 h2 fun b q => .inr q)
          | _ => exact h1.elim
      | _ => exact h0.elim

end
end DL

/-! DL32: classmethods called; a class at a slot called; calls and instances made by FnR. -/
namespace DL
open PySem L2 PyProof.Rows
section
variable {ca : Nat → Addr} {Hf H Hf1 H1 Hf2 H2 : Hp} {S P P1 P2 : Rg} {R R1 R2 : Nat → Rg} {σ : L2.St} {st : Sl} {v : V} {d : D} {vs : List V} {ds : List D} {X : Cx} {L : List Nat}
theorem run_makeG {CX : CXT} {k : Nat} {f C : Addr} {sp : Sp} {E : XK} {pins : List (Addr × Obj)} {s : Shared} {Q : VK} {us : List Value}
    (M : Mk X.K C f) (F : FnG X.prog X.w X.K X.mg X.base CX k f sp) (hr : RoomG (k + 1) X.A) (hx : PassesAt CX X σ E) (I : Inv X pins σ H s) (r : Vals vs us)
    (h : ∀ x dx, H x = none → H dx = none → dx ≠ x → sp (.ref x :: vs) (upd (upd H dx (.own x)) x (.ins C dx [])) (fun v H2 => v = .non ∧ Q (.ref x) H2) E) : wpAny (model X.prog X.w) X.A (call (.ref C) us) (EP X pins σ Q) X.xe s := by
  have wish := h (s.heap.objs.size + 1) s.heap.objs.size (I.hok.fresh (Nat.le_succ _)) (I.hok.fresh (Nat.le_refl _)) (Nat.ne_of_lt (Nat.lt_succ_self _))
  have J := Inv.made (C := C) I
  have rs : Vals (V.ref (s.heap.objs.size + 1) :: vs) (Value.ref (s.heap.objs.size + 1) :: us) := .cons rfl r
  refine wpAny_call (make_map (f := f) I.kIn M.makes M.init (beq_iff_eq.mp M.fn) (codeAny_mono (F _ X.stack _ _ _ _ _ E (hr.make C us []) (J.env0.make C us []) rs wish) fun res s' got => ?_))
  cases res with
  | error e => exact hx pins _ _ e s' J got
  | ok fl => cases fl with
    | ret u =>
      obtain ⟨v, H', I3, rv, ev, q3⟩ := J.after got
      subst ev
      exact ⟨rv, ⟨V.ref (s.heap.objs.size + 1), H', I3, rfl, q3⟩⟩
    | next => exact got.elim
    | brk => exact got.elim
    | cont => exact got.elim
theorem run_cmS {CX : CXT} {k : Nat} {g q C : Addr} {sp : Sp} {E : XK} {Q : VK} {us : List Value} {vs : List V} {pins : List (Addr × Obj)} {s : Shared} (F : FnG X.prog X.w X.K X.mg X.base CX k g sp) (hr : RoomG k X.A) (hx : PassesAt CX X σ E)
    (I : Inv X ((q, PySem.W.methodObj (.ref g) (.ref C)) :: pins) σ H s) (r : Vals vs us) (h : sp (.ref C :: vs) H Q E) : wpAny (model X.prog X.w) X.A (call (.ref q) us) (EP X pins σ Q) X.xe s := by
  have z : wpAny (model X.prog X.w) X.A (call (.ref q) us) (EP X ((q, PySem.W.methodObj (.ref g) (.ref C)) :: pins) σ Q) X.xe s :=
    wpAny_call (PySem.W.method_call (ClX.pin_at I)
      (run_fnRS (us := .ref C :: us) (vs := .ref C :: vs) F hr hx I (.cons rfl r) h))
  exact thn z fun _ _ y => ClX.unpinE y
/-- C.m(e, ..), m a classmethod -/
theorem ce_cmth {k C : Nat} {mc : Value} {pr g : Addr} {nm x : Str} {xp : Pos} {e : Expr} {es : List Expr} {m : MF} {ms : MA} {apos pos : Pos} {pl : Sem Bool} (hg : Gl X x) (hmx : X.mg x = some (.ref (ca C))) (r : ClX.CRead X.K (ca C) mc) (c : ClX.CMet X.K (ca C) mc nm pr g)
    (F : FnG X.prog X.w X.K X.mg X.base (L2.CX X.prog X.w) k g (spM ca X.K m)) (hr : RoomG k X.A) (ha : CL ca X (e :: es) ms) (hst : NoStar (e :: es)) (ht : MForm X (.Name x xp) nm (e :: es) apos pos pl := by exact rfl) (hdb : (x == ("__debug__" : Str)) = false := by decide) (hpl : (backTo pos (starEach es X.env)).any (·.1) = false := by rfl) :
    CE ca X (.Call (.Attribute (.Name x xp) nm apos) (e :: es) [] pos) (eCall m (aCons (eC (.cls C)) ms)) := fun Hf H R σ st Q p h => by
  have hw : Wa X (e :: es) σ H fun vs H1 => spM ca X.K m (.ref (ca C) :: vs) H1 Q (fun cls dd H' => wX X cls dd σ H') := by
    refine wa_wl (fun e' r' q => noStar_suf hst e' r' q _) (ha Hf H R σ st _ p ?_)
    unfold eCall aCons eC at h
    dsimp only [Res.bind] at h
    cases e1 : ms st with
    | fail => rw [e1] at h; exact h
    | exc y st1 => rw [e1] at h; exact h
    | ok ds st1 =>
      rw [e1] at h
      intro Hf1 H1 P1 R1 vs t1 p1
      have p2 : PR ca X.K Hf1 H1 P1 (RepL ca X.K Hf1 H1 P1 (.ref (ca C) :: vs) (.cls C :: ds)) R1 σ st1 := p1.imp fun q => .cons (S1 := Em) (S2 := P1) .cls q (fun _ z => z.elim) (fun _ z => z) fun _ z _ => z
      exact ⟨Hf1, P1, .cls C :: ds, p2.pend, p2.w.mono fun b q => .inl q, postC_of p2 (Post.from t1 h)⟩
  refine ⟨fun pins s I => ?_⟩
  have ho : PE X (.Name x xp) (tC (.ref (ca C))) := pe_glob hg hmx rfl hdb
  refine PySem.W.methodCall_KW (pl := pl) (thn (ho.run pins s σ H (fun v H1 => v = .ref (ca C) ∧ H1 = H) I ⟨rfl, rfl⟩) fun u s1 ⟨v, H1, I1, rx, ev, eh⟩ => ?_) ht
  subst ev eh
  obtain rfl : u = Value.ref (ca C) := rx
  refine ClX.getmethcm_ok I1 r c fun s2 I2 => ?_
  refine ClX.callwith_cm I2 (ClX.base_none I1 (Nat.le_refl _)) c.fi
    (thn (hw pos _ s2 I2) fun us s3 ⟨vs, H2, I3, rv, q2⟩ => ⟨⟨ClX.pin_at I3, I3.kIn⟩, ?_⟩) (hst.1 _) hpl
  exact run_cmS F hr (passAt (takes_wX X) σ) I3 rv q2
/-- cls(e, ..), cls a slot that holds the class C -/
theorem ce_makeV {k C i : Nat} {f : Addr} {x : Str} {p pos : Pos} {e : Expr} {es : List Expr} {m : MF} {ms : MA} (M : Mk X.K (ca C) f) (F : FnG X.prog X.w X.K X.mg X.base (L2.CX X.prog X.w) k f (spM ca X.K m)) (hr : RoomG (k + 1) X.A) (hN : X.N[i]? = some x) (hv : Vis X.env.scope x)
    (ha : CL ca X (e :: es) ms) (hst : NoStar (e :: es)) (hdb : (x == ("__debug__" : Str)) = false := by decide) (hcd : (x == ("__classdict__" : Str)) = false := by decide) (hpl : (backTo pos (starEach es X.env)).any (·.1) = false := by rfl) :
    CE ca X (.Call (.Name x p) (e :: es) [] pos) (eMakeV C i m ms) := fun Hf H R σ st Q pr h => by
  unfold eMakeV at h
  cases eg : getS st i with
  | none => rw [eg] at h; exact h.elim
  | some d0 =>
    rw [eg] at h
    cases d0 with
    | cls C' =>
      change Post ca X Hf H _ σ (if C' = C then _ else .fail) Q at h
      by_cases hc : C' = C
      · rw [if_pos hc] at h
        subst hc
        obtain ⟨v0, ev0, rv⟩ := pr.at_ i _ eg
        cases rv
        have hw : Wa X (e :: es) σ H fun vs H1 => ∀ x dx, H1 x = none → H1 dx = none → dx ≠ x → spM ca X.K m (.ref x :: vs) (upd (upd H1 dx (.own x)) x (.ins (ca C') dx [])) (fun v H2 => v = .non ∧ Q (.ref x) H2) (fun cls dd H' => wX X cls dd σ H') := by
          refine wa_wl (fun e' r' q => noStar_suf hst e' r' q _) (ha Hf H R σ st _ pr ?_)
          unfold eMake at h
          cases e1 : ms st with
          | fail => rw [e1] at h; exact h
          | exc y st1 => rw [e1] at h; exact h
          | ok ds st1 =>
            rw [e1] at h
            intro Hf1 H1 P1 R1 vs t1 p1 x dx n1 n2 n3
            exact postC_make p1 n1 n2 n3 (Post.from t1 h)
        refine ⟨fun pins s I => ?_⟩
        refine wpAny_Call_Name_kw (thn ((pe_var (pos := p) hN hv hdb hcd).run pins s σ H
          (fun v H1 => v = .ref (ca C') ∧ H1 = H) I ⟨.ref (ca C'), ev0, rfl, rfl⟩) fun u s1 ⟨v, H1, I1, r1, q1, q2⟩ => ?_)
        subst q1 q2
        cases r1
        refine PySem.W.callWith_K (h₀ := X.base) I.ok.mod.kin M.kp
          (thn (hw pos pins s1 I1) fun us s2 ⟨vs, H2, I2, r, q⟩ => ⟨I2.kIn, ?_⟩) (hst.1 _) hpl
        exact run_makeG M F hr (passAt (takes_wX X) σ) I2 r q
      · rw [if_neg hc] at h; exact h.elim
    | _ => exact h.elim
/-- f(e, ..), by FnR -/
theorem ce_callR {k : Nat} {f : Addr} {x : Str} {p pos : Pos} {e : Expr} {es : List Expr} {m : MF} {ms : MA} (F : FnG X.prog X.w X.K X.mg X.base (L2.CX X.prog X.w) k f (spM ca X.K m)) (hr : RoomG k X.A) (hg : Gl X x) (hm : X.mg x = some (.ref f))
    (hk : PySem.W.keepIn X.K (.ref f) = true) (ha : CL ca X (e :: es) ms) (hst : NoStar (e :: es)) (hdb : (x == ("__debug__" : Str)) = false := by decide) (hpl : (backTo pos (starEach es X.env)).any (·.1) = false := by rfl) :
    CE ca X (.Call (.Name x p) (e :: es) [] pos) (eCall m ms) := fun Hf H R σ st Q pr h => by
  have hw : Wa X (e :: es) σ H fun vs H1 => spM ca X.K m vs H1 Q (fun cls dd H' => wX X cls dd σ H') := by
    refine wa_wl (fun e' r' q => noStar_suf hst e' r' q _) (ha Hf H R σ st _ pr ?_)
    unfold eCall at h
    cases e1 : ms st with
    | fail => rw [e1] at h; exact h
    | exc x st1 => rw [e1] at h; exact h
    | ok ds st1 =>
      rw [e1] at h
      intro Hf1 H1 P1 R1 vs t1 p1
      exact ⟨Hf1, P1, ds, p1.pend, p1.w.mono fun b q => .inl q, postC_of p1 (Post.from t1 h)⟩
  refine ⟨fun pins s I => ?_⟩
  refine wpAny_Call_Name_kw (ld_glob I hg hm ?_ hdb)
  refine PySem.W.callWith_K (h₀ := X.base) I.ok.mod.kin hk
    (thn (hw pos pins s I) fun us s1 ⟨vs, H1, I1, r, q⟩ => ⟨I1.kIn, ?_⟩) (hst.1 _) hpl
  exact wpAny_call (run_fnRS F hr (passAt (takes_wX X) σ) I1 r q)
end
end DL

/-! DL33: repr of what is no container; texts compared. -/
namespace DL
open PySem L2 PyProof.Rows
section
variable {ca : Nat → Addr} {K : PySem.W.Frag} {Hf H Hf1 H1 : Hp} {S : Rg} {X : Cx} {v : V} {d : D}
theorem ce_revA {e : Expr} {oe : Opd} {k : Nat} {p1 p2 p3 pos : Pos} (he : CO ca X e oe) : CE ca X (.Subscript e (.Slice none none (some (.UnaryOp .USub (.Constant (.int 1) k p1) p2)) p3) pos) (eOp oRevA [oe]) :=
  ce_op (es := [e]) (rl := rl1 fun x H Q => ∃ a xs, x = .ref a ∧ ((SqL X.K H a xs ∧ ∀ p, H p = none → Q (.ref p) (upd H p (.lst xs.reverse))) ∨ (SqT X.K H a xs ∧ ∀ p, H p = none → Q (.ref p) (upd H p (.tup xs.reverse)))))
    (fun σ H Q h => we_of (pe_revA (we_pe X e)) h) (.cons he .nil) fun Hf H vs ds o Q hx rd h q => by
    obtain ⟨x, rfl⟩ : ∃ x, ds = [x] := by
      match ds, h with
      | [], h => cases h
      | [x], _ => exact ⟨x, rfl⟩
      | a :: b :: r, h => cases a <;> cases h
    cases x with
    | tup xs =>
      obtain ⟨v, S, e1, r1⟩ := rdl1 rd rfl
      subst e1
      obtain ⟨a, vs, rfl, e2, r3⟩ := rep_tup hx r1
      dsimp only [oRevA] at h
      split at h
      · cases h
        exact ⟨a, vs, rfl, .inr ⟨.inl (.inl e2), fun p hp => q p _ hp (repL_rev r3)⟩⟩
      · cases h
    | lst o xs =>
      obtain ⟨rfl, hc, hl⟩ := newLc_some (show newLc xs.reverse = some _ from h)
      obtain ⟨v, S, e1, r1⟩ := rdl1 rd rfl
      subst e1
      obtain ⟨a, vs, T, rfl, e2, r3⟩ := rep_lstItems hx r1 (show lstItems (.lst o xs) = some xs from rfl)
      exact ⟨a, vs, rfl, .inl ⟨e2, fun p hp => q p _ hp (repL_rev (repL_cold r3 (colds_rev hc)))⟩⟩
    | scr xs =>
      obtain ⟨rfl, hc, hl⟩ := newLc_some (show newLc (xs.map D.int).reverse = some _ from h)
      obtain ⟨v, S, e1, r1⟩ := rdl1 rd rfl
      subst e1
      obtain ⟨a, vs, T, rfl, e2, r3⟩ := rep_lstItems hx r1 (show lstItems (.scr xs) = some (xs.map D.int) from rfl)
      exact ⟨a, vs, rfl, .inl ⟨e2, fun p hp => q p _ hp (repL_rev (repL_cold r3 (colds_rev hc)))⟩⟩
    | _ => cases h
end
theorem oS01_scr (l : List Int) (j : Int) (hl : l.length ≤ 63) : ∃ k, oS01 [.scr l, .int j] = some (.newL (nums k)) := oSl01_scr l j hl
theorem cutD_nums (l : List Int) (lo hi : Option Int) : cutD (nums l) lo hi = nums ((l.drop (HT.sIx l.length 0 lo)).take (HT.sIx l.length l.length hi - HT.sIx l.length 0 lo)) := by
  unfold cutD
  rw [nums_len]
  unfold nums
  rw [List.map_take, List.map_drop]
theorem s10_n {o : Bool} {p : List Int} {j : Int} {k : Nat} (hj : j = (k : Int)) (hp : p.length ≤ 16777216) : oS10 [.lst o (nums p), .int j] = some (.newL (nums (p.drop k))) := by
  subst hj
  show newLc (cutD (nums p) (some (k : Int)) none) = _
  rw [cutD_nums]
  have e1 : HT.sIx p.length 0 (some (k : Int)) = min k p.length := by
    show (if (k : Int) < 0 then ((k : Int) + (p.length : Int)).toNat else min (k : Int).toNat p.length) = _
    rw [if_neg (by omega), Int.toNat_natCast]
  have e2 : HT.sIx p.length p.length none = p.length := rfl
  rw [e1, e2]
  have e3 : (p.drop (min k p.length)).take (p.length - min k p.length) = p.drop k := by
    by_cases h : k ≤ p.length
    · rw [Nat.min_eq_left h, List.take_of_length_le (by rw [List.length_drop]; omega)]
    · rw [Nat.min_eq_right (by omega), List.drop_length, List.take_nil, List.drop_of_length_le (by omega)]
  rw [e3]
  unfold newLc
  rw [nums_colds, nums_len, List.length_drop]
  exact if_pos (by simp; omega)
theorem s01_n {o : Bool} {p : List Int} {j : Int} {k : Nat} (hj : j = (k : Int)) (hp : p.length ≤ 16777216) : oS01 [.lst o (nums p), .int j] = some (.newL (nums (p.take k))) := by
  subst hj
  show newLc (cutD (nums p) none (some (k : Int))) = _
  rw [cutD_nums]
  have e1 : HT.sIx p.length p.length (some (k : Int)) = min k p.length := by
    show (if (k : Int) < 0 then ((k : Int) + (p.length : Int)).toNat else min (k : Int).toNat p.length) = _
    rw [if_neg (by omega), Int.toNat_natCast]
  have e2 : HT.sIx p.length 0 none = 0 := rfl
  rw [e1, e2, List.drop_zero, Nat.sub_zero]
  have e3 : p.take (min k p.length) = p.take k := by
    by_cases h : k ≤ p.length
    · rw [Nat.min_eq_left h]
    · rw [Nat.min_eq_right (by omega), List.take_length, List.take_of_length_le (by omega)]
  rw [e3]
  unfold newLc
  rw [nums_colds, nums_len, List.length_take]
  exact if_pos (by simp; omega)
end DL

/-! DL34: the splitting into descending runs; the one normal word of an effect. -/
namespace Nw
open DL
end Nw

/-! DL35: calls with a slot lent, instances made, ==, len, the law's end, by FnG; repr of data. -/
namespace DL
open PySem L2 PyProof.Rows
section
variable {ca : Nat → Addr} {K : PySem.W.Frag} {Hf H Hf1 H1 Hf2 H2 : Hp} {S S1 S2 P P1 P2 : Rg} {R R1 R2 : Nat → Rg} {pp qq : Prop} {σ σ' : L2.St} {st st' : Sl} {v w : V} {d e : D} {vs : List V} {ds xs : List D} {X : Cx} {L : List Nat}
theorem ce_callLG {k : Nat} {f : Addr} {x : Str} {p pos : Pos} {e0 : Expr} {es : List Expr} (es1 fs : List Expr) (e : Expr) {i : Nat} {m : MF} {ms ns : MA} (F : FnG X.prog X.w X.K X.mg X.base (L2.CX X.prog X.w) k f (spM ca X.K m)) (hr : RoomG k X.A) (hg : Gl X x) (hm : X.mg x = some (.ref f))
    (hk : PySem.W.keepIn X.K (.ref f) = true) (ha : CL ca X es1 ms) (he : PE X e (tVar i)) (hbs : CL ca X fs ns) (hes : e0 :: es = es1 ++ e :: fs) (hst : NoStar (e0 :: es)) (hdb : (x == ("__debug__" : Str)) = false := by decide) (hpl : (backTo pos (starEach es X.env)).any (·.1) = false := by rfl) :
    CE ca X (.Call (.Name x p) (e0 :: es) [] pos) (eCallL m ms i ns) := fun Hf H R σ st Q pr h => by
  have hw : Wa X (e0 :: es) σ H fun vs H1 => spM ca X.K m vs H1 Q (fun cls dd H' => wX X cls dd σ H') := by
    refine wa_wl (fun e' r' q => noStar_suf hst e' r' q _) ?_
    rw [hes]
    exact lent_args (E := fun σ cls dd H' => wX X cls dd σ H') ha he hbs pr h rfl
  refine ⟨fun pins s I => ?_⟩
  refine wpAny_Call_Name_kw (ld_glob I hg hm ?_ hdb)
  refine PySem.W.callWith_K (h₀ := X.base) I.ok.mod.kin hk
    (thn (hw pos pins s I) fun us s1 ⟨vs, H1, I1, r, q⟩ => ⟨I1.kIn, ?_⟩) (hst.1 _) hpl
  exact wpAny_call (run_fnRS F hr (passAt (takes_wX X) σ) I1 r q)
theorem ce_makeG {k C : Nat} {f : Addr} {x : Str} {p pos : Pos} {e : Expr} {es : List Expr} {m : MF} {ms : MA} (M : Mk X.K (ca C) f) (F : FnG X.prog X.w X.K X.mg X.base (L2.CX X.prog X.w) k f (spM ca X.K m)) (hr : RoomG (k + 1) X.A) (hg : Gl X x) (hm : X.mg x = some (.ref (ca C)))
    (ha : CL ca X (e :: es) ms) (hst : NoStar (e :: es)) (hdb : (x == ("__debug__" : Str)) = false := by decide) (hpl : (backTo pos (starEach es X.env)).any (·.1) = false := by rfl) :
    CE ca X (.Call (.Name x p) (e :: es) [] pos) (eMake C m ms) := fun Hf H R σ st Q pr h => by
  have hw : Wa X (e :: es) σ H fun vs H1 => ∀ x dx, H1 x = none → H1 dx = none → dx ≠ x → spM ca X.K m (.ref x :: vs) (upd (upd H1 dx (.own x)) x (.ins (ca C) dx [])) (fun v H2 => v = .non ∧ Q (.ref x) H2) (fun cls dd H' => wX X cls dd σ H') := by
    refine wa_wl (fun e' r' q => noStar_suf hst e' r' q _) (ha Hf H R σ st _ pr ?_)
    unfold eMake at h
    cases e1 : ms st with
    | fail => rw [e1] at h; exact h
    | exc x st1 => rw [e1] at h; exact h
    | ok ds st1 =>
      rw [e1] at h
      intro Hf1 H1 P1 R1 vs t1 p1 x dx n1 n2 n3
      exact postC_make p1 n1 n2 n3 (Post.from t1 h)
  refine ⟨fun pins s I => ?_⟩
  refine wpAny_Call_Name_kw (ld_glob
      I hg hm ?_ hdb)
  refine PySem.W.callWith_K (h₀ := X.base) I.ok.mod.kin M.kp (thn (hw pos pins s I) fun us s1 ⟨vs, H1, I1, r, q⟩ => ⟨I1.kIn, ?_⟩) (hst.1 _) hpl
  exact run_makeG M F hr (passAt (takes_wX X) σ) I1 r q
theorem run_fnAG {CX : CXT} {k : Nat} {f : Addr} {sp : Sp} {E : XK} {A : Around} {pins : List (Addr × Obj)} {s : Shared} {us : List Value} {Q : VK} (F : FnG X.prog X.w X.K X.mg X.base CX k f sp) (hr : RoomG k A) (hfr : A.frames = X.A.frames)
    (hx : PassesAt CX X σ E) (I : Inv X pins σ H s) (r2 : Vals vs us) (h : sp vs H Q E) : wpAny (model X.prog X.w) A (call (.ref f) us) (EP X pins σ Q) X.xe s := by
  have e0 : Env0 X.prog X.w X.K X.mg X.base A X.stack s H
      := by
    have e := I.env0
    exact ⟨hfr.trans e.frames, e.mod, e.bs, e.bsz, e.funs, e.frf, e.hok, e.bare⟩
  refine wpAny_call (codeAny_mono (F A X.stack s H _ _ Q E hr e0 r2 h) fun res s' got => ?_)
  cases res with
  | error e => exact hx pins _ _ e s' I got
  | ok fl => cases fl with
    | ret w => exact I.after got
    | next => exact got.elim
    | brk => exact got.elim
    | cont => exact got.elim
theorem ce_lenIG {k C : Nat} {f : Addr} {a : Expr} {oa : Opd} {m : MF} {p pos : Pos} (F : FnG X.prog X.w X.K X.mg X.base (L2.CX X.prog X.w) k f (spM ca X.K m)) (c : OwnSpC X.K (ca C) f "__len__") (hr : RoomG (k + 1) X.A)
    (hg : Gl X "len") (hm : X.mg "len" = none) (ha : CO ca X a oa) (hst : NoStar [a] := by exact ⟨fun _ => rfl, trivial⟩) : CE ca X (.Call (.Name "len" p) [a] [] pos) (eLenI C m oa) := fun Hf H R σ st Q pr h => by
  have key : Wa X [a] σ H fun vs H2 => ∃ x dx fs, vs = [.ref x] ∧ H2 x = some (.ins (ca C) dx fs) ∧ spM ca X.K m [.ref x] H2 (fun v H' => ∃ n : Int, v = .int n ∧ 0 ≤ n ∧ n < 2 ^ 63 ∧ Q (.int n) H') (fun cls dd H' => wX X cls dd σ H') := by
    refine wa_wl (fun e' r' q => noStar_suf hst e' r' q _) (ops_sound (.cons ha .nil) pr h fun gs st2 Hf2 H2 R2 vs t2 p2 hr2 hk => ?_)
    cases g : gs st2 with
    | none => rw [g] at hk; exact hk.elim
    | some ds =>
      rw [g] at hk
      obtain ⟨x, rfl⟩ : ∃ x, ds = [x] := by
        match ds, hk with
        | [x], _ => exact ⟨x, rfl⟩
      dsimp only at hk
      by_cases hc : insC x = some C
      · rw [if_pos hc] at hk
        obtain ⟨v, S', e1, r1⟩ := rdl1 (hr2 _ g) rfl
        subst e1
        have h1 : hot x = false := by
          cases x <;> try (cases hc; done)
          rename_i o _ _
          cases o
          · rfl
          · cases hc
        have q1 := r1.cold (S' := Em) h1
        cases x <;> try (cases hc; done)
        rename_i o1 C1 g1
        obtain ⟨a, dx, fs, T, rfl, e2, _, _⟩ := rep_ins p2.w.ex q1
        have d1 : C1 = C := by
          cases o1
          · exact Option.some.inj hc
          · cases hc
        subst d1
        have rl : RepL ca X.K Hf2 H2 Em [.ref a] [.ins o1 C1 g1] := RepL.one q1
        refine ⟨a, dx, fs, rfl, e2, Hf2, Em, _, rl, p2.w.mono fun _ q => q.elim, ?_⟩
        refine postC_of (σ := σ) (st := st2) (R := R2) (p2.imp fun _ => rl) ?_
        cases em : m [.ins o1 C1 g1] with
        | fail => rw [em] at hk; exact hk
        | exc x0 ps => rw [em] at hk; exact hk.elim
        | ok d ps =>
          rw [em] at hk
          cases d with
          | int n =>
            dsimp only at hk
            by_cases hn : 0 ≤ n ∧ n < 2 ^ 63
            · rw [if_pos hn] at hk
              intro Hf3 H3 P3 R3 v3 t3 p3
              exact ⟨n, rep_int p3.pend, hn.1, hn.2, hk Hf3 H3 Em R3 _ (less0 t3) (p3.drop.put .int)⟩
            · rw [if_neg hn] at hk; exact hk.elim
          | _ => exact hk.elim
      · rw [if_neg hc] at hk; exact hk.elim
  refine ⟨fun pins s I => ?_⟩
  refine wpAny_Call_Name_kw (ld_blt I hg hm boot_len ?_)
  refine PyProof.Rows.callWith_builtin1 (thn (key pos pins s I) fun us s1 ⟨vs, H1, I1, r1, q1⟩ => ?_) (hst.1 _) rfl
  obtain ⟨x, dx, fs, rfl, e2, sp⟩ := q1
  obtain ⟨u, rfl, rx⟩ := vals1 r1
  obtain rfl : u = .ref x := rx
  obtain ⟨hp, g, dr, tk, os⟩ :=
      s1
  refine len_own (c.at (y := none) I1 e2 (by with_unfolding_all rfl)) ?_
  refine thn (run_fnAG F hr.in1 (show X.A.in1.frames = X.A.frames from rfl) (passAt (takes_wX X) σ) I1 r1 sp) fun v s' ⟨vv, H', I', rv, n, ev, n0, n1, q⟩ => ?_
  subst ev
  obtain ⟨u, rfl⟩ := rv
  exact ⟨n, u, rfl, n0, n1, .int n, H', I'.kept (t' := s'.toks + 1) fun b o e => e, ⟨_, rfl⟩, q⟩

/-! ### a law's end -/
theorem law_base {P : Program} {w : World} {K : PySem.W.Frag} {mg mb : Str → Option Value} {k : Nat} {fa a : Addr} {sp : Sp} {s₁ : Shared} {vs : List Value} {H : Hp}
    (KX : K.In s₁.heap) (hns : s₁.heap.Ns mainGlobals mg) (hb : s₁.heap.Ns builtinsNs mb) (hbb : ∀ x : Str, x ≠ "__name__" → mb x = bootBuiltins x) (hlim : s₁.heap.NoLimit) (hg : s₁.gens = #[])
    (ha : s₁.heap.get? a = some { cls := .type "list", data := .seq vs.toArray }) (hr : RoomG k callerA)
    (F : ∀ base : Heap, K.In base → base.Ns mainGlobals mg → FnG P w K mg base (L2.CX P w) k fa sp) (hq : sp [.ref a] H (fun v _ => v = .bl true) fun _ _ _ => False)
    (hCX : ∀ e s', L2.CX P w [] H s₁ (fun _ _ _ => False) e s' → False) (hO : Only H) (hok : HOk P w H s₁.heap) (hA : ∀ b, H b ≠ none → b = a) (hK : H a ≠ none → K.lookup a = none) :
    codeAny (model P w) callerA (.call (.ref fa) ⟨[.ref a], []⟩) (fun r s' => r = .ok (.ret (.bool true)) ∧ OldK s₁.heap s'.heap ∧ s'.os = s₁.os ∧ AllBare s'.gens) s₁ := by
  have only : ∀ {b : Addr}, H b ≠ none → ∀ {o : Obj}, s₁.heap.get? b = some o → b = a ∧ o = { cls := .type "list", data := .seq vs.toArray } := fun {b} q o e => by
    have z := hA b q
    subst z
    rw [ha] at e
    exact ⟨rfl, (Option.some.inj e).symm⟩
  have free : ∀ {b : Addr} {o : Obj} {es : Array DictEntry} {ep : Nat}, s₁.heap.get? b = some o → o.data = .dict es ep → H b = none := fun {b o es ep} e dd =>
    Classical.byContradiction fun q => by
      obtain ⟨_, z⟩ := only q e
      subst z
      have z2 : Data.seq vs.toArray _ = Data.dict es ep := dd
      cases z2
  have ns : ∀ {b : Addr} {m : Str → Option Value}, s₁.heap.Ns b m → (hidT s₁.heap H).Ns b m :=
    fun {b m} ⟨o, es, ep, e, dd, r⟩ => ⟨o, es, ep, hidT_get e (free e dd), dd, r⟩
  have kin : K.In (hidT s₁.heap H) := fun b o e => hidT_get (KX b o e) (Classical.byContradiction fun q => by
    have z := hA b q
    subst z
    rw [hK q] at e
    cases e)
  have md : Mod K mg (hidT s₁.heap H) := ⟨kin, ns hns, ⟨mb, ns hb, hbb⟩, let ⟨mc, h1, h2⟩ := hlim; ⟨mc, ns h1, h2⟩⟩
  have nil : ∀ b : Addr, ¬ b ∈ ([] : List Addr) := fun b z => by cases z
  have e0 : Env0 P w K mg (hidT s₁.heap H) callerA [] s₁ H :=
    ⟨rfl, md, fun b o e => of_hidT e, Nat.le_of_eq (hidT_size _ _), trivial, fun b z => absurd z (nil b), hok, .of_eq hg⟩
  refine codeAny_mono (F _ kin (ns hns) callerA [] s₁ H [.ref a] [.ref a] _ _ hr e0 (.cons rfl .nil) hq) fun r s' h => ?_
  cases r with
  | error e => exact (hCX e s' h).elim
  | ok fl =>
    cases fl with
    | next => exact h.elim
    | brk => exact h.elim
    | cont => exact h.elim
    | ret u =>
      obtain ⟨v, H', os, bare, un, hok', r', q⟩ := h
      have q' : v = .bl true := q
      subst q'
      obtain rfl : u = Value.bool true := r'
      refine ⟨rfl, OldK.of_keep fun b o e => ?_, os, bare⟩
      rcases hO b with z | ⟨ob, xs, z⟩
      · exact un.keep b o e z (nil b) (nil b)
      · obtain ⟨e1, _⟩ := hok b _ z
        obtain ⟨e2, _⟩ := hok' b _ (un.frzs b ob _ z)
        rw [e] at e1
        cases e1
        exact e2
theorem law_callG {P : Program} {w : World} {K : PySem.W.Frag} {mg mb : Str → Option Value} {k : Nat} {fa a : Addr} {sp : Sp} {s₁ : Shared} {vs : List Value} {ns : List Int}
    (KX : K.In s₁.heap) (hns : s₁.heap.Ns mainGlobals mg) (hb : s₁.heap.Ns builtinsNs mb) (hbb : ∀ x : Str, x ≠ "__name__" → mb x = bootBuiltins x) (hlim : s₁.heap.NoLimit) (hg : s₁.gens = #[])
    (ha : s₁.heap.get? a = some { cls := .type "list", data := .seq vs.toArray }) (hi : IntsAre vs ns) (hl : ns.length ≤ sizeLine) (hr : RoomG k callerA)
    (F : ∀ base : Heap, K.In base → base.Ns mainGlobals mg → FnG P w K mg base (L2.CX P w) k fa sp)
    (hsp : ∀ H : Hp, Only H → SqL K H a (ns.map V.int) → sp [.ref a] H (fun v _ => v = .bl true) fun _ _ _ => False)
    (hCX : ∀ H e s', L2.CX P w [] H s₁ (fun _ _ _ => False) e s' → False) :
    codeAny (model P w) callerA (.call (.ref fa) ⟨[.ref a], []⟩) (fun r s' => r = .ok (.ret (.bool true)) ∧ OldK s₁.heap s'.heap ∧ s'.os = s₁.os ∧ AllBare s'.gens) s₁ := by
  have rv := vals_ints hi
  have lv := hi.length
  have go : ∀ H : Hp, Only H → SqL K H a (ns.map V.int) → HOk P w H s₁.heap → (∀ b, H b ≠ none → b = a) → (H a ≠ none → K.lookup a = none) → _ :=
    fun H hO hS hok hA hK => law_base KX hns hb hbb hlim hg ha hr F (hsp H hO hS) (hCX H) hO hok hA hK
  cases hk : K.lookup a with
  | some o =>
    have e := KX a o hk
    rw [ha] at e
    cases e
    have lit : vs.toArray.size ≤ sizeLine := by
      rw [List.size_toArray, lv]
      exact hl
    exact go (fun _ => none) (fun _ => .inl rfl) (.inr ⟨_, vs.toArray, _, hk, rfl, rfl, rfl, lit, by simpa using rv⟩)
      (fun b u z => nomatch z) (fun b z => absurd rfl z) fun z => absurd rfl z
  | none =>
    obtain ⟨H, h1, h2⟩ : ∃ H : Hp, H a = some (.frz { cls := .type "list", data := .seq vs.toArray } (.lst (ns.map V.int))) ∧ ∀ b, b ≠ a → H b = none :=
      ⟨fun b => if b = a then some (.frz { cls := .type "list", data := .seq vs.toArray } (.lst (ns.map V.int))) else none, if_pos rfl, fun b z => if_neg z⟩
    refine go H (fun b => ?_) (.inl (.inr ⟨_, h1⟩)) (fun b u z => ?_) (fun b z => Classical.byContradiction fun q => z (h2 b q)) fun _ => hk
    · by_cases q : b = a
      · subst q
        exact .inr ⟨_, _, h1⟩
      · exact .inl (h2 b q)
    · by_cases q : b = a
      · subst q
        rw [h1] at z
        cases z
        exact ⟨ha, by rw [List.length_map]; exact hl, vs, _, rv, ha⟩
      · rw [h2 b q] at z
        cases z
theorem walk_lawG {l : PySem.W.OpenLaw} {k : Nat} {q : Program} {loose : List Str} {XP : (Str → Option Value) → Heap → Prop} {YP : World → Heap → Prop} {d : DefRec} {K : Params → PySem.W.Frag} {m : MF}
    (hn : l.most = some 63) (hdf : d.params.defaults = []) (hr : Room k callerA) (hY : ∀ (w : World) (h : Heap), YP w h → (K w.params).In h)
    (F : ∀ (w : World) (mg : Str → Option Value) (fa : Addr) (h : Heap),
        (K w.params).In h → h.Ns mainGlobals mg → mg d.name = some (.ref fa) →
      ∃ (ca : Nat → Addr), ∀ base : Heap, (K w.params).In base → base.Ns mainGlobals mg → FnG l.prog w (K w.params) mg base (L2.CX l.prog w) k fa (spM ca (K w.params) m))
    (hm : ∀ ns : List Int, ns.length ≤ 63 → ∃ ps, m [.scr ns] = .ok (.bl true) ps) :
    PySem.W.WalkO q loose XP YP l.row.toRowW d [] (fun f vs => PySem.call f vs) := by
  refine Att.attach_call hn hdf fun w s₀ s₁ mg mb fa o pm cd doc a vs ns G Y ho hd hcd hmg hobj hints hlen hg => ?_
  obtain ⟨ca, h5⟩ := F w mg fa _ (hY w _ Y) G.T.g hmg
  exact law_callG (hY w _ Y) G.T.g G.T.b G.T.builtins G.T.nolimit hg hobj hints (Nat.le_trans hlen (by decide)) ⟨rfl, hr⟩ h5 (fun H hO hS => sp_law hm H a ns hlen hS) fun H e s' h => law_cx h
end
end DL

/-! DL36: repr of data. -/
namespace DL
open PySem L2 PyProof.Rows
/-- what repr takes -/
def rpOk (p : PyData) : Bool := p.canLay0 && p.showable && !p.hasDict && decide (p.depth ≤ 64) && decide (p.shown.length ≤ 16777216)
def rRepr (K : PySem.W.Frag) : List V → Hp → VK → Prop := fun xs H Q => ∃ x p, xs = [x] ∧ Dp K H x p ∧ rpOk p = true ∧ Q (.str p.shown) H
def oRepr : List D → Option Out
  | [x] => if rpOk (toPy x) then some (.val (.str (toPy x).shown)) else none
  | _ => none
section
variable {ca : Nat → Addr} {K : PySem.W.Frag} {Hf H Hf1 H1 : Hp} {S : Rg} {X : Cx} {v : V} {d : D}
theorem call_repr {k : Nat} (hr : RoomG k X.A) : CallR X (.builtin "repr") (rRepr X.K) := by
  intro pins s σ H xs us Q I r h
  obtain ⟨x, p, rfl, hd, ok, q⟩ := h
  unfold rpOk at ok
  simp only [Bool.and_eq_true, decide_eq_true_eq, Bool.not_eq_true'] at ok
  obtain ⟨⟨⟨⟨h1, h2⟩, h3⟩, h4⟩, h5⟩ := ok
  rw [sz_eq] at h5
  obtain ⟨u, rfl, rx⟩ := vals1 r
  obtain ⟨as, rd⟩ := Dp.reads I p x u hd rx
  have hu := hr.2.un
  have big : ∀ a, u = .ref a → wpAny (model X.prog X.w) X.A (call (.builtin "repr") [.ref a]) (EP X pins σ Q) X.xe s := fun a e => by
    subst e
    exact PySem.repr_of_reads' rd h2 (PyData.noDict_hsm h3) hr.1 (by omega) (fun _ _ e => e)
      (fun h' u tk keep => ⟨.str _, H, I.kept (t' := tk) keep, ⟨_, rfl⟩, q⟩) h5
  cases rd with
  | none => exact PySem.P.repr_of_none ⟨.str _, H, I.tok _, ⟨_, rfl⟩, q⟩
  | bool b => exact PySem.P.repr_of_bool ⟨.str _, H, I.tok _, ⟨_, rfl⟩, q⟩
  | int i t => exact PySem.P.repr_of_int (by simpa [PyData.showable] using h2) ⟨.str _, H, I.tok _, ⟨_, rfl⟩, q⟩
  | str y t => exact PySem.P.repr_of_str ⟨.str _, H, I.tok _, ⟨_, rfl⟩, q⟩ h5
  | list _ _ _ _ => exact big _ rfl
  | tuple _ _ _ _ => exact big _ rfl
  | dict _ _ _ _ _ => exact big _ rfl
theorem os_repr : OpS ca K (rRepr K) oRepr := fun Hf H vs ds o Q hx rd h q => by
  match ds, h with
  | [x], h =>
    obtain ⟨v, S, e1, r1⟩ := rdl1 rd rfl
    subst e1
    dsimp only [oRepr] at h
    split at h
    · rename_i hz
      cases h
      have hl : (toPy x).canLay0 = true := by
        unfold rpOk at hz
        simp only [Bool.and_eq_true] at hz
        exact hz.1.1.1.1
      exact ⟨v, _, rfl, rep_dp hx r1 hl, hz, q _ .str⟩
    · cases h
end
end DL

/-! DL37: zip; << >> &; walks of a list or a tuple. -/
namespace DL
open PySem L2 PyProof.Rows
section
variable {ca : Nat → Addr} {K : PySem.W.Frag} {Hf H Hf1 H1 Hf2 H2 : Hp} {S S1 S2 P P1 P2 : Rg} {R R1 R2 : Nat → Rg} {σ : L2.St} {st : Sl} {v : V} {d : D} {vs us : List V} {ds xs ys : List D} {X : Cx} {L : List Nat}
end
end DL

/-! DL38: how a def with a starred parameter binds. -/
namespace DL
open PySem PySem.Spec PyProof.Rows L2
end DL

/-! DL39: tuple * int. -/
namespace DL
open PySem PySem.Spec PyProof.Rows L2
open AutoSeq1 (wpAny_loadPart')
section
variable {X : Cx}
end
section
variable {ca : Nat → Addr} {K : PySem.W.Frag} {Hf H Hf1 H1 : Hp} {S S1 : Rg} {X : Cx} {v : V} {d : D}
end
end DL

/-! DL40: equality of data by what it stands for. -/
namespace DL
open PySem (PyData)
/-- a type whose values stand for data -/
class Py (α : Type) where
  py : α → PyData
  dep : Nat
  lay : ∀ a, (py a).canLay0 = true
  depth : ∀ a, (py a).depth ≤ dep
  eqv : ∀ a b, PyData.eqv (py a) (py b) = true ↔ a = b
theorem layA : ∀ {l : List PyData}, (∀ p ∈ l, p.canLay0 = true) → PyData.canLayAll0 l = true
  | [], _ => by rw [PyData.canLayAll0]
  | a :: l, h => by rw [PyData.canLayAll0, h a List.mem_cons_self, layA fun p hp => h p (List.mem_cons_of_mem _ hp)]; rfl
theorem depA {n : Nat} : ∀ {l : List PyData}, (∀ p ∈ l, p.depth ≤ n) → PyData.depthAll l ≤ n
  | [], _ => by rw [PyData.depthAll]; omega
  | a :: l, h => by
    rw [PyData.depthAll]
    have h1 := h a List.mem_cons_self
    have h2 := depA fun p hp => h p (List.mem_cons_of_mem _ hp)
    omega
theorem eqvA {α : Type} [Py α] : ∀ l k : List α, PyData.eqvAll (l.map Py.py) (k.map Py.py) = true ↔ l = k
  | [], [] => by rw [List.map_nil, PyData.eqvAll]; simp
  | [], b :: k => by rw [List.map_nil, List.map_cons, PyData.eqvAll]; simp
  | a :: l, [] => by rw [List.map_nil, List.map_cons, PyData.eqvAll]; simp
  | a :: l, b :: k => by rw [List.map_cons, List.map_cons, PyData.eqvAll, Bool.and_eq_true, Py.eqv, eqvA l k]; simp
instance : Py Int where
  py := .int
  dep := 0
  lay _ := by rw [PyData.canLay0]
  depth _ := by rw [PyData.depth]; omega
  eqv a b := by rw [PyData.eqv]; simp
instance : Py Bool where
  py := .bool
  dep := 0
  lay _ := by rw [PyData.canLay0]
  depth _ := by rw [PyData.depth]; omega
  eqv a b := by rw [PyData.eqv]; simp
instance {α : Type} [Py α] : Py (List α) where
  py l := .list (l.map Py.py)
  dep := Py.dep α + 1
  lay l := by
    rw [PyData.canLay0]
    exact layA fun p hp => by
      obtain ⟨a, _, rfl⟩ := List.mem_map.mp hp
      exact Py.lay a
  depth l := by
    rw [PyData.depth]
    have := depA (l := l.map Py.py) (n := Py.dep α) fun p hp => by
      obtain ⟨a, _, rfl⟩ := List.mem_map.mp hp
      exact Py.depth a
    omega
  eqv l k := by rw [PyData.eqv]; exact eqvA l k
instance {α β : Type} [Py α] [Py β] : Py (α × β) where
  py x := .tuple [Py.py x.1, Py.py x.2]
  dep := max (Py.dep α) (Py.dep β) + 1
  lay x := by
    rw [PyData.canLay0, PyData.canLayAll0, PyData.canLayAll0, PyData.canLayAll0, Py.lay, Py.lay]
    rfl
  depth x := by
    rw [PyData.depth, PyData.depthAll, PyData.depthAll, PyData.depthAll]
    have h1 := Py.depth x.1
    have h2 := Py.depth x.2
    omega
  eqv x y := by
    rw [PyData.eqv, PyData.eqvAll, PyData.eqvAll, PyData.eqvAll, Bool.and_true, Bool.and_eq_true, Py.eqv, Py.eqv]
    exact ⟨fun h => Prod.ext h.1 h.2, fun h => by rw [h]; exact ⟨rfl, rfl⟩⟩
/-- a tuple of likes -/
structure Tp (α : Type) where
  l : List α
  deriving DecidableEq
instance {α : Type} [Py α] : Py (Tp α) where
  py x := .tuple (x.l.map Py.py)
  dep := Py.dep α + 1
  lay x := by
    rw [PyData.canLay0]
    exact layA fun p hp => by
      obtain ⟨a, _, rfl⟩ := List.mem_map.mp hp
      exact Py.lay a
  depth x := by
    rw [PyData.depth]
    have := depA (l := x.l.map Py.py) (n := Py.dep α) fun p hp => by
      obtain ⟨a, _, rfl⟩ := List.mem_map.mp hp
      exact Py.depth a
    omega
  eqv x y := by
    rw [PyData.eqv, eqvA]
    obtain ⟨a⟩ := x
    obtain ⟨b⟩ := y
    simp
/-! walks of a list or a tuple -/
section
open PySem L2 PyProof.Rows
def iOr (a b : TI) : TI := fun σ H R => a σ H R ∨ b σ H R
theorem pi_or {X : Cx} {tg e : Expr} {a b : TI} (h1 : PI X tg e a) (h2 : PI X tg e b) : PI X tg e (iOr a b) :=
  ⟨fun pins s σ H R I h => h.elim (h1.run pins s σ H R I) (h2.run pins s σ H R I)⟩
/-- enumerate of a list or a tuple -/
def iEnA (m : ME) : Sl → Res (List D) := fun st => match m st with
  | .ok (.tup _) _ => iEnT m st
  | _ => iEn m st
/-- a list or a tuple -/
def iEA (m : ME) : Sl → Res (List D) := fun st => match m st with
  | .ok (.tup _) _ => iE m tupItems st
  | _ => iE m lstItems st
variable {ca : Nat → Addr} {X : Cx}
theorem ci_or {tg e : Expr} {a b : TI} {A B C : Sl → Res (List D)} (h1 : CI ca X tg e a A) (h2 : CI ca X tg e b B) (hc : ∀ st, C st = A st ∨ C st = B st) : CI ca X tg e (iOr a b) C :=
  ⟨pi_or h1.1 h2.1, fun Hf H R σ st Q p h => by
    rcases hc st with q | q
    · exact .inl (h1.2 Hf H R σ st Q p (q ▸ h))
    · exact .inr (h2.2 Hf H R σ st Q p (q ▸ h))⟩
theorem iEnA_or (m : ME) (st : Sl) : iEnA m st = iEn m st ∨ iEnA m st = iEnT m st := by
  unfold iEnA
  split
  · exact .inr rfl
  · exact .inl rfl
end
end DL

/-! DL41: method calls, starred calls, short loops evaluated; lists of lists; steps far apart. -/
namespace DL
open PySem (Str)
theorem xMth {C : Nat} {nm : Str} {f : MF} {m0 : ME} {ms : MA} {st st1 st2 : Sl} {d0 d : D} {ds : List D} {ps : Sl} (h0 : m0 st = .ok d0 st1) (hi : insOf C nm d0 = true) (h : ms st1 = .ok ds st2) (hf : f (d0 :: ds) = .ok d ps) : eMth C nm f m0 ms st = .ok d st2 := by
  unfold eMth
  rw [h0]
  show (if insOf C nm d0 = true then _ else _) = _
  rw [if_pos hi, h]
  show (match f (d0 :: ds) with | .ok d _ => Res.ok d st2 | .exc x _ => .exc x st2 | .fail => .fail) = _
  rw [hf]
theorem forD_cons {g : MG} {body : MS} {d : D} {ds : List D} {st st1 st2 : Sl} {r : SR} (h1 : g d st = .ok () st1) (h2 : body st1 = .next st2) (h3 : forD g body ds st2 = r) : forD g body (d :: ds) st = r := by
  rw [forD, h1]
  show (match body st1 with | .next st2 => _ | .cont st2 => _ | .brk st2 => _ | r => r) = _
  rw [h2]
  exact h3
theorem repr_bl (b : Bool) : oRepr [.bl b] = some (.val (.str (if b then "True" else "False"))) := by cases b <;> rfl
end DL
namespace Nw
open DL
/-- steps far apart -/
theorem far1 {l : List Int} {s t : Int} (h1 : 1 ≤ s) (h2 : s + 2 ≤ t) (h3 : t < l.length) : stp (stp l s) t = stp (stp l t) s := by
  have a := sN_comm (l := l) (i := (s - 1).toNat) (j := (t - 1).toNat) (by omega) (by omega) (by omega)
  unfold sN at a
  rw [show (((s - 1).toNat : Nat) : Int) + 1 = s by omega, show (((t - 1).toNat : Nat) : Int) + 1 = t by omega] at a
  exact a
theorem far2 : ∀ (a : List Int) {t : Int} (l : List Int), (∀ s ∈ a, 1 ≤ s ∧ s + 2 ≤ t) → t < l.length → runL a (stp l t) = stp (runL a l) t
  | [], _, _, _, _ => rfl
  | s :: a, t, l, h, ht => by
    show runL a (stp (stp l t) s) = stp (runL a (stp l s)) t
    obtain ⟨h1, h2⟩ := h s List.mem_cons_self
    rw [← far1 h1 h2 ht]
    exact far2 a (stp l s) (fun x hx => h x (List.mem_cons_of_mem _ hx)) (by rw [stp_len]; exact ht)
theorem far : ∀ (b a l : List Int), (∀ s ∈ a, ∀ t ∈ b, 1 ≤ s ∧ s + 2 ≤ t) → (∀ t ∈ b, t < l.length) → runL a (runL b l) = runL b (runL a l)
  | [], _, _, _, _ => rfl
  | t :: b, a, l, h, hl => by
    show runL a (runL b (stp l t)) = runL b (stp (runL a l) t)
    rw [far b a (stp l t) (fun s hs x hx => h s hs x (List.mem_cons_of_mem _ hx)) (fun x hx => by rw [stp_len]; exact hl x (List.mem_cons_of_mem _ hx)), far2 a l (fun s hs => h s hs t List.mem_cons_self) (hl t List.mem_cons_self)]
end Nw

/-! DL42: xs.extend(tuple). -/
namespace DL
open PySem PySem.Spec PyProof.Rows L2
open AutoSeq1 (wpAny_loadPart')
def ext2T : Option D → D → Option (List D)
  | some (.lst true xs), .tup ys => if colds ys && decide (xs.length + ys.length ≤ 16777216) then some (xs ++ ys) else none
  | _, _ => none
/-- xs.extend(tuple) -/
def eExtT (i : Nat) (m : ME) : ME := fun st => match getS st i with
  | some d0 => if isLst d0 then (m st).bind fun d st1 => (match ext2T (getS st1 i) d with
    | some zs => .ok .non (st1.set i (some (.lst true zs)))
    | none => .fail) else .fail
  | none => .fail
section
variable {ca : Nat → Addr} {K : PySem.W.Frag} {Hf H Hf1 H1 Hf2 H2 : Hp} {S S1 S2 P P1 P2 : Rg} {R R1 R2 : Nat → Rg} {σ : L2.St} {st : Sl} {X : Cx}
end
theorem xExtT {i : Nat} {m : ME} {st st1 st' : Sl} {a : D} {xs ys : List Int} (h0 : getS st i = some a) (hl : isLst a = true) (h : m st = .ok (.tup (nums ys)) st1) (h2 : getS st1 i = some (.lst true (nums xs))) (hn : xs.length + ys.length ≤ 16777216) (hs : st1.set i (some (.lst true (nums (xs ++ ys)))) = st') : eExtT i m st = .ok .non st' := by
  unfold eExtT
  rw [h0]
  dsimp only
  rw [if_pos hl, h]
  dsimp only [Res.bind]
  rw [h2]
  have e : ext2T (some (.lst true (nums xs))) (.tup (nums ys)) = some (nums (xs ++ ys)) := by
    unfold ext2T
    dsimp only
    rw [nums_colds, nums_len, nums_len, decide_eq_true hn, nums_app]
    rfl
  rw [e, ← hs]
end DL

/-! DL43: enumerate(list, k). -/
namespace DL
open PySem L2 PyProof.Rows
open Sem (wp)
structure EkAt (k : Nat) (a e it : Addr) (i : Nat) (h : Heap) : Prop where
  en : ∃ old, IsEnum h e it ((k + i : Nat) : Int) old
  iter : h.IsListIter it a i
  n1 : e ≠ it
  n2 : e ≠ a
  n3 : a ≠ it
section
variable {pr : Program} {wo : World} {Ar : Around} {Ex' : Value → Shared → Prop} {st : Shared}
end
section
variable {ca : Nat → Addr} {K : PySem.W.Frag} {Hf H : Hp} {vs : List V} {ds : List D} {X : Cx}
end
end DL

/-! DL44: how many small numbers stand in front; one list in front of another; steps left out. -/
namespace Nw
/-- how many of the first p numbers are at most t -/
def cp (t : Int) (l : List Int) (p : Nat) : Nat := ((l.take p).filter fun x => decide (x ≤ t)).length
end Nw

/-! DL45: loops that look for something and return at once. -/
namespace DL
end DL

/-! DL46: a tuple target in a comprehension. -/
namespace DL
open PySem L2 PyProof.Rows
theorem cg_tupB {ca : Nat → Addr} {X : Cx} {scope : Scope} {s : Shared} {H : Hp} {C : Addr} {cl : List (Str × Addr)} {fp : List Addr} {L : List Nat} {es : List Expr} {k : Nat} {pos : Pos} {t : TGs} {gs : List MG} {n : Nat} (hc : (bk X scope s H C cl fp).calm = true) (h : CGs ca (bk X scope s H C cl fp) L es t gs) (hl : gs.length = n)
    (hn : (assignEach es (bk X scope s H C cl fp).env).length = n := by rfl) (hst : (assignEach es (bk X scope s H C cl fp).env).findIdx? (·.1) = none := by rfl) : CG ca (bk X scope s H C cl fp) L (.Tuple es k pos) (gTup X.K n t) (gT gs) := cg_tup hc h hl hn hst
end DL

/-! DL47: the text of nested data of numbers, truth values, None. -/
namespace DL
open PySem (Str PyData)
mutual
/-- no texts, no dicts, numbers of at most 25 digits -/
def sml : PyData → Bool
  | .none => true
  | .bool _ => true
  | .int i => decide (i.natAbs < 10 ^ 25)
  | .str _ => false
  | .list xs => smlA xs
  | .tuple xs => smlA xs
  | .dict _ => false
def smlA : List PyData → Bool
  | [] => true
  | x :: xs => sml x && smlA xs
end
def cpsOk (x : Str) : Bool := x.cps.all (· < 0x110000)
theorem cps_app {x y : Str} (h : cpsOk x = true) (h2 : cpsOk y = true) : cpsOk (x ++ y) = true := by
  unfold cpsOk at *
  show (x.cps ++ y.cps).all _ = true
  rw [Array.all_append, h, h2]
  rfl
theorem cps_str (s : String) : cpsOk (Str.ofString s) = true := by
  unfold cpsOk
  rw [Str.ofString_eq_toList]
  simp only [List.all_toArray, List.all_map, List.all_eq_true, Function.comp, decide_eq_true_eq]
  intro c _
  have := c.valid
  show c.val.toNat < 0x110000
  rcases this with h | h
  · have : c.val.toNat < 0xd800 := h
    omega
  · exact h.2
theorem cps_from : ∀ (ts : List Str) (k : Nat) (acc : Str), cpsOk acc = true → (∀ t ∈ ts, cpsOk t = true) → cpsOk (PySem.textFrom k acc ts) = true
  | [], _, _, h, _ => h
  | t :: ts, k, acc, h, hs => cps_from ts (k + 1) _ (cps_app (cps_app h (cps_str _)) (hs t List.mem_cons_self)) fun u hu => hs u (List.mem_cons_of_mem _ hu)
theorem cps_list {ts : List Str} (hs : ∀ t ∈ ts, cpsOk t = true) : cpsOk (PySem.listText ts) = true := cps_app (cps_from ts 0 _ (cps_str _) hs) (cps_str _)
theorem cps_join {sep : Str} (h : cpsOk sep = true) : ∀ {ts : List Str}, (∀ t ∈ ts, cpsOk t = true) → cpsOk (Str.join sep ts) = true
  | [], _ => cps_str ""
  | [x], hs => hs x List.mem_cons_self
  | x :: y :: r, hs => cps_app (cps_app (hs x List.mem_cons_self) h) (cps_join h fun t ht => hs t (List.mem_cons_of_mem _ ht))
theorem cps_tup {ts : List Str} (hs : ∀ t ∈ ts, cpsOk t = true) : cpsOk (PySem.tupleText ts) = true := cps_app (cps_app (cps_str _) (cps_join (cps_str _) hs)) (cps_str _)
mutual
theorem sml_cps : ∀ p : PyData, sml p = true → cpsOk p.shown = true
  | .none, _ => cps_str "None"
  | .bool b, _ => by cases b <;> exact cps_str _
  | .int i, _ => cps_str (toString i)
  | .str _, h => by rw [sml] at h; cases h
  | .list xs, h => by rw [sml] at h; rw [PyData.shown]; exact cps_list (smlA_cps xs h)
  | .tuple xs, h => by rw [sml] at h; rw [PyData.shown]; exact cps_tup (smlA_cps xs h)
  | .dict _, h => by rw [sml] at h; cases h
theorem smlA_cps : ∀ xs : List PyData, smlA xs = true → ∀ t ∈ PyData.shownAll xs, cpsOk t = true
  | [], _, t, ht => by rw [PyData.shownAll] at ht; cases ht
  | x :: xs, h, t, ht => by
    rw [smlA, Bool.and_eq_true] at h
    rw [PyData.shownAll] at ht
    rcases List.mem_cons.mp ht with rfl | ht
    · exact sml_cps x h.1
    · exact smlA_cps xs h.2 t ht
end
theorem log_small {n : Nat} (h : n < 10 ^ 25) : n.log2 < 84 := by
  by_cases h0 : n = 0
  · subst h0; decide
  · exact (Nat.log2_lt h0).mpr (Nat.lt_of_lt_of_le h (by decide))
theorem int_len {i : Int} (h : i.natAbs < 10 ^ 25) : (PyData.shown (.int i)).length ≤ 26 := by
  have e := PySem.int_text_length_le10 (k := 25) (by decide) h
  show (Str.ofString (toString i)).length ≤ 26
  rw [PySem.ofString_length]; exact e
mutual
theorem sml_all : ∀ p : PyData, sml p = true → p.canLay0 = true ∧ p.showable = true ∧ p.leavesShort 26 = true
  | .none, _ => ⟨rfl, rfl, rfl⟩
  | .bool _, _ => ⟨rfl, rfl, rfl⟩
  | .int i, h => by
    rw [sml, decide_eq_true_eq] at h
    refine ⟨rfl, ?_, ?_⟩
    · rw [PyData.showable, decide_eq_true_eq]
      have := log_small h
      omega
    · rw [PyData.leavesShort, decide_eq_true_eq]
      exact int_len h
  | .str _, h => by rw [sml] at h; cases h
  | .list xs, h => by rw [sml] at h; rw [PyData.canLay0, PyData.showable, PyData.leavesShort]; exact smlA_all xs h
  | .tuple xs, h => by rw [sml] at h; rw [PyData.canLay0, PyData.showable, PyData.leavesShort]; exact smlA_all xs h
  | .dict _, h => by rw [sml] at h; cases h
theorem smlA_all : ∀ xs : List PyData, smlA xs = true → PyData.canLayAll0 xs = true ∧ PyData.showableAll xs = true ∧ PyData.leavesShortAll 26 xs = true
  | [], _ => ⟨rfl, rfl, rfl⟩
  | x :: xs, h => by
    rw [smlA, Bool.and_eq_true] at h
    obtain ⟨a, b, c⟩ := sml_all x h.1
    obtain ⟨a2, b2, c2⟩ := smlA_all xs h.2
    rw [PyData.canLayAll0, PyData.showableAll, PyData.leavesShortAll, a, b, c, a2, b2, c2]
    exact ⟨rfl, rfl, rfl⟩
end
/-- data whose text is told: how heavy, how deep -/
structure Rp (p : PyData) : Prop where
  s : sml p = true
  w : p.weight ≤ 500000
  d : p.depth ≤ 60
theorem Rp.ok {p : PyData} (h : Rp p) : rpOk p = true := by
  obtain ⟨a, b, c⟩ := sml_all p h.s
  have l := PyData.shown_le 26 (by decide) p c
  have w := h.w
  have l2 : p.shown.length ≤ 16777216 := by omega
  unfold rpOk
  rw [a, b, PyData.hasDict_of_canLay p a, decide_eq_true (Nat.le_trans h.d (by decide)), decide_eq_true l2]
  rfl
theorem Rp.repr {x : D} {p : PyData} (h : Rp p) (e : toPy x = p) : oRepr [x] = some (.val (.str p.shown)) := by
  subst e
  show (if _ then _ else _) = _
  rw [if_pos h.ok]
theorem Rp.shaped {p : PyData} (h : Rp p) : PySem.SeqAt.shaped (toPy (.str p.shown)) = true := by
  rw [toPy]
  unfold PySem.SeqAt.shaped
  rw [PyData.canLay0, PyData.depth]
  have := sml_cps p h.s
  unfold cpsOk at this
  rw [show PyData.strOk p.shown = true from this]
  rfl
theorem Rp.ne {p : PyData} (h : Rp p) : f2 pNe [.str p.shown, .str p.shown] = some (.val (.bl false)) := by
  refine ne_of ?_
  unfold pNe
  rw [h.shaped, toPy, PyData.eqv]
  simp
theorem Rp.eq {p : PyData} (h : Rp p) : f2 pEq [.str p.shown, .str p.shown] = some (.val (.bl true)) := by
  refine eq_of ?_
  unfold pEq
  rw [h.shaped, toPy, PyData.eqv]
  simp
/-! lists of numbers and lists of such lists -/
theorem smlA_map {α : Type} {f : α → PyData} : ∀ {l : List α}, (∀ a ∈ l, sml (f a) = true) → smlA (l.map f) = true
  | [], _ => rfl
  | a :: l, h => by rw [List.map_cons, smlA, h a List.mem_cons_self, smlA_map fun b hb => h b (List.mem_cons_of_mem _ hb)]; rfl
theorem wA_map {α : Type} {f : α → PyData} {c : Nat} : ∀ {l : List α}, (∀ a ∈ l, (f a).weight ≤ c) → PyData.weightAll (l.map f) ≤ (c + 1) * l.length
  | [], _ => by rw [List.map_nil, PyData.weightAll]; omega
  | a :: l, h => by
    rw [List.map_cons, PyData.weightAll, List.length_cons, Nat.mul_succ]
    have h1 := h a List.mem_cons_self
    have h2 := wA_map fun b hb => h b (List.mem_cons_of_mem _ hb)
    omega
theorem w_int {i : Int} (h : i.natAbs < 10 ^ 25) : (PyData.int i).weight ≤ 84 := by
  rw [PyData.weight]
  have := log_small h
  split <;> omega
theorem rp_nums {l : List Int} (h : ∀ x ∈ l, x.natAbs < 10 ^ 25) (hl : l.length ≤ 5000) : Rp (Py.py l) := by
  refine ⟨?_, ?_, ?_⟩
  · show sml (.list (l.map .int)) = true
    rw [sml]
    exact smlA_map fun a ha => by rw [sml]; exact decide_eq_true (h a ha)
  · show (PyData.list (l.map .int)).weight ≤ 500000
    rw [PyData.weight]
    have := wA_map (f := PyData.int) (c := 84) (l := l) fun a ha => w_int (h a ha)
    omega
  · exact Nat.le_trans (Py.depth l) (by decide)
end DL

set_option maxHeartbeats 4000000
/-! DL48: try with several clauses; a caught exception is tracked from its clause on. -/
namespace DL
open PySem PySem.Spec PyProof.Rows L2
section
variable {X : Cx} {pins : List (Addr × Obj)} {σ : L2.St} {H : Hp} {sI s s' : Shared} {B : Heap} {a : Addr} {cls : Value} {d : Option Addr}
end

abbrev Cls1 := Value × Option Nat × (Addr → TS)
inductive HdC (X : Cx) : List ExceptHandler → List Cls1 → Prop
  | nil : HdC X [] []
  | plain {x : Str} {c : Value} {ts : Addr → TS} {b0 : Stmt} {body : List Stmt} {p1 p2 : Pos} {hds : List ExceptHandler} {l : List Cls1} (hc : Names X x c)
      (hb : ∀ a pn, PSs (X.suite a pn) (b0 :: body) (ts a)) (r : HdC X hds l) : HdC X (.ExceptHandler (some (.Name x p1)) none (b0 :: body) p2 :: hds) ((c, none, ts) :: l)
  | named {x n : Str} {i : Nat} {c : Value} {ts : Addr → TS} {b0 : Stmt} {body : List Stmt} {p1 p2 : Pos} {hds : List ExceptHandler} {l : List Cls1} (hc : Names X x c)
      (hi : X.N[i]? = some n) (hl : X.env.kindOf n = some .local)
      (hb : ∀ a pn, PSs (X.suite a pn) (b0 :: body) (ts a)) (r : HdC X hds l) : HdC X (.ExceptHandler (some (.Name x p1)) (some n) (b0 :: body) p2 :: hds) ((c, some i, ts) :: l)
section
variable {X : Cx} {body : List Stmt} {hd : ExceptHandler} {hds : List ExceptHandler} {l : List Cls1} {pos : Pos} {tb : WX → TS} {Wo : WX}
end
end DL

set_option maxHeartbeats 4000000
/-! DL49: exceptions of own classes: made, raised, caught. -/
namespace DL
open PySem PySem.Spec PyProof.Rows L2

/-! ### __init__ of an own exception class -/
section
variable {X : Cx} {p1 p2 pos : Pos}
end
section
variable {P : Program} {w : World} {K : PySem.W.Frag} {mg : Str → Option Value} {base : Heap}
end

/-! ### raise -/
section
variable {ca : Nat → Addr} {Hf H Hf1 H1 Hf2 H2 : Hp} {S P P1 P2 : Rg} {R R1 R2 : Nat → Rg} {σ : L2.St} {st : Sl} {v : V} {d : D} {vs : List V} {ds : List D} {X : Cx} {L : List Nat}
end
end DL

set_option maxHeartbeats 4000000
/-! DL50: try by data; what is asked of a caught exception. -/
namespace DL
open PySem PySem.Spec PyProof.Rows L2
/-- a clause: the classes it takes, its name's slot, its suite -/
structure Cl where
  t : Nat → Option Bool
  o : Option Nat
  m : MS
section
variable {ca : Nat → Addr} {K : PySem.W.Frag} {Hf H Hf1 H1 Hf2 H2 : Hp} {S P P1 P2 : Rg} {R R1 R2 : Nat → Rg} {pp : Prop} {σ : L2.St} {st : Sl} {v : V} {d : D} {vs : List V} {ds : List D} {X : Cx} {L : List Nat}
theorem tr_up {a : Addr} {o : HO} (n0 : Hf a = none) (hn : H a = none) : Tr S Hf H S (upd Hf a o) (upd H a o) := by
  refine ⟨fun b u q => upd_keep n0 b u q, fun b u q _ => upd_keep hn b u q, fun b q => .inl q, fun b u q => ?_⟩
  by_cases hb : b = a
  · subst hb
    exact .inr (.inr hn)
  · rw [upd_ne hb] at q
    exact .inl q
inductive CHs (ca : Nat → Addr) (X : Cx) (L : List Nat) : List ExceptHandler → List Cl → List Cls1 → Prop
  | nil : CHs ca X L [] [] []
  | plain {x : Str} {c : Value} {t : Nat → Option Bool} {m : MS} {b0 : Stmt} {body : List Stmt} {p1 p2 : Pos} {hds : List ExceptHandler} {l : List Cl} {l' : List Cls1} (hc : Names X x c)
      (ht : ∀ C b, t C = some b → PySem.W.exmOne X.K (.ref (ca C)) c = some b) (hb : ∀ a pn, CSs ca (X.suite a pn) L (b0 :: body) m) (r : CHs ca X L hds l l') :
      CHs ca X L (.ExceptHandler (some (.Name x p1)) none (b0 :: body) p2 :: hds) (⟨t, none, m⟩ :: l) ((c, none, fun a D σ H => ∀ pn, Wss (X.suite a pn) (b0 :: body) D σ H) :: l')
  | named {x n : Str} {i : Nat} {c : Value} {t : Nat → Option Bool} {m : MS} {b0 : Stmt} {body : List Stmt} {p1 p2 : Pos} {hds : List ExceptHandler} {l : List Cl} {l' : List Cls1} (hc : Names X x c)
      (hi : X.N[i]? = some n) (hl : X.env.kindOf n = some .local) (hL : i ∉ L)
      (ht : ∀ C b, t C = some b → PySem.W.exmOne X.K (.ref (ca C)) c = some b) (hb : ∀ a pn, CSs ca (X.suite a pn) L (b0 :: body) m) (r : CHs ca X L hds l l') :
      CHs ca X L (.ExceptHandler (some (.Name x p1)) (some n) (b0 :: body) p2 :: hds) (⟨t, some i, m⟩ :: l) ((c, some i, fun a D σ H => ∀ pn, Wss (X.suite a pn) (b0 :: body) D σ H) :: l')
theorem CHs.hd {hds : List ExceptHandler} {l : List Cl} {l' : List Cls1} (h : CHs ca X L hds l l') : HdC X hds l' := by
  induction h with
  | nil => exact .nil
  | plain hc ht hb r ih => exact .plain hc (fun a pn => ⟨fun pins s σ H D I h => h pn pins s I⟩) ih
  | named hc hi hl hL ht hb r ih => exact .named hc hi hl (fun a pn => ⟨fun pins s σ H D I h => h pn pins s I⟩) ih
/-- the exception is tracked -/
theorem PR.held {x : Xc} {cls : Value} {dd : Option Addr} {a : Addr} (p : PR ca K Hf H Em (XcR ca K Hf H cls dd x) R σ st) (na : H a = none) :
    PR ca K (upd Hf a (XcO a cls dd)) (upd H a (XcO a cls dd)) Em (Rep ca K (upd Hf a (XcO a cls dd)) (upd H a (XcO a cls dd)) Em (.ref a) (.xc x.C x.fs)) R σ st ∧ Tr (jn Em R) Hf H (jn Em R) (upd Hf a (XcO a cls dd)) (upd H a (XcO a cls dd)) := by
  obtain ⟨ec, b, fs, ed, e1, e2, kk, r⟩ := p.pend
  have p0 : PR ca K Hf H Em True R σ st := p.imp fun _ => trivial
  have n0 : Hf a = none := (wl_new (o := .xd []) p0.w na).2
  refine ⟨(p0.stand na).put ?_, tr_up n0 na⟩
  subst ec ed
  exact .xc upd_same (upd_keep n0 _ _ e2) kk (r.keep (fun b o q => upd_keep n0 b o q) fun _ q => q.elim)
/-! ### e.f, isinstance(e, C), of a tracked exception -/
/-- what the class says, for isinstance of its instances -/
structure XiC (K : PySem.W.Frag) (D : Addr) : Prop where
  hc : (PySem.W.clsIn K D).isSome = true
  hg : PySem.W.findIn K (.ref D) "__getattribute__" = some (some (.builtin "BaseException.__getattribute__"))
  hk : PySem.W.findIn K (.ref D) "__getattr__" = some none
  hs : PySem.W.subIn K (.ref D) (.type "BaseException") = some true
  ha : PySem.W.findIn K (.ref D) "__class__" = some (some (.builtin "object.__class__"))
  hn : PySem.W.specialIn K (.builtin "object.__class__") "__get__" = some (some (.builtin "getset_descriptor.__get__"))
  ht : PySem.W.takesIn K (.builtin "object.__class__") = some true
  hm : PySem.W.mroIn K D (.type "object") = some true
end
end DL

/-! DL51: facts of exception classes, names of the text's constants. -/
namespace DL
open PySem PySem.Spec PyProof.Rows L2
section
variable {K : PySem.W.Frag} {C D : Addr} {b : Bool}
end
section
variable {ca : Nat → Addr} {X : Cx} {v : V} {d : D}
end
end DL

/-! DL52: ascending lists; the descending list decides whether all is sorted. -/
namespace Nw
open DL
def bits (b : List Int) : Prop := ∀ x ∈ b, x = 0 ∨ x = 1
/-! ### numbers as rows of bits -/
end Nw

/-! DL53: more evaluation: loops as folds, pairs of neighbours, rows of bits. -/
namespace DL
open PySem (Str)
open Nw
/-- a loop that only keeps an invariant -/
theorem forD_inv {g : MG} {body : MS} (I : Sl → Prop) : ∀ (ds : List D) (st : Sl), I st →
    (∀ d st, d ∈ ds → I st → ∃ st1 st2, g d st = .ok () st1 ∧ body st1 = .next st2 ∧ I st2) → ∃ st', forD g body ds st = .next st' ∧ I st'
  | [], st, h, _ => ⟨st, rfl, h⟩
  | d :: ds, st, h, step => by
    obtain ⟨s1, s2, e1, e2, h2⟩ := step d st List.mem_cons_self h
    obtain ⟨st', e, h3⟩ := forD_inv I ds s2 h2 fun d st hy => step d st (List.mem_cons_of_mem _ hy)
    exact ⟨st', forD_cons e1 e2 e, h3⟩
/-- a comprehension with two names -/
theorem comp_go2 {α : Type} {g : MG} {t : MT} {e : ME} {i j : Nat} {st : Sl} (enc φ : α → D) (p : α → Bool) : ∀ (l : List α) (acc : List D),
    (∀ x ∈ l, ∃ s1 s2, g (enc x) st = .ok () s1 ∧ t s1 = .ok (p x) s2 ∧ (p x = false → wipeS s2 [i, j] = st) ∧ (p x = true → ∃ s3, e s2 = .ok (φ x) s3 ∧ wipeS s3 [i, j] = st)) → acc.length + l.length ≤ 16777216 →
    compD g t e [i, j] (l.map enc) st acc = .ok (acc ++ (l.filter p).map φ) st := fun l acc h hl => by
  obtain ⟨acc', st', e1, h1, h2⟩ := compD_ok (g := g) (t := t) (e := e) (vs := [i, j]) (fun n s a => s = st ∧ a = acc ++ ((l.take n).filter p).map φ) (l.map enc) 0 st acc ⟨rfl, by simp⟩ (fun n d s a en hI => by
    obtain ⟨rfl, rfl⟩ := hI
    rw [List.getElem?_map] at en
    cases ex : l[n]? with
    | none => rw [ex] at en; cases en
    | some x =>
      rw [ex] at en
      cases en
      rw [Nat.zero_add]
      have hx : x ∈ l := List.mem_of_getElem? ex
      have tk : l.take (n + 1) = l.take n ++ [x] := by rw [List.take_succ, ex]; rfl
      obtain ⟨s1, s2, q1, q2, q3, q4⟩ := h x hx
      refine ⟨s1, p x, s2, q1, q2, fun hp => ⟨q3 hp, ?_⟩, fun hp => ?_⟩
      · rw [tk, List.filter_append]
        simp [hp]
      · obtain ⟨s3, q5, q6⟩ := q4 hp
        refine ⟨?_, φ x, s3, q5, q6, ?_⟩
        · have : ((l.take n).filter p).length ≤ (l.take n).length := List.length_filter_le _ _
          rw [List.length_take] at this
          have hn : n < l.length := (List.getElem?_eq_some_iff.mp ex).1
          rw [List.length_append, List.length_map]
          omega
        · rw [tk, List.filter_append]
          simp [hp])
  rw [Nat.zero_add, List.length_map, List.take_length] at h2
  rw [e1, h1, h2]
theorem xLc2n {α : Type} {g : MG} {t : MT} {e : ME} {i j : Nat} {st st1 st2 : Sl} {src : Sl → Res (List D)} (enc φ : α → D) (p : α → Bool) (l : List α) {ds out : List D} (hs : src st = .ok ds st1) (hd : ds = l.map enc) (hl : l.length ≤ 16777216) (hw : wipeS st1 [i, j] = st2)
    (h : ∀ x ∈ l, ∃ s1 s2, g (enc x) st2 = .ok () s1 ∧ t s1 = .ok (p x) s2 ∧ (p x = false → wipeS s2 [i, j] = st2) ∧ (p x = true → ∃ s3, e s2 = .ok (φ x) s3 ∧ wipeS s3 [i, j] = st2)) (ho : (l.filter p).map φ = out) :
    eLc src g t e [i, j] st = .ok (.lst true out) st2 := by
  subst hd ho
  refine eLc_v hs ?_
  rw [hw, comp_go2 enc φ p l [] h (by rw [List.length_nil, Nat.zero_add]; exact hl)]
  rfl
/-! ### ascending -/
theorem asBls_map {α : Type} (f : α → Bool) : ∀ l : List α, asBls (l.map fun x => .bl (f x)) = some (l.map f)
  | [] => rfl
  | x :: l => by show (asBls (l.map fun x => .bl (f x))).map (f x :: ·) = _; rw [asBls_map f l]; rfl
/-- the places where a greater number stands to the left -/
def falls (l : List Int) : List Int := ((List.range (l.length - 1)).map fun (i : Nat) => (1 : Int) + i).filter fun p => decide (l.getD p.toNat 0 < l.getD (p - 1).toNat 0)
end DL

set_option maxHeartbeats 4000000
/-! DL54: a list in a slot is walked where it stands. -/
namespace DL
open PySem PySem.Spec PyProof.Rows L2
section
variable {ca : Nat → Addr} {K : PySem.W.Frag} {Hf H Hf1 H1 Hf2 H2 : Hp} {S S1 S2 P P1 P2 : Rg} {R R1 R2 : Nat → Rg} {pp qq : Prop} {σ σ' : L2.St} {st st' : Sl} {v : V} {d : D} {vs : List V} {ds : List D} {X : Cx} {L : List Nat}
end
end DL

/-! DL55: walks of a list where it stands, evaluated. -/
namespace DL
open PySem (Str)
open Nw
end DL

/-! DL56: lists that differ are told apart by a bound; a step left out; enumerations. -/
namespace Nw
open DL
end Nw
namespace DL
open Nw
theorem enumD_map {α : Type} (enc : α → D) : ∀ (l : List α) (k : Nat), enumD k (l.map enc) = (l.zipIdx k).map fun p => .tup [.int ((p.2 : Nat) : Int), enc p.1]
  | [], k => rfl
  | x :: l, k => by rw [List.map_cons, List.zipIdx_cons, List.map_cons, ← enumD_map enc l (k + 1)]; rfl
theorem wEnT {m : ME} {st st1 : Sl} {ds : List D} (h : m st = .ok (.tup ds) st1) (hc : colds ds = true) : iEnT m st = .ok (enumD 0 ds) st1 := by
  unfold iEnT
  rw [h]
  dsimp only [Res.bind, tupItems]
  rw [if_pos hc]
end DL

/-! DL57: domination by the profile's counts; powers. -/
namespace Nw
open DL
end Nw

/-! DL58: powers of a network. -/
namespace Nw
open DL
end Nw
namespace DL
end DL

/-! DL59: how soon a power is stable. -/
namespace Nw
open DL
end Nw

set_option maxHeartbeats 4000000
/-! DL60: xs.pop(), xs.reverse(), xs.clear() of a slot's own list. -/
namespace DL
open PySem PySem.Spec PyProof.Rows L2
section
variable {ca : Nat → Addr} {K : PySem.W.Frag} {Hf H : Hp} {R : Nat → Rg} {σ : L2.St} {st : Sl} {v : V} {d : D} {vs : List V} {ds xs : List D} {X : Cx} {S T : Rg}
end
end DL

/-! DL61: the parts between places whose step does not occur, sorted. -/
namespace Nw
open DL
def Good (w : Nat) (N F : List Int) (L : Nat) : Prop := F.length = L ∧ ∀ t p, p ≤ L → ∃ A B : Nat, A ≤ p ∧ p ≤ B ∧ B ≤ L ∧ (A : Int) ∉ N ∧ (B : Int) ∉ N ∧ (∀ q : Nat, A < q → q < B → (q : Int) ∈ N) ∧
  cp t F p = min (cp t (desc w) B) (cp t (desc w) A + (p - A))
end Nw
namespace DL
open Nw
end DL

set_option maxHeartbeats 4000000
/-! DL62: enumerate of a slot's list, where it stands, in a comprehension. -/
namespace DL
open PySem PySem.Spec PyProof.Rows L2
section
variable {ca : Nat → Addr} {K : PySem.W.Frag} {Hf H Hf1 H1 Hf2 H2 : Hp} {S S1 S2 P P1 P2 : Rg} {R R1 R2 : Nat → Rg} {pp qq : Prop} {σ σ' : L2.St} {st st' : Sl} {v : V} {d : D} {vs : List V} {ds : List D} {X : Cx} {L : List Nat}
end
end DL

/-! DL63: the steps walked backwards from the ascending list; the hardest list. -/
namespace Nw
open DL
def lit (l : List Int) (s : Int) : Bool := decide (l.getD (s - 1).toNat 0 < l.getD s.toNat 0)
/-! ### the ascending list -/
def asc (w : Nat) : List Int := (List.range w).map fun (i : Nat) => (1 : Int) + i
end Nw

/-! DL64: enumerate of a slot's list, evaluated. -/
namespace DL
open PySem (Str)
open Nw
end DL

/-! DL65: in, not in, for nested data; the counts of a network and of its hardest list. -/
namespace DL
open PySem PySem.Spec PyProof.Rows L2
section
variable {ca : Nat → Addr} {K : PySem.W.Frag} {Hf H : Hp} {X : Cx}
end
end DL
namespace Nw
open DL
end Nw

/-! DL66: all arrangements; all choices of steps. -/
namespace Nw
open DL
end Nw

set_option maxHeartbeats 4000000
/-! DL67: dict comprehensions of plain values, d[k]. -/
namespace DL
open PySem PySem.Spec PyProof.Rows L2
def keyD : D → Option Key
  | .int i => some (.inl i)
  | .str x => some (.inr x)
  | _ => none
def valD (kvs : List (Key × D)) (k : Key) : Option D := (kvs.find? fun kv => decide (kv.1 = k)).map (·.2)
def putKD (kvs : List (Key × D)) (k : Key) (d : D) : List (Key × D) :=
  if (kvs.any fun kv => decide (kv.1 = k)) = true then kvs.map (fun kv => if kv.1 = k then (kv.1, d) else kv) else kvs ++ [(k, d)]
/-- d[k] -/
def oDx : List D → Option Out
  | [.dic _ kvs, y] => match keyD y with
    | some k => (match valD kvs k with
      | some d => if cold d then some (.val d) else none
      | none => none)
    | none => none
  | _ => none
section
variable {ca : Nat → Addr} {K : PySem.W.Frag} {Hf H Hf1 H1 Hf2 H2 : Hp} {S S1 S2 P P1 P2 : Rg} {R R1 R2 : Nat → Rg} {pp qq : Prop} {σ σ' : L2.St} {st st' : Sl} {v : V} {d : D} {vs : List V} {ds : List D} {X : Cx} {L : List Nat}
theorem rep_key {k : Key} (r : Rep ca K Hf H S v d) (h : keyD d = some k) : v = kV k := by
  cases r <;> first | (cases h; done) | (cases h; rfl)
theorem keys_any {k : Key} {kvs : List (Key × V)} {es : List (Key × D)} (h : kvs.map (·.1) = es.map (·.1)) : (kvs.any fun kv => decide (kv.1 = k)) = es.any fun kv => decide (kv.1 = k) := by
  have e1 : (kvs.any fun kv => decide (kv.1 = k)) = (kvs.map (·.1)).any fun z => decide (z = k) := by rw [List.any_map]; rfl
  have e2 : (es.any fun kv => decide (kv.1 = k)) = (es.map (·.1)).any fun z => decide (z = k) := by rw [List.any_map]; rfl
  rw [e1, e2, h]
theorem val_rep {k : Key} {T : Rg} : ∀ {kvs : List (Key × V)} {es : List (Key × D)}, kvs.map (·.1) = es.map (·.1) → RepL ca K Hf H T (kvs.map (·.2)) (es.map (·.2)) → valD es k = some d → ∃ v T', valV kvs k = some v ∧ Rep ca K Hf H T' v d
  | [], [], _, _, h => by cases h
  | [], _ :: _, h, _, _ => by cases h
  | _ :: _, [], h, _, _ => by cases h
  | (k1, v1) :: kvs, (k2, d2) :: es, h, r, hv => by
    simp only [List.map_cons, List.cons.injEq] at h
    obtain ⟨rfl, h2⟩ := h
    cases r with
    | cons r1 r2 _ _ _ =>
      by_cases e : k1 = k
      · have : valD ((k1, d2) :: es) k = some d2 := by simp [valD, List.find?_cons, e]
        rw [this] at hv
        cases hv
        exact ⟨v1, _, valV_pos e, r1⟩
      · have : valD ((k1, d2) :: es) k = valD es k := by simp [valD, List.find?_cons, e]
        rw [this] at hv
        obtain ⟨v, T', a, b⟩ := val_rep h2 r2 hv
        exact ⟨v, T', (valV_neg e).trans a, b⟩
def rDx : L2.R2 := fun x y H Q => ∃ a v, x = .ref a ∧ DGet H a y (some v) ∧ Q v H
theorem os_dx : OpS ca K (rl2 rDx) oDx := fun Hf H vs ds o Q hx rd h q => by
  match ds, h with
  | [.dic ow kvs, y], h =>
    dsimp only [oDx] at h
    cases ek : keyD y with
    | none => rw [ek] at h; cases h
    | some k =>
      rw [ek] at h
      dsimp only at h
      cases ev : valD kvs k with
      | none => rw [ev] at h; cases h
      | some dd =>
        rw [ev] at h
        dsimp only at h
        split at h
        · rename_i hc
          cases h
          obtain ⟨v, w, S, S', e1, r1, r2⟩ := rdl2 rd rfl
          subst e1
          have hc' : hot dd = false := by unfold cold at hc; simpa using hc
          have hw := rep_key r2 ek
          cases r1 with
          | dicF e kk r =>
            obtain ⟨v', T', a, b⟩ := val_rep kk r ev
            have g := DGet.k (k := k) (hx _ _ e)
            rw [a] at g
            exact ⟨_, v', rfl, by rw [hw]; exact g, q v' (b.cold hc')⟩
          | dicO s e kk r =>
            obtain ⟨v', T', a, b⟩ := val_rep kk r ev
            have g := DGet.k (k := k) e
            rw [a] at g
            exact ⟨_, v', rfl, by rw [hw]; exact g, q v' (b.cold hc')⟩
        · cases h
theorem ce_dx {a b : Expr} {oa ob : Opd} {pos : Pos} (hu : X.A.units + 1 < cLine) (ha : CO ca X a oa) (hb : CO ca X b ob) (hp : NoSl b := by intro _ _; rfl) :
    CE ca X (.Subscript a b pos) (eOp oDx [oa, ob]) := ce_op (es := [a, b]) (rl := rl2 rDx) (fun σ H Q h => we_of (pe_dget hu (we_pe X a) (we_pe X b) hp) h) (.cons ha (.cons hb .nil)) os_dx
theorem units1 {k : Nat} {A : Around} (r : RoomG k A) : A.units + 1 < cLine := by have := r.2.un; omega
/-- the new dict, beside all -/
structure AccD (ca : Nat → Addr) (K : PySem.W.Frag) (Hf H : Hp) (Dl : Addr) (acc : List (Key × D)) (R : Nat → Rg) (σ : L2.St) (st : Sl) : Prop where
  pr : PR ca K Hf H (fun b => b = Dl ∨ Em b) (∃ kvs : List (Key × V), H Dl = some (.dK kvs) ∧ kvs.map (·.1) = acc.map (·.1) ∧ RepL ca K Hf H Em (kvs.map (·.2)) (acc.map (·.2))) R σ st
end
end DL

/-! DL68: pairs in their order: the resolved pairs; places as a dict. -/
namespace Nw
open DL
/-- the smaller number stands to the left -/
def res (l : List Int) (p : Int × Int) : Bool := decide (l.idxOf p.1 < l.idxOf p.2)
end Nw
namespace DL
open Nw
end DL

/-! DL69: name = [.. for .. for ..]. -/
namespace DL
open PySem PySem.Spec PyProof.Rows L2
section
variable {ca : Nat → Addr} {X : Cx} {L : List Nat}
end
end DL

/-! DL70: sorting by passes; the steps that are missing; networks read backwards. -/
namespace Nw
open DL
def pass (w : Nat) : List Int := (List.range (w - 1)).map fun (i : Nat) => (1 : Int) + (i : Int)
def passes (w : Nat) : Nat → List Int
  | 0 => []
  | n + 1 => passes w n ++ pass w
/-- the steps that passes take -/
def between (w : Nat) (l : List Int) : List Int := actS (passes w w) l
/-! ### read backwards -/
def comp (w : Nat) (l : List Int) : List Int := l.map fun x => (w : Int) + 1 - x
end Nw

/-! DL71: the full network. -/
namespace Nw
open DL
end Nw

/-! DL72: numbers named by their places in another list. -/
namespace Nw
open DL
end Nw
namespace DL
end DL

/-! DL73: networks read backwards: lengths; what completes. -/
namespace Nw
open DL
end Nw

/-! DL74: mirror images. -/
namespace Nw
open DL
/-- read from the right, with opposite signs -/
def turn (l : List Int) : List Int := l.reverse.map fun x => -x
end Nw

/-! DL75: words of exchanges as permutations of places. -/
namespace Nw
open DL
end Nw

/-! DL76: the mirror image's profile; its resolved pairs. -/
namespace Nw
open DL
end Nw

/-! DL77: the mirror image's profile and rest. -/
namespace Nw
open DL
end Nw

set_option maxHeartbeats 4000000
/-! DL78: sorted(set(a list of whole numbers)), fewer than 64 of them. -/
namespace DL
open PySem PySem.Spec PyProof.Rows L2
section
variable {P : Program} {w : World} {A : Around} {E : Value → Shared → Prop} {s : Shared}
end
end DL

set_option maxHeartbeats 1000000
/-! DL79: x, *xs = a tuple. -/
namespace DL
open PySem PySem.Spec PyProof.Rows L2
section
variable {ca : Nat → Addr} {X : Cx} {L : List Nat}
end
end DL

/-! DL80: == and != that only ask the lengths: with an empty list or tuple, or lists of two lengths. -/
namespace DL
open PySem PySem.Spec PyProof.Rows L2 SeqAt
section
variable {X : Cx}
end
section
variable {ca : Nat → Addr} {K : PySem.W.Frag}
end
end DL

/-! DL81: the rest between two results: it acts fully, it leads from the one to the other, and it is the only one of its length. -/
namespace Nw
open DL
end Nw

/-! DL82: a comprehension whose test and item may freeze what the slots hold. -/
namespace DL
end DL
namespace Nw
end Nw

/-! DL83: a, b, c = x, y, z of things that nobody owns. -/
namespace DL
open PySem L2 PyProof.Rows
section
variable {ca : Nat → Addr} {X : Cx} {L : List Nat}
end
end DL

/-! DL84: the steps that are taken back from the end, until a given result is reached: with the places of these steps. -/
namespace Nw
open DL
end Nw

/-! DL85: the text of nested data in which short texts stand, too. -/
namespace DL
open PySem (Str PyData)
/-- a short text of a program -/
def okT (x : Str) : Bool := cpsOk (PyData.shown (.str x)) && (PyData.str x).canLay0 && (PyData.str x).showable && (PyData.str x).leavesShort 26
mutual
/-- short texts, no dicts, numbers of at most 25 digits -/
def smt : PyData → Bool
  | .none => true
  | .bool _ => true
  | .int i => decide (i.natAbs < 10 ^ 25)
  | .str x => okT x
  | .list xs => smtA xs
  | .tuple xs => smtA xs
  | .dict _ => false
def smtA : List PyData → Bool
  | [] => true
  | x :: xs => smt x && smtA xs
end
mutual
theorem smt_cps : ∀ p : PyData, smt p = true → cpsOk p.shown = true
  | .none, _ => cps_str "None"
  | .bool b, _ => by cases b <;> exact cps_str _
  | .int i, _ => cps_str (toString i)
  | .str _, h => by
    rw [smt, okT, Bool.and_eq_true, Bool.and_eq_true, Bool.and_eq_true] at h
    exact h.1.1.1
  | .list xs, h => by rw [smt] at h; rw [PyData.shown]; exact cps_list (smtA_cps xs h)
  | .tuple xs, h => by rw [smt] at h; rw [PyData.shown]; exact cps_tup (smtA_cps xs h)
  | .dict _, h => by rw [smt] at h; cases h
theorem smtA_cps : ∀ xs : List PyData, smtA xs = true → ∀ t ∈ PyData.shownAll xs, cpsOk t = true
  | [], _, t, ht => by rw [PyData.shownAll] at ht; cases ht
  | x :: xs, h, t, ht => by
    rw [smtA, Bool.and_eq_true] at h
    rw [PyData.shownAll] at ht
    rcases List.mem_cons.mp ht with rfl | ht
    · exact smt_cps x h.1
    · exact smtA_cps xs h.2 t ht
end
mutual
theorem smt_all : ∀ p : PyData, smt p = true → p.canLay0 = true ∧ p.showable = true ∧ p.leavesShort 26 = true
  | .none, _ => ⟨rfl, rfl, rfl⟩
  | .bool _, _ => ⟨rfl, rfl, rfl⟩
  | .int i, h => by
    rw [smt, decide_eq_true_eq] at h
    refine ⟨rfl, ?_, ?_⟩
    · rw [PyData.showable, decide_eq_true_eq]
      have := log_small h
      omega
    · rw [PyData.leavesShort, decide_eq_true_eq]
      exact int_len h
  | .str _, h => by
    rw [smt, okT, Bool.and_eq_true, Bool.and_eq_true, Bool.and_eq_true] at h
    exact ⟨h.1.1.2, h.1.2, h.2⟩
  | .list xs, h => by rw [smt] at h; rw [PyData.canLay0, PyData.showable, PyData.leavesShort]; exact smtA_all xs h
  | .tuple xs, h => by rw [smt] at h; rw [PyData.canLay0, PyData.showable, PyData.leavesShort]; exact smtA_all xs h
  | .dict _, h => by rw [smt] at h; cases h
theorem smtA_all : ∀ xs : List PyData, smtA xs = true → PyData.canLayAll0 xs = true ∧ PyData.showableAll xs = true ∧ PyData.leavesShortAll 26 xs = true
  | [], _ => ⟨rfl, rfl, rfl⟩
  | x :: xs, h => by
    rw [smtA, Bool.and_eq_true] at h
    obtain ⟨a, b, c⟩ := smt_all x h.1
    obtain ⟨a2, b2, c2⟩ := smtA_all xs h.2
    rw [PyData.canLayAll0, PyData.showableAll, PyData.leavesShortAll, a, b, c, a2, b2, c2]
    exact ⟨rfl, rfl, rfl⟩
end
/-- data whose text is told: how heavy, how deep -/
structure Rq (p : PyData) : Prop where
  s : smt p = true
  w : p.weight ≤ 500000
  d : p.depth ≤ 60
theorem Rq.ok {p : PyData} (h : Rq p) : rpOk p = true := by
  obtain ⟨a, b, c⟩ := smt_all p h.s
  have l := PyData.shown_le 26 (by decide) p c
  have w := h.w
  have l2 : p.shown.length ≤ 16777216 := by omega
  unfold rpOk
  rw [a, b, PyData.hasDict_of_canLay p a, decide_eq_true (Nat.le_trans h.d (by decide)), decide_eq_true l2]
  rfl
theorem Rq.repr {x : D} {p : PyData} (h : Rq p) (e : toPy x = p) : oRepr [x] = some (.val (.str p.shown)) := by
  subst e
  show (if _ then _ else _) = _
  rw [if_pos h.ok]
theorem Rq.shaped {p : PyData} (h : Rq p) : PySem.SeqAt.shaped (toPy (.str p.shown)) = true := by
  rw [toPy]
  unfold PySem.SeqAt.shaped
  rw [PyData.canLay0, PyData.depth]
  have := smt_cps p h.s
  unfold cpsOk at this
  rw [show PyData.strOk p.shown = true from this]
  rfl
theorem Rq.ne {p : PyData} (h : Rq p) : f2 pNe [.str p.shown, .str p.shown] = some (.val (.bl false)) := by
  refine ne_of ?_
  unfold pNe
  rw [h.shaped, toPy, PyData.eqv]
  simp
theorem Rq.eq {p : PyData} (h : Rq p) : f2 pEq [.str p.shown, .str p.shown] = some (.val (.bl true)) := by
  refine eq_of ?_
  unfold pEq
  rw [h.shaped, toPy, PyData.eqv]
  simp

end DL

/-! DL86: which lists of any numbers a network sorts: told by the places of the numbers up to each threshold. -/
namespace Nw
open DL
/-! ### places -/
end Nw

/-! DL87: a op b op c as a test. -/
namespace DL
open PySem L2 PyProof.Rows
section
variable {ca : Nat → Addr} {X : Cx}
end
end DL

/-! DL88: name *= number. -/
namespace DL
open PySem L2 PyProof.Rows
end DL

/-! DL89: a loop that returns what its first item that has an answer says; the places where one list falls behind another. -/
namespace DL
end DL
namespace Nw
open DL
end Nw

/-! DL90: which class a clause of try names. -/
namespace PySem.W
open PySem
end PySem.W

/-! DL91: the sets of places that a network moves in front, found by trying all; the one of them that is nowhere less. -/
namespace Nw
open DL
/-! ### zeros at the places -/
def bitsOf (w : Nat) (S : List Int) : List Int := (asc w).map fun p => if p ∈ S then 0 else 1
def front (w : Nat) (A S : List Int) : Bool := decide (((runL A (bitsOf w S)).take S.length).sum = 0)
end Nw

/-! DL92: evaluation where an exception is raised or caught; values of mixed kinds. -/
namespace DL
open PySem (Str)
section
variable {st st1 st2 st3 : Sl} {a b d : D} {ds es : List D} {m m1 m2 : ME} {ms ns : MA} {F : MF} {x : Xc} {ps : Sl} {i : Nat} {f : List D → Option Out} {t : MT} {s1 s2 : MS} {r : SR}
theorem forD_ret {g : MG} {B : MS} {d v : D} {ds : List D} {st st1 st2 : Sl} (h1 : g d st = .ok () st1) (h2 : B st1 = .ret v st2) : forD g B (d :: ds) st = .ret v st2 := by
  rw [forD, h1]
  show (match B st1 with | .next st2 => _ | .cont st2 => _ | .brk st2 => _ | r => r) = _
  rw [h2]
end
/-! ### values of mixed kinds -/
inductive It : D → Prop where
  | int (i : Int) : It (.int i)
  | bl (b : Bool) : It (.bl b)
  | non : It .non
  | str (s : Str) : It (.str s)
  | lst (xs : List D) (h : frzL xs = xs) : It (.lst false xs)
  | tup (xs : List D) (h : frzL xs = xs) : It (.tup xs)
theorem It.frz {d : D} (h : It d) : frz d = d := by
  cases h with
  | int i => rfl
  | bl b => rfl
  | non => rfl
  | str s => rfl
  | lst xs h => rw [DL.frz, h]
  | tup xs h => rw [DL.frz, h]
theorem It.hot {d : D} (h : It d) : hot d = false := by cases h <;> rfl
theorem It.cold {d : D} (h : It d) : cold d = true := by cases h <;> rfl
theorem it_nums (l : List Int) : It (.lst false (nums l)) := .lst _ (by have := nums_frz l; exact this)
theorem it_tup (l : List Int) : It (.tup (nums l)) := .tup _ (nums_frz l)
theorem its_colds {ds : List D} (h : ∀ d ∈ ds, It d) : colds ds = true := by
  unfold colds
  exact List.all_eq_true.mpr fun d hd => (h d hd).cold
theorem its_frz : ∀ {ds : List D}, (∀ d ∈ ds, It d) → frzL ds = ds
  | [], _ => rfl
  | d :: ds, h => by rw [frzL, (h d List.mem_cons_self).frz, its_frz fun e he => h e (List.mem_cons_of_mem _ he)]
theorem it_list {ds : List D} (h : ∀ d ∈ ds, It d) : It (.lst false ds) := .lst ds (its_frz h)
def isInt : D → Int → Int → Bool
  | .int n, lo, hi => decide (lo ≤ n ∧ n ≤ hi)
  | _, _, _ => false
def isL : D → Bool
  | .lst _ _ => true
  | _ => false
def isI : D → Bool
  | .int _ => true
  | .bl _ => true
  | _ => false
def isB : D → Bool
  | .bl _ => true
  | _ => false
def isT : D → Bool
  | .tup _ => true
  | _ => false
theorem isi_int {d : D} (h : It d) : oIsiB "int" [d, .ty "int"] = some (.val (.bl (isI d))) := by
  cases h with
  | int i => simp [oIsiB, tyName, noScr, kb_int_int, isI]
  | bl b => simp [oIsiB, tyName, noScr, kb_bool_int, isI]
  | non  => simp [oIsiB, tyName, noScr, kb_NoneType_int, isI]
  | str s => simp [oIsiB, tyName, noScr, kb_str_int, isI]
  | lst xs h => simp [oIsiB, tyName, noScr, kb_list_int, isI]
  | tup xs h => simp [oIsiB, tyName, noScr, kb_tuple_int, isI]
theorem isi_bool {d : D} (h : It d) : oIsiB "bool" [d, .ty "bool"] = some (.val (.bl (isB d))) := by
  cases h with
  | int i => simp [oIsiB, tyName, noScr, kb_int_bool, isB]
  | bl b => simp [oIsiB, tyName, noScr, kb_bool_bool, isB]
  | non  => simp [oIsiB, tyName, noScr, kb_NoneType_bool, isB]
  | str s => simp [oIsiB, tyName, noScr, kb_str_bool, isB]
  | lst xs h => simp [oIsiB, tyName, noScr, kb_list_bool, isB]
  | tup xs h => simp [oIsiB, tyName, noScr, kb_tuple_bool, isB]
theorem isi_list {d : D} (h : It d) : oIsiB "list" [d, .ty "list"] = some (.val (.bl (isL d))) := by
  cases h with
  | int i => simp [oIsiB, tyName, noScr, kb_int_list, isL]
  | bl b => simp [oIsiB, tyName, noScr, kb_bool_list, isL]
  | non  => simp [oIsiB, tyName, noScr, kb_NoneType_list, isL]
  | str s => simp [oIsiB, tyName, noScr, kb_str_list, isL]
  | lst xs h => simp [oIsiB, tyName, noScr, kb_list_list, isL]
  | tup xs h => simp [oIsiB, tyName, noScr, kb_tuple_list, isL]
end DL

/-! DL93: lists of a word and a value compared. -/
namespace DL
open PySem PySem.SeqAt
end DL

/-! DL94: str(int); an empty dict's display. -/
namespace DL
open PySem PySem.Spec PyProof.Rows L2
def eDn : ME := fun st => .ok (.dic true []) st
section
variable {ca : Nat → Addr} {K : PySem.W.Frag} {Hf H Hf1 H1 Hf2 H2 : Hp} {S P P1 P2 : Rg} {R R1 R2 : Nat → Rg} {pp : Prop} {σ : L2.St} {st : Sl} {v : V} {d : D} {vs : List V} {ds : List D} {X : Cx} {L : List Nat}
theorem post_newD {Q : VK} {a : Addr} (p : PR ca X.K Hf H P pp R σ st) (h : Post ca X Hf H S σ (.ok (.dic true []) st) Q) (hS : ∀ b, tot R b → S b) (hn : H a = none) : Q (.ref a) (upd H a (.dK [])) := by
  refine h Hf (upd H a (.dK [])) (fun b => b = a) R (.ref a) ⟨fun _ _ e => e, fun b o e _ => upd_keep hn b o e, fun b q => ?_, fun _ _ e => .inl e⟩ (p.drop.grow hn (Rep.dicO rfl upd_same rfl .nil) fun b q => q)
  rcases q with q | q
  · subst q; exact .inr hn
  · exact .inl (hS b q)
theorem ce_dn {pos : Pos} : CE ca X (.Dict [] [] pos) eDn := ce_of pe_dnewK fun Hf H R σ st Q p h => fun a hn => post_newD p h (fun b q => .inr q) hn
end
end DL

/-! DL95: repr of data or of an empty dict. -/
namespace DL
open PySem PySem.Spec PyProof.Rows L2
def rReprE (K : PySem.W.Frag) : List V → Hp → VK → Prop := fun xs H Q => rRepr K xs H Q ∨ ∃ a, xs = [.ref a] ∧ H a = some (.dK []) ∧ Q (.str "{}") H
def oReprE : List D → Option Out
  | [.dic _ []] => some (.val (.str "{}"))
  | ds => oRepr ds
section
variable {ca : Nat → Addr} {K : PySem.W.Frag} {Hf H Hf1 H1 : Hp} {S : Rg} {X : Cx} {v : V} {d : D}
theorem call_reprE {k : Nat} (hr : RoomG k X.A) : CallR X (.builtin "repr") (rReprE X.K) := by
  intro pins s σ H xs us Q I r h
  rcases h with h | ⟨a, rfl, e, q⟩
  · exact call_repr hr pins s σ H xs us Q I r h
  · obtain ⟨u, rfl, rx⟩ := vals1 r
    obtain rfl : u = Value.ref a := rx
    obtain ⟨_, lo, vs, kv, dd⟩ := (show ObjOk X.prog X.w H s.heap a (.dK []) from I.hok a _ e)
    have hu := hr.2.un
    cases kv
    obtain ⟨o, es, ep, ho, ⟨hc, _, _⟩, hd, _, hp, _⟩ := dd
    have hn : es.toList = [] := by
      generalize es.toList = l at hp
      cases hp
      rfl
    have rd : Reads s.heap (.ref a) (.dict []) (a :: [] ++ []) := Reads.dict ho hc hd (by rw [hn]; exact ReadsAll.nil) (by rw [hn]; exact ReadsAll.nil)
    have sh : (PyData.dict []).shown = "{}" := by kernel_rfl
    have no : sysModules ∉ (a :: [] ++ [] : List Addr) := fun z => by
      rw [List.append_nil, List.mem_singleton] at z
      rw [z] at lo
      simp at lo
    have dp : (PyData.dict []).depth ≤ 1 := by decide
    exact PySem.repr_of_reads' rd (by decide +kernel) (fun _ => no) hr.1 (by omega) (fun _ _ e => e)
      (fun h' u tk keep => ⟨.str _, H, I.kept (t' := tk) keep, ⟨_, rfl⟩, by rw [sh]; exact q⟩) (by rw [sh]; decide +kernel)
theorem os_reprE : OpS ca K (rReprE K) oReprE := fun Hf H vs ds o Q hx rd h q => by
  match ds, h with
  | [.dic z []], h =>
    cases h
    obtain ⟨v, S, e1, r1⟩ := rdl1 rd rfl
    subst e1
    refine .inr ?_
    cases r1 with
    | dicF e k r =>
      rename_i kvs
      cases kvs with
      | nil => exact ⟨_, rfl, hx _ _ e, q _ .str⟩
      | cons p l => cases k
    | dicO s e k r =>
      rename_i kvs
      cases kvs with
      | nil => exact ⟨_, rfl, e, q _ .str⟩
      | cons p l => cases k
  | [], h => cases h
  | [.non], h => exact .inl (os_repr Hf H vs _ o Q hx rd h q)
  | [.bl _], h => exact .inl (os_repr Hf H vs _ o Q hx rd h q)
  | [.int _], h => exact .inl (os_repr Hf H vs _ o Q hx rd h q)
  | [.str _], h => exact .inl (os_repr Hf H vs _ o Q hx rd h q)
  | [.lst _ _], h => exact .inl (os_repr Hf H vs _ o Q hx rd h q)
  | [.tup _], h => exact .inl (os_repr Hf H vs _ o Q hx rd h q)
  | [.ins _ _ _], h => exact .inl (os_repr Hf H vs _ o Q hx rd h q)
  | [.dic _ (_ :: _)], h => exact .inl (os_repr Hf H vs _ o Q hx rd h q)
  | [.dct _ _], h => exact .inl (os_repr Hf H vs _ o Q hx rd h q)
  | [.scr _], h => exact .inl (os_repr Hf H vs _ o Q hx rd h q)
  | [.cls _], h => exact .inl (os_repr Hf H vs _ o Q hx rd h q)
  | [.ty _], h => exact .inl (os_repr Hf H vs _ o Q hx rd h q)
  | [.xc _ _], h => exact .inl (os_repr Hf H vs _ o Q hx rd h q)
  | x :: y :: t, h =>
    have e : oReprE (x :: y :: t) = oRepr (x :: y :: t) := by
      cases x <;> first | rfl | (rename_i kvs; cases kvs <;> rfl)
    rw [e] at h
    exact .inl (os_repr Hf H vs _ o Q hx rd h q)
end
end DL

/-! DL96: str * int, bool(int). -/
namespace DL
open PySem PySem.Spec PyProof.Rows L2 Builtin Builtin.Str
section
variable {ca : Nat → Addr} {K : PySem.W.Frag} {Hf H Hf1 H1 : Hp} {S S1 : Rg} {X : Cx} {v : V} {d : D}
end
end DL

/-! DL97: small evaluations, texts' heads, loops that seek (shared by laws of mixed values). -/
namespace DL
open PySem (Str)
open Nw
theorem wEn0 {m : ME} {st st1 : Sl} {o : Bool} {ds : List D} (h : m st = .ok (.lst o ds) st1) (hc : colds ds = true) : iEn m st = .ok (enumD 0 ds) st1 := by
  unfold iEn
  rw [h]
  show (if colds ds = true then _ else _) = _
  rw [if_pos hc]
theorem len_any {o : Bool} {xs : List D} : oLen [.lst o xs] = some (.val (.int (xs.length : Int))) := rfl
theorem add_any {o p : Bool} {xs ys : List D} (hc : colds (xs ++ ys) = true) (hl : xs.length + ys.length ≤ 1000000) : oAdd [.lst o xs, .lst p ys] = some (.newL (xs ++ ys)) := by
  show newLc (xs ++ ys) = _
  unfold newLc
  rw [hc, List.length_append]
  exact if_pos (by simp; omega)
end DL

/-! DL98: the texts of lists tell their items' texts. -/
namespace DL
open PySem (Str)
end DL

/-! DL99: a, b = a list. -/
namespace DL
open PySem PySem.Spec PyProof.Rows L2
def gL (gs : List MG) : MG := fun d st => match d with
  | .lst _ ds => if colds ds then gTupM gs ds st else .fail
  | _ => .fail
section
variable {ca : Nat → Addr} {X : Cx} {L : List Nat}
end
end DL

/-! DL100 (Nw): the moves drop, double, swap, turn. -/
namespace Nw
open DL
open PySem (Str)
def dist (a b : Int) : Int := if a - b < 0 then -(a - b) else a - b
end Nw

/-! DL101: f-strings; repr of an instance by its own __repr__; == of an instance and another value. -/
namespace DL
open PySem PySem.Spec PyProof.Rows L2
section
variable {ca : Nat → Addr} {K : PySem.W.Frag} {Hf H Hf1 H1 Hf2 H2 : Hp} {S P : Rg} {R R1 R2 : Nat → Rg} {σ : L2.St} {st : Sl} {v : V} {d : D} {vs : List V} {ds : List D} {X : Cx} {L : List Nat}
/-- the parts -/
inductive CJ (ca : Nat → Addr) (X : Cx) : List Expr → List ME → Prop where
  | nil : CJ ca X [] []
  | cons {e : Expr} {m : ME} {es : List Expr} {ms : List ME} (h : CE ca X e m) (r : CJ ca X es ms) : CJ ca X (e :: es) (m :: ms)
end
end DL

/-! DL102: an instance made with a slot lent. -/
namespace DL
open PySem PySem.Spec PyProof.Rows L2
section
variable {ca : Nat → Addr} {K : PySem.W.Frag} {Hf H Hf1 H1 Hf2 H2 : Hp} {S P : Rg} {R R1 R2 : Nat → Rg} {σ : L2.St} {st : Sl} {v : V} {d : D} {vs : List V} {ds : List D} {X : Cx} {L : List Nat}
end
end DL

/-! DL103: the text of a network; f-strings, repr of instances evaluated; lists of mixed values searched. -/
namespace DL
open PySem (Str PyData)
/-- the text of a list of numbers -/
abbrev lsT (S : List Int) : Str := (Py.py S).shown
structure SmS (S : List Int) : Prop where
  s : ∀ x ∈ S, 0 ≤ x ∧ x ≤ 40
  l : S.length ≤ 1000
theorem SmS.rp {S : List Int} (h : SmS S) : Rp (Py.py S) := rp_nums (fun x hx => by have := h.s x hx; omega) (by have := h.l; omega)
theorem SmS.len {S : List Int} (h : SmS S) : (lsT S).length ≤ 16000000 := by
  have r := h.rp
  obtain ⟨a, b, c⟩ := sml_all _ r.s
  have l := PyData.shown_le 26 (by decide) _ c
  have w := r.w
  show (Py.py S).shown.length ≤ _
  omega
end DL

/-! DL104: functions called by keyword. -/
namespace DL
open PySem L2 PyProof.Rows
/-- keywords, from the left: their names, their expressions -/
inductive KwL : List Keyword → List Str → List Expr → Prop where
  | nil : KwL [] [] []
  | cons {n : Str} {e : Expr} {p : Pos} {ks : List Keyword} {nm : List Str} {es : List Expr} (r : KwL ks nm es) : KwL (⟨some n, e, p⟩ :: ks) (n :: nm) (e :: es)
/-- how the values given by keyword go to the parameters -/
structure Pm where
  pm : (α : Type) → List α → List α
  len : ∀ (α : Type) (l : List α), (pm α l).length = l.length
  vals : ∀ (vs : List V) (us : List Value), Vals vs us → Vals (pm V vs) (pm Value us)
  rep : ∀ (ca : Nat → Addr) (K : PySem.W.Frag) (Hf H : Hp) (S : Rg) (vs : List V) (ds : List D), RepL ca K Hf H S vs ds → RepL ca K Hf H S (pm V vs) (pm D ds)
section
variable {P : Program} {w : World} {K : PySem.W.Frag} {mg : Str → Option Value} {base : Heap} {ca : Nat → Addr} {L : List Nat}
end
section
variable {ca : Nat → Addr} {Hf H : Hp} {S P : Rg} {R : Nat → Rg} {σ : L2.St} {st : Sl} {X : Cx}
end
end DL

/-! DL105: a call that gets a slot's flat list for its time only: what it hands back holds no list of others. -/
namespace DL
open PySem L2 PyProof.Rows
mutual
/-- data in which no list that stands is found -/
def noL : D → Bool
  | .lst o xs => o && noLL xs
  | .tup xs => noLL xs
  | .ins _ _ fs => noLF fs
  | .scr _ => false
  | .dic _ _ => false
  | .dct _ _ => false
  | .xc _ _ => false
  | .non => true
  | .bl _ => true
  | .int _ => true
  | .str _ => true
  | .cls _ => true
  | .ty _ => true
def noLL : List D → Bool
  | [] => true
  | d :: ds => noL d && noLL ds
def noLF : List (Str × D) → Bool
  | [] => true
  | (_, d) :: ds => noL d && noLF ds
end
theorem noLF_vals : ∀ fs : List (Str × D), noLF fs = noLL (fs.map (·.2))
  | [] => rfl
  | (f, d) :: fs => by rw [noLF, List.map_cons, noLL, noLF_vals fs]
section
variable {ca : Nat → Addr} {K : PySem.W.Frag} {Hf H Hf1 H1 Hf2 H2 : Hp} {S P : Rg} {R R1 R2 : Nat → Rg} {σ : L2.St} {st : Sl} {v : V} {d : D} {vs : List V} {ds : List D} {X : Cx} {L : List Nat}
theorem repL_fl : ∀ {vs : List V} {ds : List D} {S S2 : Rg} {Hf H Hf2 H2 : Hp}, RepL ca K Hf H S vs ds → ds.all flat = true → RepL ca K Hf2 H2 S2 vs ds
  | _, _, _, _, _, _, _, _, .nil, _ => .nil
  | _, _, _, _, Hf, H, Hf2, H2, .cons (d := d) (ds := ds) r1 r2 _ _ _, h => by
    rw [List.all_cons, Bool.and_eq_true] at h
    have t := repL_fl (S2 := Em) (Hf2 := Hf2) (H2 := H2) r2 h.2
    cases r1 with
    | non => exact .cons (S1 := Em) .non t (fun _ q => q.elim) (fun _ q => q.elim) fun _ q _ => q
    | bl => exact .cons (S1 := Em) .bl t (fun _ q => q.elim) (fun _ q => q.elim) fun _ q _ => q
    | int => exact .cons (S1 := Em) .int t (fun _ q => q.elim) (fun _ q => q.elim) fun _ q _ => q
    | str => exact .cons (S1 := Em) .str t (fun _ q => q.elim) (fun _ q => q.elim) fun _ q _ => q
    | _ => exact absurd h.1 (fun z => by cases z)
end
end DL

/-! DL106: a for over an owned list whose items are handed to the loop's name with their ownership, and taken back behind each turn. -/
namespace DL
open PySem L2 PyProof.Rows
section
variable {ca : Nat → Addr} {K : PySem.W.Frag} {Hf H Hf1 H1 Hf2 H2 : Hp} {S S1 S2 P : Rg} {R R1 R2 : Nat → Rg} {pp qq : Prop} {σ σ' : L2.St} {st st' : Sl} {v : V} {d : D} {vs : List V} {ds : List D} {X : Cx} {L : List Nat}
end
end DL

/-! DL107: the forms of DL105, DL106 evaluated. -/
namespace DL
open PySem (Str)
theorem nums_noL : ∀ l : List Int, noLL (nums l) = true
  | [] => rfl
  | a :: l => by rw [show nums (a :: l) = .int a :: nums l from rfl, noLL, nums_noL l]; rfl
theorem noL_nums {l : List Int} : noL (.lst true (nums l)) = true := by rw [noL, nums_noL]; rfl
end DL

/-! DL108: construction that raises; == of an instance and a value, evaluated; texts joined by +. -/
namespace DL
open PySem (Str PyData)
end DL

/-! DL109: a call of what an expression answers: a def of the text, handed about as a value. -/
namespace DL
open PySem L2 PyProof.Rows
section
variable {ca : Nat → Addr} {K : PySem.W.Frag} {Hf H Hf1 H1 : Hp} {S P : Rg} {R R1 : Nat → Rg} {σ : L2.St} {st : Sl} {X : Cx}
end
end DL

/-! DL110: xs.insert(i, y); xs[a:c] = ys. -/
namespace DL
open PySem L2 PyProof.Rows
section
variable {X : Cx}
end
section
variable {ca : Nat → Addr} {K : PySem.W.Frag} {Hf H Hf1 H1 : Hp} {S P : Rg} {R R1 : Nat → Rg} {σ : L2.St} {st : Sl} {X : Cx} {L : List Nat}
theorem repL_take {xs : List D} {vs : List V} (r : RepL ca K Hf H Em vs xs) : ∀ n : Nat, RepL ca K Hf H Em (vs.take n) (xs.take n) := fun n => by
  induction xs generalizing vs n with
  | nil => cases r; simp; exact .nil
  | cons x xs ih =>
    cases r with
    | cons r1 r2 h1 h2 h3 =>
      cases n with
      | zero => exact .nil
      | succ n => exact .cons r1 (ih (r2.mono h2) n) h1 (fun _ q => q) fun b q _ => h1 b q
theorem repL_drop {xs : List D} {vs : List V} (r : RepL ca K Hf H Em vs xs) : ∀ n : Nat, RepL ca K Hf H Em (vs.drop n) (xs.drop n) := fun n => by
  induction xs generalizing vs n with
  | nil => cases r; simp; exact .nil
  | cons x xs ih =>
    cases r with
    | cons r1 r2 h1 h2 h3 =>
      cases n with
      | zero => exact .cons r1 r2 h1 h2 h3
      | succ n => exact ih (r2.mono h2) n
end
/-! evaluated -/
end DL

/-! DL111: len(set(xs)), xs a list of distinct tuples of numbers. -/
namespace DL
open PySem PySem.Spec PyProof.Rows L2
section
variable {X : Cx}
end
section
variable {ca : Nat → Addr} {K : PySem.W.Frag} {Hf H : Hp} {S T : Rg} {X : Cx}
end
end DL

/-! DL112: tuple + tuple. -/
namespace DL
open PySem PySem.Spec PyProof.Rows L2
section
variable {ca : Nat → Addr} {K : PySem.W.Frag} {Hf H Hf1 H1 : Hp} {S S1 : Rg} {X : Cx} {v : V} {d : D}
end
end DL

/-! DL113: in, not in, for a tuple of nested data. -/
namespace DL
open PySem PySem.Spec PyProof.Rows L2
end DL

/-! DL114: a step behind a normal word changes its code in at most one place, by one. -/
namespace Nw
end Nw

/-! DL115: range(a, b, c) with a written c. -/
namespace DL
open PySem L2 PyProof.Rows
section
variable {ca : Nat → Addr} {K : PySem.W.Frag} {Hf H Hf1 H1 Hf2 H2 : Hp} {S S1 S2 P P1 P2 : Rg} {R R1 R2 : Nat → Rg} {pp qq : Prop} {σ σ' : L2.St} {st st' : Sl} {v : V} {d : D} {vs : List V} {ds : List D} {X : Cx} {L : List Nat}
end
end DL

/-! DL116: dicts of written strings; d.get(k, x). -/
namespace DL
open PySem PySem.Spec PyProof.Rows L2
/-- a dict's display of written strings -/
inductive KvL : List (Option Expr) → List Expr → List (Str × Str) → Prop where
  | nil : KvL [] [] []
  | cons {k v : Str} {j1 j2 : Nat} {p1 p2 : Pos} {ks : List (Option Expr)} {vs : List Expr} {kvs : List (Str × Str)} (r : KvL ks vs kvs) : KvL (some (.Constant (.str k) j1 p1) :: ks) (.Constant (.str v) j2 p2 :: vs) ((k, v) :: kvs)
section
end
section
variable {ca : Nat → Addr} {K : PySem.W.Frag} {Hf H Hf1 H1 Hf2 H2 : Hp} {S P P1 P2 : Rg} {R R1 R2 : Nat → Rg} {pp : Prop} {σ : L2.St} {st : Sl} {v : V} {d : D} {vs : List V} {ds : List D} {X : Cx} {L : List Nat}
end
end DL

/-! DL117: x, y = a, b where a name is used in a block: by way of a tuple that nobody else sees. -/
namespace DL
open PySem L2 PyProof.Rows
section
variable {ca : Nat → Addr} {K : PySem.W.Frag} {Hf H Hf1 H1 : Hp} {S P : Rg} {R : Nat → Rg} {σ : L2.St} {st : Sl} {v w : V} {d e : D} {vs : List V} {ds : List D} {X : Cx} {L : List Nat}
end
end DL

/-! DL118: moves keep the effect; moves turned round lead back. -/
namespace Nw
open PySem (Str)
open DL
inductive MvC : List Int → Str → Nat → List Int → Prop where
  | double (A : List Int) (x : Int) (r : List Int) (h : (A ++ x :: r).length < 1000) : MvC (A ++ x :: r) "double" A.length (A ++ x :: x :: r)
  | drop (A : List Int) (x : Int) (r : List Int) : MvC (A ++ x :: x :: r) "drop" A.length (A ++ x :: r)
  | swap (A : List Int) (x y : Int) (r : List Int) (h : 2 ≤ dist x y) : MvC (A ++ x :: y :: r) "swap" A.length (A ++ y :: x :: r)
  | turn (A : List Int) (x y : Int) (r : List Int) (h : dist x y = 1) : MvC (A ++ x :: y :: x :: r) "turn" A.length (A ++ y :: x :: y :: r)
/-! ### the effect -/
/-! ### turned round -/
end Nw

/-! DL119: a comprehension whose first turn freezes a slot; d.get evaluated. -/
namespace DL
open PySem (Str)
open Nw
section
variable {α : Type}
end
end DL

/-! DL120: DL105 for any items that are not owned (made from DL105, DL107 by a program). -/
namespace DL
open PySem L2 PyProof.Rows
section
variable {ca : Nat → Addr} {K : PySem.W.Frag} {Hf H Hf1 H1 Hf2 H2 : Hp} {S P : Rg} {R R1 R2 : Nat → Rg} {σ : L2.St} {st : Sl} {v : V} {d : D} {vs : List V} {ds : List D} {X : Cx} {L : List Nat}
end
end DL
namespace DL
open PySem (Str)
end DL

/-! DL121: moves that bring a step into a normal word. -/
namespace Nw
open PySem (Str)
open DL
/-! ### a block of a normal word -/
def blk (hi : Int) (n : Nat) : List Int := (List.range n).map fun (t : Nat) => hi - (t : Int)
/-! ### the moves for one more step; the code's last count stands in front -/
end Nw

/-! DL122: moves that lead to the normal word. -/
namespace Nw
open PySem (Str)
open DL
end Nw

/-! DL123: a loop over a slot's list, by places. -/
namespace DL
open PySem (Str)
end DL

/-! DL124: classmethods called by keyword alone. -/
namespace DL
open PySem L2 PyProof.Rows
section
variable {P : Program} {w : World} {K : PySem.W.Frag} {mg : Str → Option Value} {base : Heap} {ca : Nat → Addr} {L : List Nat}
end
section
variable {ca : Nat → Addr} {Hf H : Hp} {S P : Rg} {R : Nat → Rg} {σ : L2.St} {st : Sl} {X : Cx}
end
end DL

/-! DL125: == and != of two values that are both instances (own __eq__) or both data. -/
namespace DL
open PySem L2 PyProof.Rows
section
variable {ca : Nat → Addr} {Hf H : Hp} {S P : Rg} {R : Nat → Rg} {σ : L2.St} {st : Sl} {X : Cx}
end
end DL

/-! DL126: != of two lists of data among which empty dicts may be. -/
namespace DL
open PySem L2 PyProof.Rows
/-- two items whose comparison is known -/
def EI (K : PySem.W.Frag) (H : Hp) (x y : V) (b : Bool) : Prop :=
  (∃ d e, Dp K H x d ∧ Dp K H y e ∧ d.canLay0 = true ∧ e.canLay0 = true ∧ min d.depth e.depth ≤ 60 ∧ b = PyData.eqv d e) ∨
    ∃ p q, x = .ref p ∧ y = .ref q ∧ H p = some (.dK []) ∧ H q = some (.dK []) ∧ b = true
inductive EIs (K : PySem.W.Frag) (H : Hp) : List V → List V → List Bool → Prop where
  | nil : EIs K H [] [] []
  | cons {x y : V} {b : Bool} {xs ys : List V} {bs : List Bool} (h : EI K H x y b) (r : EIs K H xs ys bs) : EIs K H (x :: xs) (y :: ys) (b :: bs)
section
variable {ca : Nat → Addr} {K : PySem.W.Frag} {Hf H : Hp} {S : Rg} {X : Cx} {pins : List (Addr × Obj)} {σ : L2.St} {s : Shared}
end
end DL

/-! DL127: d[k] = v at a slot's own dict; k in d. -/
namespace DL
open PySem PySem.Spec PyProof.Rows L2
/-- d[k] = v, d a slot's own dict -/
def gDx (i0 : Nat) (mi : ME) : MG := fun d st => if cold d && (getS st i0).isSome then (mi st).bind fun kd st1 => (match keyD kd with
  | some k => match getS st1 i0 with
    | some (.dic true kvs) => if kvs.length < 16777216 then .ok () (st1.set i0 (some (.dic true (putKD kvs k d)))) else .fail
    | _ => .fail
  | none => .fail) else .fail
def oDIn (neg : Bool) : List D → Option Out
  | [y, .dic _ kvs] => match keyD y with
    | some k => some (.val (.bl (if neg then !(valD kvs k).isSome else (valD kvs k).isSome)))
    | none => none
  | _ => none
def rDIn (neg : Bool) : L2.R2 := fun y x H Q => ∃ a o, x = .ref a ∧ DGet H a y o ∧ Q (.bl (if neg then !o.isSome else o.isSome)) H
def rSetDk : V → V → V → Hp → (Hp → Prop) → Prop := fun x y v H Q => ∃ a kvs k, x = .ref a ∧ y = kV k ∧ H a = some (.dK kvs) ∧ kvs.length < sizeLine ∧ Q (upd H a (.dK (putK kvs k v)))
section
variable {ca : Nat → Addr} {K : PySem.W.Frag} {Hf H Hf1 H1 Hf2 H2 : Hp} {S S1 S2 P P1 P2 : Rg} {R R1 R2 : Nat → Rg} {pp qq : Prop} {σ σ' : L2.St} {st st' : Sl} {v : V} {d : D} {vs : List V} {ds : List D} {X : Cx} {L : List Nat}
theorem set_dict (hu : X.A.units + 1 < cLine) : PSet X rSetDk := by
  intro pins s σ H x y v u iv r Q I rx ry rv h
  obtain ⟨a, kvs, k, rfl, rfl, e, hl, q⟩ := h
  obtain rfl : u = Value.ref a := rx
  exact d_setItem hu I (DPut.k e hl) ry rv fun s4 I4 => ⟨_, I4, q⟩
theorem valD_val {k : Key} {T : Rg} : ∀ {kvs : List (Key × V)} {es : List (Key × D)}, kvs.map (·.1) = es.map (·.1) → (valV kvs k).isSome = (valD es k).isSome
  | [], [], _ => rfl
  | [], _ :: _, h => by cases h
  | _ :: _, [], h => by cases h
  | (k1, v1) :: kvs, (k2, d2) :: es, h => by
    simp only [List.map_cons, List.cons.injEq] at h
    obtain ⟨rfl, h2⟩ := h
    by_cases e : k1 = k
    · rw [valV_pos e, show valD ((k1, d2) :: es) k = some d2 from by simp [valD, List.find?_cons, e]]
      rfl
    · rw [valV_neg e, show valD ((k1, d2) :: es) k = valD es k from by simp [valD, List.find?_cons, e]]
      exact valD_val (T := T) h2
theorem os_din {neg : Bool} : OpS ca K (rl2 (rDIn neg)) (oDIn neg) := fun Hf H vs ds o Q hx rd h q => by
  match ds, h with
  | [y, .dic ow kvs], h =>
    dsimp only [oDIn] at h
    cases ek : keyD y with
    | none => rw [ek] at h; cases h
    | some k =>
      rw [ek] at h
      cases h
      obtain ⟨w, v, S, S', e1, r2, r1⟩ := rdl2 rd rfl
      subst e1
      have hw := rep_key r2 ek
      cases r1 with
      | dicF e kk r =>
        refine ⟨_, _, rfl, by rw [hw]; exact DGet.k (k := k) (hx _ _ e), ?_⟩
        rw [valD_val (T := Em) kk]
        exact q _ .bl
      | dicO s e kk r =>
        refine ⟨_, _, rfl, by rw [hw]; exact DGet.k (k := k) e, ?_⟩
        rw [valD_val (T := Em) kk]
        exact q _ .bl
theorem ce_din {a b : Expr} {oa ob : Opd} {pos : Pos} (hu : X.A.units + 1 < cLine) (ha : CO ca X a oa) (hb : CO ca X b ob) (hm : behindInMarks .In b = false) :
    CE ca X (.Compare a [.In] [b] pos) (eOp (oDIn false) [oa, ob]) := ce_op (es := [a, b]) (rl := rl2 (rDIn false)) (fun σ H Q h => we_of (pe_cmp (pc_din hu (we_pe X a) (we_pe X b)) hm) h) (.cons ha (.cons hb .nil)) os_din
/-- the region of a slot's own dict -/
theorem PR.ownDict {i : Nat} {kvs : List (Key × D)} (p : PR ca K Hf H Em True R σ st) (h : getS st i = some (.dic true kvs)) : ∃ a vs, σ[i]? = some (some (.ref a)) ∧ R i a ∧ H a = some (.dK vs) ∧ vs.map (·.1) = kvs.map (·.1) ∧ RepL ca K Hf H (fun b => R i b ∧ b ≠ a) (vs.map (·.2)) (kvs.map (·.2)) := by
  obtain ⟨v, e, r⟩ := p.at_ i _ h
  cases r with
  | dicO s e2 kk r => exact ⟨_, _, e, s, e2, kk, r⟩
/-- a slot's own dict is written -/
theorem PR.writeD {i : Nat} {kvs es : List (Key × D)} {a : Addr} {ws : List (Key × V)} (p : PR ca K Hf H Em True R σ st) (h : getS st i = some (.dic true kvs)) (hv : σ[i]? = some (some (.ref a))) (ha : R i a)
    (kk : ws.map (·.1) = es.map (·.1)) (r : RepL ca K Hf H (fun b => R i b ∧ b ≠ a) (ws.map (·.2)) (es.map (·.2))) : PR ca K Hf (upd H a (.dK ws)) Em True R σ (st.set i (some (.dic true es))) ∧ Tr (jn Em R) Hf H (jn Em R) Hf (upd H a (.dK ws)) := by
  have hk : ∀ b o, b ≠ a → H b = some o → upd H a (.dK ws) b = some o := fun b o n e => by rw [upd_ne n]; exact e
  have hf : Hf a = none := p.w.nf a (.inr ⟨i, ha⟩)
  refine ⟨⟨trivial, ?_, fun j d e => ?_, p.dj, fun _ _ q => q.elim, ⟨fun b o e => ?_, fun b q => ?_, p.w.nf, mkTp⟩⟩, ⟨fun _ _ e => e, fun b o e n => hk b o (fun z => n (.inr ⟨i, z ▸ ha⟩)) e, fun b q => .inl q, fun _ _ e => .inl e⟩⟩
  · rw [List.length_set]; exact p.len
  · rcases set_get e with ⟨q1, q2⟩ | ⟨q1, q2⟩
    · subst q1
      cases q2
      exact ⟨_, hv, .dicO ha upd_same kk (r.keep (fun _ _ e => e) fun b q o e => hk b o q.2 e)⟩
    · obtain ⟨v', e2, r2⟩ := p.at_ j d q2
      exact ⟨v', e2, r2.keep (fun _ _ e => e) fun b q o e => hk b o (fun z => q1 (p.dj i j a ha (z ▸ q))) e⟩
  · have := p.w.ex b o e
    exact hk b o (fun z => by subst z; rw [hf] at e; cases e) this
  · obtain ⟨o, e⟩ := p.w.dm b q
    by_cases z : b = a
    · subst z; exact ⟨_, upd_same⟩
    · exact ⟨o, hk b o z e⟩
theorem map_repT {k : Key} : ∀ {T : Rg} {kvs : List (Key × V)} {es : List (Key × D)}, kvs.map (·.1) = es.map (·.1) → RepL ca K Hf H T (kvs.map (·.2)) (es.map (·.2)) → Rep ca K Hf H Em v d →
    (kvs.map fun kv => if kv.1 = k then (kv.1, v) else kv).map (·.1) = (es.map fun kv => if kv.1 = k then (kv.1, d) else kv).map (·.1) ∧ RepL ca K Hf H T ((kvs.map fun kv => if kv.1 = k then (kv.1, v) else kv).map (·.2)) ((es.map fun kv => if kv.1 = k then (kv.1, d) else kv).map (·.2))
  | _, [], [], _, _, _ => ⟨rfl, .nil⟩
  | _, [], _ :: _, h, _, _ => by cases h
  | _, _ :: _, [], h, _, _ => by cases h
  | _, (k1, v1) :: kvs, (k2, d2) :: es, h, r, rv => by
    simp only [List.map_cons, List.cons.injEq] at h
    obtain ⟨rfl, h2⟩ := h
    cases r with
    | cons r1 r2 h1 h2' h3 =>
      obtain ⟨a, b⟩ := map_repT (k := k) h2 r2 rv
      by_cases e : k1 = k
      · simp only [List.map_cons, if_pos e]
        exact ⟨by rw [a], .cons (S1 := Em) rv b (fun _ z => z.elim) h2' fun _ z _ => z⟩
      · simp only [List.map_cons, if_neg e]
        exact ⟨by rw [a], .cons r1 b h1 h2' h3⟩
theorem put_repT {k : Key} {T : Rg} {kvs : List (Key × V)} {es : List (Key × D)} (h : kvs.map (·.1) = es.map (·.1)) (r : RepL ca K Hf H T (kvs.map (·.2)) (es.map (·.2))) (rv : Rep ca K Hf H Em v d) :
    (putK kvs k v).map (·.1) = (putKD es k d).map (·.1) ∧ RepL ca K Hf H T ((putK kvs k v).map (·.2)) ((putKD es k d).map (·.2)) := by
  unfold putK putKD
  rw [keys_any h]
  split
  · exact map_repT h r rv
  · rw [List.map_append, List.map_append, List.map_append, List.map_append, h]
    exact ⟨rfl, (repL_snoc r rv fun _ _ q => q).mono fun _ q => q.elim id fun z => z.elim⟩
theorem cg_dx {o i : Expr} {i0 : Nat} {mi : ME} {pos : Pos} (hu : X.A.units + 1 < cLine) (ho : PE X o (tVar i0)) (hi : CE ca X i mi)
    (ha : ∀ v, assign (.Subscript o i pos) X.env v = (do
      let ov ← holding [v] (eval o X.env)
      let iv ← holding [v, ov] (eval i X.env)
      standAt pos
      holding [v, ov, iv] (setItem ov iv v)
      release [v, ov, iv] [])) : CG ca X L (.Subscript o i pos) (gSub (tVar i0) (We X i) rSetDk) (gDx i0 mi) :=
  ⟨pg_sub ho (we_pe X i) (set_dict hu) ha, fun Hf H P R σ st v d Q p h => by
    unfold gDx at h
    by_cases hc0 : (cold d && (getS st i0).isSome) = true
    · rw [if_pos hc0] at h
      rw [Bool.and_eq_true] at hc0
      have hc := hc0.1
      have hd : hot d = false := by unfold cold at hc; simpa using hc
      have rd := p.pend.cold (S' := Em) hd
      cases em : mi st with
      | fail => rw [em] at h; exact h.elim
      | exc x st1 => rw [em] at h; exact h.elim
      | ok kd st1 =>
        rw [em] at h
        dsimp only [Res.bind] at h
        cases ek : keyD kd with
        | none => rw [ek] at h; exact h.elim
        | some k =>
          rw [ek] at h
          dsimp only at h
          cases eg : getS st1 i0 with
          | none => rw [eg] at h; exact h.elim
          | some d1 =>
            rw [eg] at h
            cases d1 with
            | dic ow kvs =>
              cases ow with
              | false => exact h.elim
              | true =>
                dsimp only at h
                by_cases hl : kvs.length < 16777216
                · rw [if_pos hl] at h
                  obtain ⟨d0, e0⟩ := Option.isSome_iff_exists.mp hc0.2
                  obtain ⟨x, hx, _⟩ := p.at_ i0 d0 e0
                  refine ⟨x, hx, hi Hf H R σ st _ p.drop ?_⟩
                  rw [em]
                  intro Hf1 H1 P1 R1 v1 t1 p1
                  obtain ⟨a, vs, e1, ra, e2, kk, r2⟩ := p1.drop.ownDict eg
                  rw [hx] at e1
                  cases e1
                  have hlen : vs.length = kvs.length := by
                    have := congrArg List.length kk
                    rwa [List.length_map, List.length_map] at this
                  refine ⟨a, vs, k, rfl, rep_key p1.pend ek, e2, by rw [hlen, ← sz_eq]; exact hl, ?_⟩
                  obtain ⟨kk2, r3⟩ := put_repT (k := k) kk r2 (rd.keep t1.fx fun _ q => q.elim)
                  obtain ⟨p2, t2⟩ := p1.drop.writeD eg hx ra kk2 r3
                  exact h Hf1 _ R1 σ (((less0 t1).trans t2).more fun b q => q.elim (fun q => q.elim) .inr) p2 Lk.refl
                · rw [if_neg hl] at h; exact h.elim
            | _ => exact h.elim
    · rw [if_neg hc0] at h; exact h.elim⟩
end
end DL

/-! DL128: rows[e].append(x), rows a slot's own list of own lists, x a name. -/
namespace DL
open PySem PySem.Spec PyProof.Rows L2
section
variable {ca : Nat → Addr} {K : PySem.W.Frag} {Hf H Hf1 H1 Hf2 H2 : Hp} {S S1 S2 P P1 P2 : Rg} {R R1 R2 : Nat → Rg} {pp qq : Prop} {σ σ' : L2.St} {st st' : Sl} {v : V} {d : D} {vs : List V} {ds : List D} {X : Cx} {L : List Nat}
/-- an own list among the items: where it lies, and how it may be written -/
theorem inner_at : ∀ {S : Rg} {xs : List D} {vs : List V} {j : Nat} {ys : List D}, RepL ca K Hf H S vs xs → xs[j]? = some (.lst true ys) →
    ∃ (b : Addr) (ws : List V) (T : Rg), vs[j]? = some (.ref b) ∧ S b ∧ H b = some (.lst ws) ∧ RepL ca K Hf H (fun c => T c ∧ c ≠ b) ws ys ∧
      ∀ (H' : Hp) (us : List V) (zs : List D), (∀ c o, c ≠ b → H c = some o → H' c = some o) → H' b = some (.lst us) → RepL ca K Hf H' (fun c => T c ∧ c ≠ b) us zs → RepL ca K Hf H' S vs (xs.set j (.lst true zs))
  | _, [], _, _, _, _, h => by simp at h
  | _, x :: xs, _, 0, ys, .cons r1 r2 h1 h2 h3, h => by
    obtain rfl : x = .lst true ys := by simpa using h
    cases r1 with
    | lstO s e r =>
      refine ⟨_, _, _, rfl, h1 _ s, e, r, fun H' us zs hk e' r' => ?_⟩
      exact .cons (.lstO s e' r') (r2.keep (fun _ _ e => e) fun c q o eo => hk c o (fun z => h3 _ s (z ▸ q)) eo) h1 h2 h3
  | _, x :: xs, _, j + 1, ys, .cons r1 r2 h1 h2 h3, h => by
    have h' : xs[j]? = some (.lst true ys) := by simpa using h
    obtain ⟨b, ws, T, e1, sb, e2, r, k⟩ := inner_at r2 h'
    refine ⟨b, ws, T, by simpa using e1, h2 _ sb, e2, r, fun H' us zs hk e' r' => ?_⟩
    exact .cons (r1.keep (fun _ _ e => e) fun c q o eo => hk c o (fun z => h3 c q (z ▸ sb)) eo) (k H' us zs hk e' r') h1 h2 h3
end
end DL

/-! DL129: max of a list of ints; with a default. -/
namespace DL
open PySem PySem.Spec PyProof.Rows L2
def intsD : List D → Option (List Int)
  | [] => some []
  | .int i :: ds => (intsD ds).map (i :: ·)
  | _ :: _ => none
def maxI (n : Int) (ns : List Int) : Int := ns.foldl max n
def oMaxL : List D → Option Out
  | [.lst _ xs] => match intsD xs with
    | some (n :: ns) => some (.val (.int (maxI n ns)))
    | _ => none
  | _ => none
def rMaxL (K : PySem.W.Frag) : List V → Hp → VK → Prop := fun xs H Q => ∃ a n ns, xs = [.ref a] ∧ SqL K H a ((n :: ns).map V.int) ∧ Q (.int (maxI n ns)) H
section
variable {ca : Nat → Addr} {K : PySem.W.Frag} {Hf H : Hp} {S : Rg} {X : Cx} {v : V} {d : D} {vs : List V} {ds : List D}
theorem reads_ints {h : Heap} : ∀ {ns : List Int} {us : List Value}, Vals (ns.map V.int) us → ∃ as, ReadsAll h us (ns.map .int) as
  | [], _, r => by cases r; exact ⟨[], .nil⟩
  | n :: ns, _, r => by
    cases r with
    | cons r1 r2 =>
      obtain ⟨t, rfl⟩ := r1
      obtain ⟨as, q⟩ := reads_ints (h := h) r2
      exact ⟨_, .cons (.int n t) q⟩
theorem depth_ints : ∀ ns : List Int, PyData.depthAll (ns.map .int) = 0
  | [] => by simp [PyData.depthAll]
  | n :: ns => by rw [List.map_cons, PyData.depthAll, PyData.depth, depth_ints ns]; rfl
theorem alike_ints (ns : List Int) : PySem.W.AlikeAll (ns.map .int) := by
  refine ⟨fun x hx y hy => ?_, fun x hx => ?_⟩
  · obtain ⟨a, _, rfl⟩ := List.mem_map.mp hx
    obtain ⟨b, _, rfl⟩ := List.mem_map.mp hy
    rfl
  · obtain ⟨a, _, rfl⟩ := List.mem_map.mp hx
    intro h
    cases h
theorem call_maxL (hc : X.calm = true) (hu : X.A.units + 64 < cLine) : CallR X (.builtin "max") (rMaxL X.K) := by
  intro pins s σ H xs us Q I r h
  obtain ⟨a, n, ns, rfl, hq, q⟩ := h
  obtain ⟨u, rfl, rx⟩ := vals1 r
  obtain rfl : u = Value.ref a := rx
  obtain ⟨its, rv, pl, _⟩ := I.list hq
  obtain ⟨as, ra⟩ := reads_ints (h := s.heap) rv
  refine PySem.W.max_list_data (vs := its.toArray) (x := .int n) (xs := ns.map .int) (as := as) (I.ok.hd hc) pl.isList (by simpa using ra) (alike_ints (n :: ns)) ?_ fun i v h' tk bs _ hr hk => ?_
  · rw [show (PyData.int n :: ns.map .int) = (n :: ns).map .int from rfl, depth_ints]
    omega
  · rw [PySem.W.maxD_ints] at hr
    cases hr
    exact ⟨.int (maxI n ns), H, I.kept hk, ⟨_, rfl⟩, q⟩
theorem rep_ints {S : Rg} : ∀ {xs : List D} {vs : List V} {S : Rg} {ns : List Int}, intsD xs = some ns → RepL ca K Hf H S vs xs → vs = ns.map V.int
  | [], _, _, _, h, r => by
    cases h
    cases r
    rfl
  | x :: xs, _, _, _, h, .cons r1 r2 _ _ _ => by
    cases x with
    | int i =>
      have h : (intsD xs).map (i :: ·) = some _ := h
      cases e : intsD xs with
      | none => rw [e] at h; cases h
      | some ns =>
        rw [e] at h
        cases h
        rw [List.map_cons, rep_int r1, rep_ints (S := S) e r2]
    | _ => cases h
theorem os_maxL : OpS ca K (rMaxL K) oMaxL := fun Hf H vs ds o Q hx rd h q => by
  match ds, h with
  | [.lst o1 xs], h =>
    dsimp only [oMaxL] at h
    cases e : intsD xs with
    | none => rw [e] at h; cases h
    | some ns =>
      rw [e] at h
      cases ns with
      | nil => cases h
      | cons n ns =>
        cases h
        obtain ⟨v, S, e1, r1⟩ := rdl1 rd rfl
        subst e1
        obtain ⟨a, ws, T, rfl, e2, r3⟩ := rep_lst hx r1
        have ew := rep_ints (S := S) e r3
        subst ew
        exact ⟨a, n, ns, rfl, .inl (.inl e2), q _ .int⟩
end
end DL

set_option maxHeartbeats 4000000
/-! DL130: for .. in zip(xs, e), xs a slot's list that is walked where it stands. -/
namespace DL
open PySem PySem.Spec PyProof.Rows L2
section
variable {ca : Nat → Addr} {K : PySem.W.Frag} {Hf H Hf1 H1 Hf2 H2 : Hp} {S S1 S2 P P1 P2 : Rg} {R R1 R2 : Nat → Rg} {pp qq : Prop} {σ σ' : L2.St} {st st' : Sl} {v : V} {d : D} {vs : List V} {ds : List D} {X : Cx} {L : List Nat}
end
end DL

/-! DL131: earliest rounds of steps, longest chains (the plain part of k55's law). -/
namespace DL
open PySem (Str)
open Nw
/-! ### levels -/
def nr (x y : Int) : Prop := x - y ≤ 1 ∧ y - x ≤ 1
structure Ear (ss E : List Int) : Prop where
  le : E.length ≤ ss.length
  pos : ∀ (i : Nat) (v : Int), E[i]? = some v → 1 ≤ v
  lt : ∀ (i : Nat) (v s : Int) (j : Nat) (x t : Int), E[i]? = some v → ss[i]? = some s → j < i → E[j]? = some x → ss[j]? = some t → nr t s → x < v
  wait : ∀ (i : Nat) (v s : Int), E[i]? = some v → ss[i]? = some s → v = 1 ∨ ∃ (j : Nat) (x t : Int), j < i ∧ E[j]? = some x ∧ ss[j]? = some t ∧ nr t s ∧ v = x + 1
/-! ### the dict of the latest steps -/
theorem valD_put (kvs : List (L2.Key × D)) (k j : L2.Key) (d : D) : valD (putKD kvs k d) j = if j = k then some d else valD kvs j := by
  unfold putKD
  by_cases h : (kvs.any fun kv => decide (kv.1 = k)) = true
  · rw [if_pos h]
    induction kvs with
    | nil => cases h
    | cons p ps ih =>
      obtain ⟨k1, d1⟩ := p
      rw [List.map_cons]
      by_cases e : k1 = k
      · subst e
        by_cases ej : j = k1
        · subst ej
          simp [valD, List.find?_cons]
        · have ne : ¬ k1 = j := fun z => ej z.symm
          have tail : ∀ l : List (L2.Key × D), valD (l.map fun kv => if kv.1 = k1 then (kv.1, d) else kv) j = valD l j := fun l => by
            induction l with
            | nil => rfl
            | cons q qs ihq =>
              obtain ⟨k2, d2⟩ := q
              rw [List.map_cons]
              by_cases e2 : k2 = k1
              · subst e2
                simp only [valD, List.find?_cons, if_true, decide_eq_false ne] at ihq ⊢
                exact ihq
              · simp only [valD, List.find?_cons, if_neg e2] at ihq ⊢
                by_cases e3 : k2 = j
                · simp [e3]
                · simp only [decide_eq_false e3]
                  exact ihq
          have t := tail ps
          simp only [valD, List.find?_cons, if_true, if_neg ej, decide_eq_false ne] at t ⊢
          exact t
      · have hp : (ps.any fun kv => decide (kv.1 = k)) = true := by
          rw [List.any_cons, decide_eq_false e, Bool.false_or] at h
          exact h
        have ih := ih hp
        by_cases ej : k1 = j
        · subst ej
          rw [if_neg e]
          simp [valD, List.find?_cons, e]
        · simp only [valD, List.find?_cons, if_neg e, decide_eq_false ej] at ih ⊢
          exact ih
  · rw [if_neg h]
    have hn : ∀ p ∈ kvs, ¬ p.1 = k := fun p hp e => h (List.any_eq_true.mpr ⟨p, hp, decide_eq_true e⟩)
    unfold valD
    rw [List.find?_append]
    by_cases ej : j = k
    · subst ej
      rw [if_pos rfl, List.find?_eq_none.mpr (fun p hp => by simpa using hn p hp)]
      simp
    · rw [if_neg ej]
      have ne : ¬ k = j := fun z => ej z.symm
      cases e : kvs.find? fun kv => decide (kv.1 = j) with
      | some p => rfl
      | none => simp [ne]
theorem putKD_len (kvs : List (L2.Key × D)) (k : L2.Key) (d : D) : (putKD kvs k d).length ≤ kvs.length + 1 := by
  unfold putKD
  split
  · rw [List.length_map]; omega
  · rw [List.length_append]; exact Nat.le_refl _
/-- the dict holds, for each step value, the last index below k -/
structure La (ss : List Int) (k : Nat) (kvs : List (L2.Key × D)) : Prop where
  len : kvs.length ≤ k
  no : ∀ x, valD kvs (.inl x) = none → ∀ j, j < k → ss[j]? ≠ some x
  yes : ∀ x d, valD kvs (.inl x) = some d → ∃ j : Nat, d = .int (j : Int) ∧ j < k ∧ ss[j]? = some x ∧ ∀ j', j < j' → j' < k → ss[j']? ≠ some x
theorem la_nil (ss : List Int) : La ss 0 [] := ⟨Nat.le_refl _, fun x _ j h => absurd h (Nat.not_lt_zero j), fun x d h => by cases h⟩
theorem la_put {ss : List Int} {k : Nat} {kvs : List (L2.Key × D)} {s : Int} (h : La ss k kvs) (hs : ss[k]? = some s) : La ss (k + 1) (putKD kvs (.inl s) (.int (k : Int))) := by
  refine ⟨Nat.le_trans (putKD_len _ _ _) (Nat.succ_le_succ h.len), fun x hx j hj e => ?_, fun x d hx => ?_⟩
  · rw [valD_put] at hx
    by_cases ex : (Sum.inl x : L2.Key) = .inl s
    · rw [if_pos ex] at hx; cases hx
    · rw [if_neg ex] at hx
      by_cases ej : j = k
      · subst ej
        rw [hs] at e
        cases e
        exact ex rfl
      · exact h.no x hx j (by omega) e
  · rw [valD_put] at hx
    by_cases ex : (Sum.inl x : L2.Key) = .inl s
    · rw [if_pos ex] at hx
      cases hx
      cases ex
      exact ⟨k, rfl, Nat.lt_succ_self k, hs, fun j' h1 h2 => by omega⟩
    · rw [if_neg ex] at hx
      obtain ⟨j, e1, e2, e3, e4⟩ := h.yes x d hx
      refine ⟨j, e1, by omega, e3, fun j' h1 h2 e => ?_⟩
      by_cases ej : j' = k
      · subst ej
        rw [hs] at e
        cases e
        exact ex rfl
      · exact e4 j' h1 (by omega) e
/-! ### the levels of the package -/
abbrev LV := Int × Option Nat
structure Lev (ss : List Int) (L : List LV) : Prop where
  e : Ear ss (L.map (·.1))
  w : ∀ (i : Nat) (p : LV), L[i]? = some p → (p.1 = 1 ∧ p.2 = none) ∨ ∃ (j : Nat) (t s x : Int), p.2 = some j ∧ j < i ∧ ss[j]? = some t ∧ ss[i]? = some s ∧ nr t s ∧ (L.map (·.1))[j]? = some x ∧ p.1 = x + 1
/-! ### the greatest -/
theorem maxI_spec : ∀ (ns : List Int) (n : Int), maxI n ns ∈ n :: ns ∧ ∀ x ∈ n :: ns, x ≤ maxI n ns
  | [], n => ⟨List.mem_cons_self, fun x hx => by rw [List.mem_singleton.mp hx]; exact Int.le_refl _⟩
  | m :: ns, n => by
    obtain ⟨a, b⟩ := maxI_spec ns (max n m)
    have e : maxI n (m :: ns) = maxI (max n m) ns := rfl
    rw [e]
    have hm := b (max n m) List.mem_cons_self
    refine ⟨?_, fun x hx => ?_⟩
    · rcases List.mem_cons.mp a with h | h
      · rw [h]
        rcases Int.le_total n m with q | q
        · rw [Int.max_eq_right q]; exact List.mem_cons_of_mem _ List.mem_cons_self
        · rw [Int.max_eq_left q]; exact List.mem_cons_self
      · exact List.mem_cons_of_mem _ (List.mem_cons_of_mem _ h)
    · rcases List.mem_cons.mp hx with rfl | hx
      · omega
      · rcases List.mem_cons.mp hx with rfl | hx
        · omega
        · exact b x (List.mem_cons_of_mem _ hx)
theorem intsD_nums : ∀ l : List Int, intsD (nums l) = some l
  | [] => rfl
  | n :: l => by
    show (intsD (nums l)).map (n :: ·) = _
    rw [intsD_nums l]
    rfl
/-- the greatest of a list, at least 0 -/
structure Mx (E : List Int) (m : Int) : Prop where
  ge : ∀ x ∈ E, x ≤ m
  z : 0 ≤ m
  at_ : m = 0 ∨ m ∈ E
/-! ### the longest chain -/
/-- a step b that the step a waits for -/
def Wtf (ss : List Int) (a b : Nat) : Prop := b < a ∧ ∃ t s, ss[b]? = some t ∧ ss[a]? = some s ∧ nr t s
def Adj (ss : List Int) (C : List Nat) : Prop := ∀ (i a b : Nat), C[i]? = some a → C[i + 1]? = some b → Wtf ss a b
def natD (C : List Nat) : List Int := C.map fun (c : Nat) => (c : Int)
/-- what longest_chain answers -/
structure LC (ss : List Int) (m : Int) (C : List Nat) : Prop where
  len : (C.length : Int) = m
  adj : Adj ss C
  mem : ∀ x ∈ C, x < ss.length
/-! ### the schedule -/
def rowT (r : List Int) : D := .lst true (nums r)
/-! ### chains are chains -/
/-! ### the law -/
end DL

/-! DL132: dicts with tuples of numbers and texts as keys: {}, d[k], k in d, d[k] = v. -/
namespace DL
open PySem PySem.Spec PyProof.Rows L2
section
variable {κ : Type} [DecidableEq κ]
def valQ (kvs : List (κ × D)) (k : κ) : Option D := (kvs.find? fun kv => decide (kv.1 = k)).map (·.2)
def putQ (kvs : List (κ × D)) (k : κ) (d : D) : List (κ × D) :=
  if (kvs.any fun kv => decide (kv.1 = k)) = true then kvs.map (fun kv => if kv.1 = k then (kv.1, d) else kv) else kvs ++ [(k, d)]
theorem valQ_cons_pos {p : κ × D} {r : List (κ × D)} {k : κ} (e : p.1 = k) : valQ (p :: r) k = some p.2 := by simp [valQ, List.find?_cons, e]
theorem valQ_cons_neg {p : κ × D} {r : List (κ × D)} {k : κ} (e : ¬ p.1 = k) : valQ (p :: r) k = valQ r k := by simp [valQ, List.find?_cons, e]
theorem valQ_put (k j : κ) (d : D) : ∀ kvs : List (κ × D), valQ (putQ kvs k d) j = if j = k then some d else valQ kvs j := by
  have mp : ∀ kvs : List (κ × D), valQ (kvs.map fun kv => if kv.1 = k then (kv.1, d) else kv) j = (valQ kvs j).map fun x => if j = k then d else x := fun kvs => by
    induction kvs with
    | nil => rfl
    | cons p r ih =>
      rw [List.map_cons]
      by_cases e : p.1 = j
      · rw [valQ_cons_pos e]
        by_cases e2 : p.1 = k
        · rw [if_pos e2, valQ_cons_pos (p := (p.1, d)) e, Option.map_some, if_pos (e.symm.trans e2)]
        · rw [if_neg e2, valQ_cons_pos e, Option.map_some, if_neg (fun z => e2 (e.trans z))]
      · rw [valQ_cons_neg e, ← ih]
        by_cases e2 : p.1 = k
        · rw [if_pos e2, valQ_cons_neg (p := (p.1, d)) e]
        · rw [if_neg e2, valQ_cons_neg e]
  have an : ∀ kvs : List (κ × D), (kvs.any fun kv => decide (kv.1 = k)) = (valQ kvs k).isSome := fun kvs => by
    induction kvs with
    | nil => rfl
    | cons p r ih =>
      rw [List.any_cons]
      by_cases e : p.1 = k
      · rw [decide_eq_true e, Bool.true_or, valQ_cons_pos e]; rfl
      · rw [decide_eq_false e, Bool.false_or, valQ_cons_neg e, ih]
  have ap : ∀ kvs : List (κ × D), valQ kvs k = none → valQ (kvs ++ [(k, d)]) j = if j = k then some d else valQ kvs j := fun kvs => by
    induction kvs with
    | nil =>
      intro _
      by_cases e : k = j
      · rw [List.nil_append, valQ_cons_pos e, if_pos e.symm]
      · rw [List.nil_append, valQ_cons_neg e, if_neg fun z => e z.symm]
    | cons p r ih =>
      intro h
      by_cases e : p.1 = k
      · rw [valQ_cons_pos e] at h; cases h
      · rw [valQ_cons_neg e] at h
        rw [List.cons_append]
        by_cases e2 : p.1 = j
        · rw [valQ_cons_pos e2, valQ_cons_pos e2, if_neg fun z => e (e2.trans z)]
        · rw [valQ_cons_neg e2, valQ_cons_neg e2, ih h]
  intro kvs
  unfold putQ
  by_cases h : (kvs.any fun kv => decide (kv.1 = k)) = true
  · rw [if_pos h, mp]
    rw [an] at h
    by_cases e : j = k
    · subst e
      obtain ⟨x, hx⟩ := Option.isSome_iff_exists.mp h
      rw [hx, Option.map_some, if_pos rfl, if_pos rfl]
    · rw [if_neg e]
      cases valQ kvs j with
      | none => rfl
      | some x => rw [Option.map_some, if_neg e]
  · rw [if_neg h]
    refine ap kvs ?_
    rw [an] at h
    simpa using h
end
section
variable {ca : Nat → Addr} {K : PySem.W.Frag} {Hf H Hf1 H1 Hf2 H2 : Hp} {S S1 S2 P P1 P2 : Rg} {R R1 R2 : Nat → Rg} {pp qq : Prop} {σ σ' : L2.St} {st st' : Sl} {v : V} {d : D} {vs : List V} {ds : List D} {X : Cx} {L : List Nat}
end
end DL

/-! DL133: {k: v}, one pair, k a tuple of numbers and texts. -/
namespace DL
open PySem PySem.Spec PyProof.Rows L2
def two (f : V → V → Hp → Prop) : List V → Hp → Prop
  | [x, y], H => f x y H
  | _, _ => False
section
variable {ca : Nat → Addr} {K : PySem.W.Frag} {Hf H Hf1 H1 Hf2 H2 : Hp} {S P : Rg} {R R1 R2 : Nat → Rg} {pp qq : Prop} {σ : L2.St} {st : Sl} {v : V} {d : D} {vs : List V} {ds : List D} {X : Cx}
end
end DL

/-! DL134: tuple(range(a, b)). -/
namespace DL
open PySem PySem.Spec PyProof.Rows L2
section
variable {ca : Nat → Addr} {K : PySem.W.Frag} {X : Cx}
end
end DL

set_option maxHeartbeats 1000000
/-! DL135: tuple(range(a, b, -1)); displays with starred items; xs.pop(e). -/
namespace DL
open PySem PySem.Spec PyProof.Rows L2
/-! ### tuple(range(a, b, -1)) -/
section
variable {ca : Nat → Addr} {K : PySem.W.Frag} {X : Cx}
end

/-! ### displays with starred items -/
section
variable {ca : Nat → Addr} {K : PySem.W.Frag} {Hf H Hf1 H1 Hf2 H2 : Hp} {S S1 S2 P P1 P2 : Rg} {R R1 R2 : Nat → Rg} {pp qq : Prop} {σ σ' : L2.St} {st st' : Sl} {v : V} {d : D} {vs : List V} {ds xs : List D} {X : Cx} {L : List Nat}
/-! ### xs.pop(e), xs a slot's own list -/
end
end DL

/-! DL136 (Nw): rounds of steps, the fewest rounds, the two searches for them (the plain part of k57's law). -/
namespace Nw
/-- the rounds of steps up to n: ascending, two apart -/
def rds : Nat → List (List Int)
  | 0 => [[]]
  | n + 1 => rds n ++ ((rds n).filter fun r => r.all fun t => decide (2 ≤ ((n : Int) + 1) - t)).map fun r => r ++ [(n : Int) + 1]
/-- what k rounds make of the descending list -/
def rch (w : Nat) : Nat → List Int → Prop
  | 0, v => v = desc w
  | k + 1, v => ∃ u r, rch w k u ∧ r ∈ rds (w - 1) ∧ v = runL r u
/-- .. and no fewer -/
def mn (w k : Nat) (v : List Int) : Prop := rch w k v ∧ ∀ j, j < k → ¬ rch w j v
section
variable {w : Nat}
/-! ### the search with a queue -/
structure BI (w : Nat) (n : Nat) (M : List (List Int × Int)) (Q1 Q2 : List (List Int)) : Prop where
  nd : (M.map (·.1)).Nodup
  val : ∀ v m, (v, m) ∈ M → ∃ k : Nat, m = (k : Int) ∧ k ≤ n + 1 ∧ mn w k v
  two : ∀ v, (v, ((n + 1 : Nat) : Int)) ∈ M ↔ v ∈ Q2
  one : ∀ v ∈ Q1, (v, (n : Int)) ∈ M
  all : ∀ v j, mn w j v → j ≤ n → (v, (j : Int)) ∈ M
  proc : ∀ u, (u, (n : Int)) ∈ M → u ∉ Q1 → ∀ r ∈ rds (w - 1), ∃ m, (runL r u, m) ∈ M
variable {n : Nat} {M : List (List Int × Int)} {Q1 Q2 : List (List Int)}
/-! ### the search by levels -/
structure LI (w c : Nat) (Ks Lv : List (List Int)) : Prop where
  nd : Ks.Nodup
  k : ∀ v, v ∈ Ks ↔ rch w c v
  l : ∀ v, v ∈ Lv ↔ mn w c v
/-- amid a level: what has been seen, the next level so far; P: what has been tried -/
structure LJ (w c : Nat) (Ks Lv K2 F : List (List Int)) (P : List Int → List Int → Prop) : Prop where
  nd : K2.Nodup
  len : K2.length = Ks.length + F.length
  k : ∀ v, v ∈ K2 ↔ v ∈ Ks ∨ v ∈ F
  f : ∀ v ∈ F, v ∉ Ks ∧ ∃ u r, u ∈ Lv ∧ r ∈ rds (w - 1) ∧ v = runL r u
  done : ∀ u r, P u r → runL r u ∈ K2
variable {c : Nat} {Ks Lv K2 F : List (List Int)} {P P' : List Int → List Int → Prop}
/-! ### the full networks -/
theorem stay : ∀ (r : List Int) (v : List Int) (j : Nat), (∀ t ∈ r, (j : Int) + 2 ≤ t ∧ t < v.length) → (runL r v).getD j 0 = v.getD j 0
  | [], v, j, _ => rfl
  | t :: r, v, j, h => by
    have h0 := h t List.mem_cons_self
    obtain ⟨i, hi⟩ : ∃ i : Nat, t = (i : Int) + 1 := ⟨(t - 1).toNat, by omega⟩
    have e := sN_get (l := v) (i := i) (by omega) j
    rw [if_neg (by omega), if_neg (by omega)] at e
    have l : (stp v t).length = v.length := stp_len v t
    show (runL r (stp v t)).getD j 0 = _
    rw [stay r (stp v t) j fun q hq => by rw [l]; exact h q (List.mem_cons_of_mem _ hq)]
    subst hi
    exact e
end
end Nw

/-! DL137 (Nw): the steps of a network level by level; the depth is never less than the fewest rounds. -/
namespace Nw
abbrev In (n : Int) (ss : List Int) : Prop := ∀ s ∈ ss, 1 ≤ s ∧ s < n
/-! ### level by level -/
end Nw
namespace DL
open Nw
end DL

set_option maxHeartbeats 1000000
/-! DL138: sum(xs, []), xs a list of lists. -/
namespace DL
open PySem PySem.Spec PyProof.Rows L2
theorem args_sum2 (a b : Value) : argsOk "sum" ⟨[a, b], []⟩ := by unfold argsOk; kernel_rfl
theorem sub_list_bytearray0 : isSubtype (.type "list") (.type "bytearray") = pure false := by rw [isSubtype_type]; kernel_rfl
def catFrom (row : Nat → List Value) (n : Nat) : Nat → List Value
  | 0 => []
  | k + 1 => row (n - (k + 1)) ++ catFrom row n k
section
variable {prog : Program} {w : World} {A : Around} {E : Value → Shared → Prop}
/-- the turns: T the sum so far -/
theorem sumL_loop {I : Addr} {fp wr : List Addr} {n : Nat} {P : Nat → Value → Prop} {St : Nat → Heap → Prop} {R : Result → Shared → Prop} {S : Addr} {h0 : Heap} (W : Walks prog w A.in1 I fp wr n P St) (row : Nat → List Value) (hSf : S ∉ fp) (hS0 : h0.objs.size ≤ S) (hw0 : ∀ b ∈ wr, h0.objs.size ≤ b)
    (hP : ∀ i v, P i v → ∃ b, v = .ref b ∧ h0.IsList b (row i).toArray) (hwS : ∀ i h, St i h → ∀ b ∈ wr, ∃ o, h.get? b = some o) : ∀ (k i : Nat) (s : Shared) (T : Addr) (acc : List Value) (c : Nat), n - i = k → i ≤ n → St i s.heap → s.heap.get? S = some { cls := .type "list", dict := none, data := .seq #[.ref T] c, slots := #[] } →
    s.heap.PlainList T acc.toArray → T ∉ wr → T ≠ S → (∀ b o, h0.get? b = some o → s.heap.get? b = some o) → acc.length + (catFrom row n k).length ≤ sizeLine →
    (∀ h' tk T', (∀ b o, h0.get? b = some o → h'.get? b = some o) → h'.PlainList T' (acc ++ catFrom row n k).toArray → ((k = 0 ∧ T' = T) ∨ h0.objs.size ≤ T') → R (.ok (.ret (.ref T'))) { s with heap := h', toks := tk }) →
    codeAny (model prog w) A (.builtin "sum.loop" ⟨[.ref I, .ref S, rawInt 2, rawInt 0], []⟩) R s := by
  have hSw : S ∉ wr := fun h => hSf (W.sub _ h)
  intro k
  induction k with
  | zero =>
    intro i s T acc c hk hi hst hS hT hTw hTS hkeep hlen hR
    have e : i = n := by omega
    subst e
    refine codeAny_builtin F.entry_sum_loop ?_
    rw [Around.under_plainId F.plain_sum_loop _]
    show wpAny _ A.in1 (seqItems? (.ref S) >>= _) _ _ s
    refine wpAny_bind (wpAny_seqItems hS rfl ?_)
    show wpAny _ A.in1 (tryCatch (pyNext (.ref I)) _ >>= _) _ _ s
    refine wpAny_bind (wpAny_tryCatch (W.done s _ _ hst fun h' tk hm => ?_))
    refine wpAny_pure (hR h' tk T (fun b o e => hm b o (fun z => ?_) (hkeep b o e)) ?_ (.inl ⟨rfl, rfl⟩))
    rotate_left
    · show h'.PlainList T (acc ++ []).toArray
      rw [List.append_nil]
      exact hT.at fun o e => hm T o hTw e
    exact absurd (Nat.lt_of_lt_of_le (Heap.lt_size e) (hw0 b z)) (Nat.lt_irrefl _)
  | succ k ih =>
    intro i s T acc c hk hi hst hS hT hTw hTS hkeep hlen hR
    have hlt : i < n := by omega
    have en : n - (k + 1) = i := by omega
    have ec : catFrom row n (k + 1) = row i ++ catFrom row n k := by show row (n - (k + 1)) ++ _ = _; rw [en]
    refine codeAny_builtin F.entry_sum_loop ?_
    rw [Around.under_plainId F.plain_sum_loop _]
    show wpAny _ A.in1 (seqItems? (.ref S) >>= _) _ _ s
    refine wpAny_bind (wpAny_seqItems hS rfl ?_)
    show wpAny _ A.in1 (tryCatch (pyNext (.ref I)) _ >>= _) _ _ s
    refine wpAny_bind (wpAny_tryCatch (W.item i s _ _ hlt hst fun v h' tk hv hst' hm => ?_))
    obtain ⟨b, rfl, hb⟩ := hP i v hv
    have k0 : ∀ b o, h0.get? b = some o → h'.get? b = some o := fun b o e => hm b o (fun z => absurd (Nat.lt_of_lt_of_le (Heap.lt_size e) (hw0 b z)) (Nat.lt_irrefl _)) (hkeep b o e)
    have hS' := hm S _ hSw hS
    obtain ⟨⟨c1, d1, data1, sl1⟩, ho1, hc1, n1, hd1⟩ : h'.IsList T acc.toArray := (hT.at fun o e => hm T o hTw e).isList
    obtain ⟨⟨c2, d2, data2, sl2⟩, ho2, hc2, n2, hd2⟩ : h'.IsList b (row i).toArray := let ⟨o, e, r⟩ := hb; ⟨o, k0 b o e, r⟩
    simp only at hc1 hd1 hc2 hd2
    subst hc1 hd1 hc2 hd2
    show wpAny _ A.in1 ((holding [Value.ref b] (binaryOp .Add (.ref T) (.ref b))).attempt >>= _) _ _ _
    have lb : acc.length + ((row i).length + (catFrom row n k).length) ≤ sizeLine := by rw [ec, List.length_append] at hlen; exact hlen
    refine wpAny_bind (wpAny_attempt (wpAny_holding ?_))
    refine concat_meets (s := { s with heap := h', toks := tk }) ⟨_, ho1, rfl⟩ ⟨_, ho2, rfl⟩ noFill_list_add seq_list_add PySem.F.slot_list_add PySem.F.entry_list_add (PySem.F.args_list_add_2 _ _) (list_addW T b acc.toArray (row i).toArray n1 n2 d1 d2 sl1 sl2 (by simp; omega)) ⟨ho1, ho2, ?_⟩
    have pk : ∀ c o, h'.get? c = some o → (h'.push { cls := .type "list", data := .seq (acc.toArray ++ (row i).toArray) }).get? c = some o := fun c o e => Heap.get?_push_of_some _ e
    have hS2 := pk S _ hS'
    show wpAny _ A.in1 (updateSeq S (fun _ => #[Value.ref h'.objs.size]) >>= _) _ _ _
    refine wpAny_bind (wpAny_updateSeq hS2 rfl ?_)
    have hS3 := Heap.get?_update_self (Obj.mapSeq fun _ => #[Value.ref h'.objs.size]) hS2 rfl
    have u1 : ∀ c o, c ≠ S → h'.get? c = some o → ((h'.push { cls := .type "list", data := .seq (acc.toArray ++ (row i).toArray) }).update S (Obj.mapSeq fun _ => #[Value.ref h'.objs.size])).get? c = some o := fun c o n e => (Heap.get?_update_other _ _ (Ne.symm n)).trans (pk c o e)
    refine wpAny_bind (wpAny_letGo ?_)
    refine wpAny_bind (wpAny_updateSeq hS3 rfl ?_)
    have hS4 := Heap.get?_update_self (Obj.mapSeq fun _ => #[Value.ref h'.objs.size]) hS3 rfl
    have u2 : ∀ c o, c ≠ S → h'.get? c = some o → (((h'.push { cls := .type "list", data := .seq (acc.toArray ++ (row i).toArray) }).update S (Obj.mapSeq fun _ => #[Value.ref h'.objs.size])).update S (Obj.mapSeq fun _ => #[Value.ref h'.objs.size])).get? c = some o := fun c o n e => (Heap.get?_update_other _ _ (Ne.symm n)).trans (u1 c o n e)
    have Sne : h'.objs.size ≠ S := Nat.ne_of_gt (Heap.lt_size hS')
    have newT : (((h'.push { cls := .type "list", data := .seq (acc.toArray ++ (row i).toArray) }).update S (Obj.mapSeq fun _ => #[Value.ref h'.objs.size])).update S (Obj.mapSeq fun _ => #[Value.ref h'.objs.size])).get? h'.objs.size = some { cls := .type "list", data := .seq (acc.toArray ++ (row i).toArray) } :=
      (Heap.get?_update_other _ _ (Ne.symm Sne)).trans ((Heap.get?_update_other _ _ (Ne.symm Sne)).trans (Heap.get?_push_size _ rfl))
    have ea : acc.toArray ++ (row i).toArray = (acc ++ row i).toArray := by simp
    rw [ea] at newT u2 hS4 ⊢
    have S0 : ∀ c o, h0.get? c = some o → c ≠ S := fun c o e z => absurd (Nat.lt_of_lt_of_le (Heap.lt_size e) (by rw [z]; exact hS0)) (Nat.lt_irrefl _)
    have big : h0.objs.size ≤ h'.objs.size := Nat.le_trans hS0 (Nat.le_of_lt (Heap.lt_size hS'))
    refine wpAny_pure ⟨plainId_quiet F.plain_sum_loop _, ih (i + 1) { s with heap := _, toks := tk } h'.objs.size (acc ++ row i) _ (by omega) hlt (W.frame _ _ _ hst' fun c hc o e => u2 c o (fun z => hSf (z ▸ hc)) e) hS4 ⟨0, newT⟩ (fun z => ?_) Sne
      (fun c o e => u2 c o (S0 c o e) (k0 c o e)) (by rw [List.length_append]; omega) fun h2 tk2 T' hk2 hT' hn' => ?_⟩
    · obtain ⟨o, ho⟩ := hwS _ _ hst' _ z
      exact absurd (Heap.lt_size ho) (Nat.lt_irrefl _)
    · refine hR h2 tk2 T' hk2 ?_ (.inr ?_)
      · rw [ec, ← List.append_assoc]
        exact hT'
      · rcases hn' with ⟨_, rfl⟩ | hn'
        · exact big
        · exact hn'
/-- the call -/
theorem call_sumL {l T0 : Addr} {rows : List Value} {row : Nat → List Value} {s : Shared} {Q : Value → Shared → Prop} (hh : A.handled = none) (hl : s.heap.IsList l rows.toArray) (hT : s.heap.PlainList T0 #[]) (hrow : ∀ i v, rows[i]? = some v → ∃ b, v = .ref b ∧ s.heap.IsList b (row i).toArray)
    (hlen : (catFrom row rows.length rows.length).length ≤ sizeLine)
    (hq : ∀ h' tk T', (∀ b o, s.heap.get? b = some o → h'.get? b = some o) → h'.PlainList T' (catFrom row rows.length rows.length).toArray → ((rows.length = 0 ∧ T' = T0) ∨ s.heap.objs.size ≤ T') → Q (.ref T') { s with heap := h', toks := tk }) :
    wpAny (model prog w) A (call (.builtin "sum") [.ref l, .ref T0]) Q E s := by
  refine call_function_tree F.kind_sum F.plain_sum F.entry_sum (args_sum2 _ _) ?_
  unfold Builtin.«sum»
  simp only [List.length_cons, List.length_nil]
  rw [if_neg (by decide)]
  refine wpAny_bind (wpAny_of_eq (show Builtin.Builtins.bindParams "sum" ["start"] 0 ⟨[Value.ref T0], []⟩ = pure [some (Value.ref T0)] from rfl) ?_)
  refine wpAny_bind (wpAny_pyIter_list hl ?_)
  refine wpAny_bind (wpAny_pure ?_)
  have lT : T0 < s.heap.objs.size := by obtain ⟨n, e⟩ := hT; exact Heap.lt_size e
  have ll : l < s.heap.objs.size := by obtain ⟨o, ho, _⟩ := hl; exact Heap.lt_size ho
  have k1 : ∀ b o, s.heap.get? b = some o → (s.heap.push { cls := .type "list_iterator", data := .fields #[.ref l, .int 0 0] }).get? b = some o := fun b o e => Heap.get?_push_of_some _ e
  have tyT : Shared.TypeIs { s with heap := s.heap.push { cls := .type "list_iterator", data := .fields #[.ref l, .int 0 0] } } (.ref T0) "list" := (hT.at fun o e => k1 T0 o e).isList.typeIs
  simp only [List.forIn_cons, List.forIn_nil]
  refine wpAny_bind (wpAny_bind (wpAny_bind (wpAny_isInstance (T := "list") (b := false) tyT F.sub_list_str ?_)))
  simp only [Bool.false_eq_true, if_false]
  refine wpAny_pure (wpAny_bind (wpAny_bind (wpAny_isInstance (T := "list") (b := false) tyT F.sub_list_bytes ?_)))
  simp only [Bool.false_eq_true, if_false]
  refine wpAny_pure (wpAny_bind (wpAny_bind (wpAny_isInstance (T := "list") (b := false) tyT sub_list_bytearray0 ?_)))
  simp only [Bool.false_eq_true, if_false]
  refine wpAny_pure (wpAny_pure ?_)
  refine wpAny_bind (wpAny_newObj_type ?_)
  have hh1 : A.in1.handled = none := hh
  have W := Walks.list (prog := prog) (w := w) (A := A.in1) hh1 s.heap.objs.size l (Nat.ne_of_lt ll) rows.toArray
  have sz1 : (s.heap.push { cls := .type "list_iterator", data := .fields #[.ref l, .int 0 0] }).objs.size = s.heap.objs.size + 1 := Heap.size_push ..
  have k2 : ∀ b o, s.heap.get? b = some o → ((s.heap.push { cls := .type "list_iterator", data := .fields #[.ref l, .int 0 0] }).push { cls := .type "list", data := .seq #[Value.ref T0] }).get? b = some o := fun b o e => Heap.get?_push_of_some _ (k1 b o e)
  refine wpAny_pure ⟨plainId_quiet F.plain_sum_loop _, sumL_loop (A := A) (h0 := s.heap) W row (S := (s.heap.push { cls := .type "list_iterator", data := .fields #[.ref l, .int 0 0] }).objs.size) (fun z => ?_) (by rw [sz1]; exact Nat.le_succ _) (fun b hb => ?_) (fun i v hv => hrow i v (by simpa using hv)) (fun i h st b hb => ?_)
    rows.length 0 _ T0 [] 0 (by simp) (Nat.zero_le _) ⟨⟨_, Heap.get?_push_of_some _ (Heap.get?_push_size _ rfl), rfl, rfl⟩, (hl.push _).push _⟩ (Heap.get?_push_size _ rfl) (hT.at fun o e => k2 T0 o e) (fun z => ?_) (Nat.ne_of_lt (by rw [sz1]; exact Nat.lt_succ_of_lt lT)) k2 (by simpa using hlen) fun h' tk T' hk hT' hn => ?_⟩
  · rw [sz1] at z
    simp at z
    exact absurd z (Nat.ne_of_gt (Nat.lt_succ_of_lt ll))
  · rw [List.mem_singleton.mp hb]
    exact Nat.le_refl _
  · rw [List.mem_singleton.mp hb]
    obtain ⟨⟨o, ho, _⟩, _⟩ := st
    exact ⟨o, ho⟩
  · rw [List.mem_singleton] at z
    exact absurd z (Nat.ne_of_lt lT)
  · have hT2 : h'.PlainList T' (catFrom row rows.length rows.length).toArray := by simpa using hT'
    exact hq h' tk T' hk hT2 hn
end
section
variable {X : Cx} {pins : List (Addr × Obj)} {σ : L2.St} {H : Hp} {s : Shared}
/-- a list is let go of -/
theorem Inv.untrack {b : Addr} {xs : List V} (I : Inv X pins σ H s) (hb : H b = some (.lst xs)) : Inv X pins σ (fun c => if c = b then none else H c) s := by
  have ne : ∀ {c : Addr} {o : HO}, H c = some o → (∀ ys, o ≠ .lst ys) → c ≠ b := fun e n z => by
    rw [z, hb] at e
    cases e
    exact n _ rfl
  have off : ∀ {c : Addr}, H c = none → (if c = b then none else H c) = none := fun {c} e => by
    by_cases z : c = b
    · rw [if_pos z]
    · rw [if_neg z]; exact e
  have on : ∀ {c : Addr} {o : HO}, H c = some o → (∀ ys, o ≠ .lst ys) → (if c = b then none else H c) = some o := fun e n => by rw [if_neg (ne e n)]; exact e
  refine ⟨I.ok, I.os, I.bare, ⟨I.base.keep, I.base.slot, fun c o e n hx => off (I.base.free c o e n hx), I.base.there, fun c ys e => on (I.base.tups c ys e) (fun _ z => nomatch z), fun c o u e => on (I.base.frzs c o u e) (fun _ z => nomatch z), fun c ps e => ?_⟩, I.loc, I.cell, off I.free, fun x c e => off (I.freeC x c e), fun p hp => ?_, fun c o e => ?_, I.len⟩
  · obtain ⟨m, q⟩ := I.base.tbls c ps e
    exact ⟨m, on q fun _ z => nomatch z⟩
  · obtain ⟨e, n, r⟩ := I.pin p hp
    exact ⟨e, off n, r⟩
  · by_cases z : c = b
    · rw [if_pos z] at e; cases e
    · rw [if_neg z] at e
      exact (I.hok c o e).stay (fun _ _ _ q => q) (fun d q => on q fun _ z => nomatch z) fun d ys q => on q fun _ z => nomatch z
def rSumL (K : PySem.W.Frag) : List V → Hp → VK → Prop := fun vs H Q => ∃ (a b : Addr) (rs : List Addr) (its : List (List V)), vs = [.ref a, .ref b] ∧ H b = some (.lst []) ∧ SqL K H a (rs.map V.ref) ∧ Paired (fun r xs => SqL K H r xs) rs its ∧ its.flatten.length ≤ sizeLine ∧
  ∀ p, (if p = b then none else H p) = none → Q (.ref p) (upd (fun c => if c = b then none else H c) p (.lst its.flatten))
theorem cat_flat (row : Nat → List Value) (L : List (List Value)) : ∀ (k : Nat), k ≤ L.length → (∀ i (h : i < L.length), row i = L[i]) → catFrom row L.length k = (L.drop (L.length - k)).flatten
  | 0, _, _ => by rw [Nat.sub_zero, List.drop_length]; rfl
  | k + 1, hk, h => by
    have h1 : L.length - (k + 1) < L.length := by omega
    show row (L.length - (k + 1)) ++ catFrom row L.length k = _
    rw [cat_flat row L k (by omega) h, h _ h1, List.drop_eq_getElem_cons h1, List.flatten_cons, show L.length - (k + 1) + 1 = L.length - k by omega]
theorem vals_flat : ∀ {its : List (List V)} {L : List (List Value)}, Paired Vals its L → Vals its.flatten L.flatten
  | _, _, .nil => .nil
  | _, _, .cons h r => h.append (vals_flat r)
theorem vals_refs : ∀ {rs : List Addr} {as : List Value}, Vals (rs.map V.ref) as → as = rs.map Value.ref
  | [], _, .nil => rfl
  | x :: rs, _ :: _, .cons h r => by
    have h : _ = Value.ref x := h
    rw [List.map_cons, ← vals_refs r, h]
theorem rows_vals (I : Inv X pins σ H s) {rs : List Addr} {its : List (List V)} (h : Paired (fun r xs => SqL X.K H r xs) rs its) : ∃ L : List (List Value), Paired Vals its L ∧ L.length = rs.length ∧ ∀ (i : Nat) (r : Addr) (ws : List Value), rs[i]? = some r → L[i]? = some ws → s.heap.IsList r ws.toArray := by
  induction h with
  | nil => exact ⟨[], .nil, rfl, fun i r ws h => by simp at h⟩
  | @cons x xs rs its h1 h2 ih =>
    obtain ⟨L, pL, lL, gL⟩ := ih
    obtain ⟨ws, rw', pw, _⟩ := I.list h1
    refine ⟨ws :: L, .cons rw' pL, by simp [lL], fun i r zs e1 e2 => ?_⟩
    cases i with
    | zero => simp at e1 e2; subst e1 e2; exact pw.isList
    | succ i => exact gL i r zs (by simpa using e1) (by simpa using e2)
theorem cr_sumL (hc : X.calm = true) : CallR X (.builtin "sum") (rSumL X.K) := by
  intro pins s σ H vs us Q I r h
  obtain ⟨a, b, rs, its, rfl, hb, ha, hp, hz, q⟩ := h
  obtain rfl : us = [.ref a, .ref b] := vals_refs (rs := [a, b]) r
  obtain ⟨as, rv, pl, _⟩ := I.list ha
  obtain rfl := vals_refs rv
  obtain ⟨_, ns, c0, nv, eb⟩ := I.hok b _ hb
  have en : ns = [] := by cases nv; rfl
  subst en
  obtain ⟨L, pL, lL, gL⟩ := rows_vals I hp
  have cf : catFrom (fun i => L.getD i []) L.length L.length = L.flatten := by
    have := cat_flat (fun i => L.getD i []) L L.length (Nat.le_refl _) fun i h => by simp [h]
    rw [this, Nat.sub_self, List.drop_zero]
  have lr : (rs.map Value.ref).length = L.length := by rw [List.length_map, lL]
  have vf := vals_flat pL
  have lf : L.flatten.length = its.flatten.length := vf.length.symm
  refine call_sumL (row := fun i => L.getD i []) (I.ok.hd hc) pl.isList ⟨c0, eb⟩ (fun i v hv => ?_) (by rw [lr, cf, lf]; exact hz) fun h' tk T' hk hT hn => ?_
  · rw [List.getElem?_map] at hv
    cases er : rs[i]? with
    | none => rw [er] at hv; cases hv
    | some x =>
      rw [er] at hv
      cases hv
      have hi : i < L.length := by have := (List.getElem?_eq_some_iff.mp er).1; omega
      refine ⟨x, rfl, gL i x _ er ?_⟩
      simp [hi]
  · rw [lr, cf] at hT
    have I1 : Inv X pins σ H { s with heap := h', toks := tk } := I.kept hk
    have J := Inv.untrack I1 hb
    obtain ⟨c1, e1⟩ := hT
    rcases hn with ⟨hn, rfl⟩ | hn
    · have hr : rs = [] := List.length_eq_zero_iff.mp (by rw [List.length_map] at hn; exact hn)
      subst hr
      have hi : its = [] := by cases hp; rfl
      subst hi
      have back : upd (fun c => if c = T' then none else H c) T' (.lst (([] : List (List V)).flatten)) = H := by
        funext c
        unfold upd
        by_cases z : c = T'
        · rw [if_pos z, z, hb]; rfl
        · rw [if_neg z]
          show (if c = T' then none else H c) = H c
          rw [if_neg z]
      have q2 := q T' (by rw [if_pos rfl])
      rw [back] at q2
      exact ⟨.ref T', H, I1, rfl, q2⟩
    · have new : ObjOk X.prog X.w (upd (fun c => if c = b then none else H c) T' (.lst its.flatten)) h' T' (.lst its.flatten) := ⟨hz, L.flatten, c1, vf, e1⟩
      have hn0 : (if T' = b then none else H T') = none := by
        by_cases z : T' = b
        · rw [if_pos z]
        · rw [if_neg z]; exact I.hok.fresh hn
      exact ⟨.ref T', _, (Inv.untrack I hb).laid (t' := tk) hk hn new, rfl, q T' hn0⟩
end
def rowsD : List D → Option (List (List D))
  | [] => some []
  | x :: xs => match lstItems x with
    | some ys => if colds ys then (rowsD xs).map (ys :: ·) else none
    | none => none
def oSumL : List D → Option Out
  | [x] => match lstItems x with
    | some xs => match rowsD xs with
      | some L => if L.flatten.length ≤ 16777216 then some (.newL L.flatten) else none
      | none => none
    | none => none
  | _ => none
section
variable {ca : Nat → Addr} {K : PySem.W.Frag} {Hf H : Hp} {S : Rg} {vs : List V} {ds xs : List D} {X : Cx}
theorem rep_ints0 : ∀ l : List Int, RepL ca K Hf H Em (l.map V.int) (l.map D.int)
  | [] => .nil
  | x :: l => .cons (S1 := Em) (S2 := Em) .int (rep_ints0 l) (fun _ q => q) (fun _ q => q) fun _ q _ => q
theorem rep_item (hx : Ex Hf H) {v : V} {d : D} {T : Rg} {ys : List D} (r : Rep ca K Hf H T v d) (h : lstItems d = some ys) (hc : colds ys = true) : ∃ a us, v = .ref a ∧ SqL K H a us ∧ RepL ca K Hf H Em us ys := by
  cases r with
  | lstF e r => cases h; exact ⟨_, _, rfl, .inl (.inl (hx _ _ e)), r⟩
  | lstO s e r => cases h; exact ⟨_, _, rfl, .inl (.inl e), repL_cold r hc⟩
  | scr q =>
    rename_i a xs
    cases h
    exact ⟨a, xs.map V.int, rfl, sqL_ex hx q, rep_ints0 xs⟩
  | _ => cases h
theorem rows_rep0 (hx : Ex Hf H) : ∀ {xs : List D} {vs : List V} {T : Rg} {L : List (List D)}, RepL ca K Hf H T vs xs → rowsD xs = some L → ∃ (rs : List Addr) (its : List (List V)), vs = rs.map V.ref ∧ Paired (fun r us => SqL K H r us) rs its ∧ RepL ca K Hf H Em its.flatten L.flatten
  | [], _, _, _, r, h => by
    cases r
    cases h
    exact ⟨[], [], rfl, .nil, .nil⟩
  | x :: xs, _, _, _, .cons r1 r2 _ _ _, h => by
    unfold rowsD at h
    cases e1 : lstItems x with
    | none => rw [e1] at h; cases h
    | some ys =>
      rw [e1] at h
      dsimp only at h
      by_cases hc : colds ys = true
      · rw [if_pos hc] at h
        cases e2 : rowsD xs with
        | none => rw [e2] at h; cases h
        | some L =>
          rw [e2] at h
          cases h
          obtain ⟨a, us, rfl, q, ra⟩ := rep_item hx r1 e1 hc
          obtain ⟨rs, its, rfl, p, rb⟩ := rows_rep0 hx r2 e2
          exact ⟨a :: rs, us :: its, rfl, .cons q p, repL_app' (S1 := Em) (S2 := Em) ra rb (fun _ q => q) (fun _ q => q) fun _ q _ => q⟩
      · rw [if_neg hc] at h; cases h
theorem ce_sumL {e : Expr} {oa : Opd} {p lp pos : Pos} (hc : X.calm = true) (hg : Gl X "sum") (hm : X.mg "sum" = none) (ha : CO ca X e oa)
    (hs : starEach [e, .List [] lp] X.env = (false, eval e X.env) :: starEach [.List [] lp] X.env := by rfl) (hs2 : starEach [.List [] lp] X.env = (false, eval (.List [] lp) X.env) :: starEach [] X.env := by rfl) (hpl : (backTo pos (starEach [.List [] lp] X.env)).any (·.1) = false := by rfl) :
    CE ca X (.Call (.Name "sum" p) [e, .List [] lp] [] pos) (eOp oSumL [oa]) := by
  refine ce_op (es := [e]) (rl := fun vs H Q => ∃ (a : Addr) (rs : List Addr) (its : List (List V)), vs = [.ref a] ∧ SqL X.K H a (rs.map V.ref) ∧ Paired (fun r us => SqL X.K H r us) rs its ∧ its.flatten.length ≤ sizeLine ∧ ∀ p, H p = none → Q (.ref p) (upd H p (.lst its.flatten))) (fun σ H Q h => ?_) (.cons ha .nil) ?_
  · refine we_of (pe_callB (cr_sumL hc) hg hm boot_sum (pa_cons (we_pe X e) (pa_cons (pe_lst pa_nil) pa_nil hs2) hs) (by decide) (by decide) hs hpl) ?_
    refine We.mk fun pins s I => thn (We.run h pins s I) fun u s1 ⟨x, H1, I1, r1, a, rs, its, ex, q1, q2, q3, q4⟩ => ⟨x, H1, I1, r1, ?_⟩
    cases ex
    refine ⟨Nat.zero_le _, fun b hb => ?_⟩
    have ext : ∀ {c : Addr} {us : List V}, SqL X.K H1 c us → SqL X.K (upd H1 b (.lst [])) c us := fun q => sqL_ex (fun c o e => upd_keep hb c o e) q
    have pe : Paired (fun r us => SqL X.K (upd H1 b (.lst [])) r us) rs its := by
      clear q1 q3 q4
      induction q2 with
      | nil => exact .nil
      | cons h1 _ ih => exact .cons (ext h1) ih
    refine ⟨a, b, rs, its, rfl, upd_same, ext q1, pe, q3, fun p hp => ?_⟩
    have back : (fun c => if c = b then none else upd H1 b (.lst []) c) = H1 := by
      funext c
      by_cases z : c = b
      · rw [if_pos z, z, hb]
      · rw [if_neg z, upd_ne z]
    rw [back]
    refine q4 p ?_
    have := congrFun back p
    exact this ▸ hp
  · intro Hf H vs ds o Q hx rd h q
    match ds, h with
    | [x], h =>
      dsimp only [oSumL] at h
      cases e1 : lstItems x with
      | none => rw [e1] at h; cases h
      | some xs =>
        rw [e1] at h
        dsimp only at h
        cases e2 : rowsD xs with
        | none => rw [e2] at h; cases h
        | some L =>
          rw [e2] at h
          dsimp only at h
          split at h
          · rename_i hl
            cases h
            obtain ⟨v, T, ev, r1⟩ := rdl1 rd rfl
            subst ev
            obtain ⟨a, us, T2, rfl, sq, r3⟩ : ∃ a us T2, v = .ref a ∧ SqL X.K H a us ∧ RepL ca X.K Hf H T2 us xs := by
              cases r1 with
              | lstF e r => cases e1; exact ⟨_, _, _, rfl, .inl (.inl (hx _ _ e)), r⟩
              | lstO s e r => cases e1; exact ⟨_, _, _, rfl, .inl (.inl e), r⟩
              | scr q => cases e1; exact ⟨_, _, Em, rfl, sqL_ex hx q, rep_ints0 _⟩
              | _ => cases e1
            obtain ⟨rs, its, rfl, pp, rf⟩ := rows_rep0 hx r3 e2
            exact ⟨a, rs, its, rfl, sq, pp, by rw [rf.length, ← sz_eq]; exact hl, fun p hp => q p _ hp rf⟩
          · cases h
end
end DL

/-! DL139: len of a dict. -/
namespace DL
open PySem PySem.Spec PyProof.Rows L2
def oLenD : List D → Option Out
  | [.dic _ kvs] => some (.val (.int (kvs.length : Nat)))
  | _ => none
section
variable {ca : Nat → Addr} {K : PySem.W.Frag} {X : Cx}
theorem os_lenD : OpS ca K (fun xs H Q => ∃ a kvs, xs = [V.ref a] ∧ H a = some (.dK kvs) ∧ Q (.int (kvs.length : Nat)) H) oLenD := fun Hf H vs ds o Q hx rd h q => by
  match ds, h with
  | [.dic w kvs], h =>
    cases h
    obtain ⟨v, S, e1, r1⟩ := rdl1 rd rfl
    subst e1
    cases r1 with
    | dicF e kk r =>
      refine ⟨_, _, rfl, hx _ _ e, ?_⟩
      have := congrArg List.length kk
      rw [List.length_map, List.length_map] at this
      rw [this]
      exact q _ .int
    | dicO s e kk r =>
      refine ⟨_, _, rfl, e, ?_⟩
      have := congrArg List.length kk
      rw [List.length_map, List.length_map] at this
      rw [this]
      exact q _ .int
end
end DL

/-! DL140 (Nw): the schedule's rows, any order of each row, the depths of the networks that come of it (the plain part of k58's law). -/
namespace Nw
open DL
/-- the level and the step of an index -/
abbrev lv (E : List Int) (i : Nat) : Int := E.getD i 0
section
variable {ss E : List Int} {M : Nat} {O : List Nat}
/-! ### mirrored, backwards -/
/-! ### two rows at once -/
end
end Nw

set_option maxHeartbeats 1000000
/-! DL141: texts: len, signs, slices, walks, split, join, endswith, removeprefix, int of a text. -/
namespace DL
open PySem PySem.Spec PyProof.Rows L2
section
variable {ca : Nat → Addr} {K : PySem.W.Frag} {Hf H : Hp} {S : Rg} {vs : List V} {ds xs : List D} {X : Cx} {v : V}
/-! ### walking a text -/
end
end DL

set_option maxHeartbeats 1000000
/-! DL142: x, *xs = a list. -/
namespace DL
open PySem PySem.Spec PyProof.Rows L2
section
variable {ca : Nat → Addr} {X : Cx} {L : List Nat}
end
end DL

set_option maxHeartbeats 1000000
/-! DL143: texts made of numbers: joined, split again, shown; steps for the walk. -/
namespace DL
open PySem (Str PyData)
open Nw PySem
open PySem.Spec PyProof.Rows L2
/-! ### a text shown -/
/-- the signs of these texts -/
def okC (c : Nat) : Bool := c == 32 || (decide (48 ≤ c) && decide (c ≤ 58))
end DL

set_option maxHeartbeats 1000000
/-! DL144: a call, the slot's list of own flat lists given for its time only. -/
namespace DL
open PySem L2 PyProof.Rows
def ownRow : D → Bool
  | .lst true ys => ys.all flat
  | _ => false
noncomputable def hideT (T : Rg) (Hf : Hp) : Hp := fun b => if (Classical.propDecidable (T b)).decide then none else Hf b
noncomputable def showT (T : Rg) (H Hf : Hp) : Hp := fun b => if (Classical.propDecidable (T b)).decide then H b else Hf b
theorem hideT_t {T : Rg} {Hf : Hp} {b : Addr} (h : T b) : hideT T Hf b = none := by
  show (if _ then _ else _) = _
  rw [if_pos (by simpa using h)]
theorem hideT_f {T : Rg} {Hf : Hp} {b : Addr} (h : ¬ T b) : hideT T Hf b = Hf b := by
  show (if _ then _ else _) = _
  rw [if_neg (by simpa using h)]
theorem showT_t {T : Rg} {H Hf : Hp} {b : Addr} (h : T b) : showT T H Hf b = H b := by
  show (if _ then _ else _) = _
  rw [if_pos (by simpa using h)]
theorem showT_f {T : Rg} {H Hf : Hp} {b : Addr} (h : ¬ T b) : showT T H Hf b = Hf b := by
  show (if _ then _ else _) = _
  rw [if_neg (by simpa using h)]
/-- the list itself, and its rows -/
def rgT (a : Addr) (us : List V) : Rg := fun b => b = a ∨ V.ref b ∈ us
section
variable {ca : Nat → Addr} {K : PySem.W.Frag} {Hf H H3 Hf1 H1 Hf2 H2 : Hp} {S P : Rg} {R R1 R2 : Nat → Rg} {σ : L2.St} {st : Sl} {v : V} {d : D} {vs : List V} {ds : List D} {X : Cx} {L : List Nat}
theorem frz_flat : ∀ {d : D}, flat d = true → frz d = d
  | .non, _ => by rw [frz]
  | .bl _, _ => by rw [frz]
  | .int _, _ => by rw [frz]
  | .str _, _ => by rw [frz]
theorem frzL_flat : ∀ {ys : List D}, ys.all flat = true → frzL ys = ys
  | [], _ => by rw [frzL]
  | y :: ys, h => by
    rw [List.all_cons, Bool.and_eq_true] at h
    rw [frzL, frz_flat h.1, frzL_flat h.2]
theorem repL_rows : ∀ {us : List V} {xs : List D} {S : Rg}, RepL ca K Hf H S us xs → xs.all ownRow = true → (∀ b, V.ref b ∈ us → S b ∧ ∃ ws, H b = some (.lst ws)) ∧ ∀ Hf3 : Hp, (∀ b, V.ref b ∈ us → Hf3 b = H b) → RepL ca K Hf3 H3 Em us (frzL xs)
  | _, _, _, .nil, _ => ⟨fun b h => (by cases h), fun Hf3 _ => (by rw [frzL]; exact .nil)⟩
  | _, _, _, .cons (d := d) (ds := ds) (v := v) (vs := vs) r1 r2 h1 h2 h3, h => by
    rw [List.all_cons, Bool.and_eq_true] at h
    obtain ⟨q1, q2⟩ := repL_rows r2 h.2
    cases d with
    | lst o ys =>
      cases o with
      | false => exact absurd h.1 (by simp [ownRow])
      | true =>
        have hy : ys.all flat = true := h.1
        cases r1 with
        | lstO s eH rl =>
          rename_i b ws
          refine ⟨fun c hc => ?_, fun Hf3 hh => ?_⟩
          · rcases List.mem_cons.mp hc with e | hc
            · cases e
              exact ⟨h1 _ s, _, eH⟩
            · exact ⟨h2 c (q1 c hc).1, (q1 c hc).2⟩
          · rw [frzL]
            have e : frz (.lst true ys) = .lst false ys := by rw [frz, frzL_flat hy]
            rw [e]
            exact .cons (S1 := Em) (S2 := Em) (.lstF (by rw [hh b List.mem_cons_self]; exact eH) (repL_fl rl hy)) (q2 Hf3 fun c hc => hh c (List.mem_cons_of_mem _ hc)) (fun _ q => q.elim) (fun _ q => q.elim) (fun _ q => q.elim)
    | _ => exact absurd h.1 (by simp [ownRow])
mutual
theorem Rep.lessT {T : Rg} (hf : ∀ b o, ¬ T b → Hf b = some o → Hf2 b = some o) (ha : ∀ b, T b → ∃ ws, Hf b = some (.lst ws)) : ∀ {S : Rg} {v : V} {d : D}, Rep ca K Hf H S v d → noL d = true → Rep ca K Hf2 H S v d
  | _, _, _, .non, _ => .non
  | _, _, _, .bl, _ => .bl
  | _, _, _, .int, _ => .int
  | _, _, _, .str, _ => .str
  | _, _, _, .scr h, n => by rw [noL] at n; cases n
  | _, _, _, .cls, _ => .cls
  | _, _, _, .ty, _ => .ty
  | _, _, _, .lstF e r, n => by rw [noL] at n; cases n
  | _, _, _, .lstO s e r, n => by
    rw [noL, Bool.true_and] at n
    exact .lstO s e (RepL.lessT hf ha r n)
  | _, _, _, .tup e r, n => by
    rw [noL] at n
    exact .tup (hf _ _ (fun z => by obtain ⟨ws, ha⟩ := ha _ z; rw [ha] at e; cases e) e) (RepL.lessT hf ha r n)
  | _, _, _, .insF e k r, n => by
    rw [noL, noLF_vals] at n
    exact .insF (hf _ _ (fun z => by obtain ⟨ws, ha⟩ := ha _ z; rw [ha] at e; cases e) e) k (RepL.lessT hf ha r n)
  | _, _, _, .insO s e k r, n => by
    rw [noL, noLF_vals] at n
    exact .insO s e k (RepL.lessT hf ha r n)
  | _, _, _, .dicF e k r, n => by rw [noL] at n; cases n
  | _, _, _, .dicO s e k r, n => by rw [noL] at n; cases n
  | _, _, _, .dctF e k r, n => by rw [noL] at n; cases n
  | _, _, _, .dctO s e k r, n => by rw [noL] at n; cases n
  | _, _, _, .xc e e2 k r, n => by rw [noL] at n; cases n
theorem RepL.lessT {T : Rg} (hf : ∀ b o, ¬ T b → Hf b = some o → Hf2 b = some o) (ha : ∀ b, T b → ∃ ws, Hf b = some (.lst ws)) : ∀ {S : Rg} {vs : List V} {ds : List D}, RepL ca K Hf H S vs ds → noLL ds = true → RepL ca K Hf2 H S vs ds
  | _, _, _, .nil, _ => .nil
  | _, _, _, .cons r1 r2 k1 k2 k3, n => by
    rw [noLL, Bool.and_eq_true] at n
    exact .cons (Rep.lessT hf ha r1 n.1) (RepL.lessT hf ha r2 n.2) k1 k2 k3
end
end
end DL
namespace DL
open PySem (Str)
end DL

set_option maxHeartbeats 1000000
/-! DL145: [a:] of a text, a text times an int. -/
namespace DL
open PySem PySem.Spec PyProof.Rows L2
section
variable {ca : Nat → Addr} {K : PySem.W.Frag} {X : Cx}
end
end DL

set_option maxHeartbeats 1000000
/-! DL146: isinstance of an exception and a pair of the text's exception classes. -/
namespace DL
open PySem PySem.Spec PyProof.Rows L2
section
variable {ca : Nat → Addr} {K : PySem.W.Frag} {X : Cx}
end
end DL

set_option maxHeartbeats 1000000
/-! DL147: words read as numbers (plain part of k73's law). -/
namespace DL
open PySem (Str PyData)
open Nw PySem PySem.Spec PyProof.Rows L2 C8 SX
/-- the last sign is a colon -/
def col (l : List Nat) : Bool := decide (l.drop (l.length - 1) = [58])
/-! ### a text's words -/
/-! ### numbers or None -/
/-! ### what is told -/
end DL

set_option maxHeartbeats 1000000
/-! DL148: an own value stored in a field; self.f.append(e), self the slot's own instance, f an own list in its field. -/
namespace DL
open PySem PySem.Spec PyProof.Rows L2
section
variable {ca : Nat → Addr} {K : PySem.W.Frag} {Hf H Hf1 H1 Hf2 H2 : Hp} {S S1 S2 P P1 P2 : Rg} {R R1 R2 : Nat → Rg} {pp qq : Prop} {σ σ' : L2.St} {st st' : Sl} {v : V} {d : D} {vs : List V} {ds : List D} {X : Cx} {L : List Nat}
end
end DL

set_option maxHeartbeats 1000000
/-! DL149: self.f.append((x, self.g)), self the slot's own instance, x a name. -/
namespace DL
open PySem PySem.Spec PyProof.Rows L2
section
variable {ca : Nat → Addr} {K : PySem.W.Frag} {Hf H Hf1 H1 Hf2 H2 : Hp} {S S1 S2 P P1 P2 : Rg} {R R1 R2 : Nat → Rg} {pp qq : Prop} {σ σ' : L2.St} {st st' : Sl} {v : V} {d : D} {vs : List V} {ds : List D} {X : Cx} {L : List Nat}
end
end DL

set_option maxHeartbeats 1000000
/-! DL150: a built-in of one argument, the argument a field of the slot's own instance (len, list .. of an own list in a field). -/
namespace DL
open PySem PySem.Spec PyProof.Rows L2
section
variable {ca : Nat → Addr} {K : PySem.W.Frag} {Hf H : Hp} {X : Cx}
end
end DL

set_option maxHeartbeats 1000000
/-! DL151: self.f.pop(), self.f.reverse(), self.f.clear(), f an own list in a field of the slot's own instance. -/
namespace DL
open PySem PySem.Spec PyProof.Rows L2
section
variable {ca : Nat → Addr} {K : PySem.W.Frag} {Hf H : Hp} {X : Cx}
end
end DL

set_option maxHeartbeats 1000000
/-! DL152: a field of the slot's own instance as a target (of an unpacking). -/
namespace DL
open PySem PySem.Spec PyProof.Rows L2
section
variable {ca : Nat → Addr} {X : Cx} {L : List Nat}
end
end DL

set_option maxHeartbeats 1000000
/-! DL153: a property whose getter is a guarded def (FnG), read; also of an own instance in a slot (lent for the call). -/
namespace DL
open PySem PySem.Spec PyProof.Rows L2
section
variable {ca : Nat → Addr} {X : Cx}
end
end DL

set_option maxHeartbeats 1000000
/-! DL154: an expression that only reads an owned thing in a slot: it is let stand for the expression's time, and then owned again. The value must be flat, or an own list of flat things; the other slots must be empty or flat. -/
namespace DL
open PySem PySem.Spec PyProof.Rows L2
section
variable {ca : Nat → Addr} {K : PySem.W.Frag} {Hf H Hf1 H1 : Hp} {S S1 : Rg} {X : Cx}
theorem repT_flat {v : V} {d : D} (r : Rep ca K Hf H S v d) (h : flat d = true) : Rep ca K Hf1 H1 Em v d := by
  cases r with
  | non => exact .non
  | bl => exact .bl
  | int => exact .int
  | str => exact .str
  | _ => cases h
theorem repTL_flat : ∀ {S : Rg} {vs : List V} {ds : List D}, RepL ca K Hf H S vs ds → ds.all flat = true → RepL ca K Hf1 H1 Em vs ds
  | _, _, _, .nil, _ => .nil
  | _, _, _, .cons r1 r2 h1 h2 h3, h => by
    rw [List.all_cons, Bool.and_eq_true] at h
    exact .cons (repT_flat r1 h.1) (repTL_flat r2 h.2) (fun _ q => q) (fun _ q => q) fun _ q _ => q
end
end DL

set_option maxHeartbeats 2000000
/-! DL155: != of two lists all of whose items are equal by eqBool (own == inside): the answer False. -/
namespace DL
open PySem PySem.SeqAt GQ
open AutoSeq1 (wpAny_loadPart')
open MeetsSeq MeetsSeq2 MeetsSeq3 SeqRoads2
section
variable {prog : Program} {w : World} {A : Around} {R : Result → Shared → Prop}
end
section
variable {prog : Program} {w : World} {A : Around} {E : Value → Shared → Prop} {s : Shared}
end
open PySem.Spec PyProof.Rows L2
section
variable {X : Cx} {n : Nat} {D : Eqv}
end
end DL

/-! DL156: sleeping generators stay as they are while code that does not wake them runs (a frame rule for generators, own work over Runs). -/
namespace DL
open PySem PyProof.Rows
open Sem (wp)

/-- only plain frames -/
def NG (fs : List Frame) : Prop := ∀ f ∈ fs, ∃ k h g l c p kp, f = Frame.ret k h g l c p kp
def NGS : GenState → Prop
  | .suspended _ _ _ _ fs _ => NG fs
  | _ => True
/-- a sleeper that can never be woken -/
def Dead (x : GenState) : Prop := ∃ l c p fs cl, x = .suspended (fun _ => .unsupported "") l c p fs cl
def Susp (x : GenState) : Prop := ∃ k c p fs cl, x = .suspended k [] c p fs cl
/-- it cannot be woken: dead, or running -/
def Dz (x : GenState) : Prop := Dead x ∨ x = .running
/-- the left one is a dead copy of the right one, or they are the same -/
inductive E1 : GenState → GenState → Prop
  | same {x} : NGS x → E1 x x
  | dead {k l' c p fs fs' cl} : fs.map Frame.where_ = fs'.map Frame.where_ → E1 (.suspended (fun _ => .unsupported "") [.none] c p fs cl) (.suspended k l' c p fs' cl)
structure GSim (ga gb : Array GenState) : Prop where
  size : ga.size = gb.size
  at_ : ∀ (i : Nat) (x y : GenState), ga[i]? = some x → gb[i]? = some y → E1 x y
/-- the dead ones on the left, and their likes on the right, stay -/
def GKp (ga gb ga' gb' : Array GenState) : Prop := ∀ (i : Nat) (x y : GenState), ga[i]? = some x → gb[i]? = some y → Dz x → ga'[i]? = some x ∧ gb'[i]? = some y

theorem GSim.get {ga gb : Array GenState} (h : GSim ga gb) {i : Nat} {x : GenState} (e : ga[i]? = some x) : ∃ y, gb[i]? = some y ∧ E1 x y := by
  obtain ⟨hi, _⟩ := Array.getElem?_eq_some_iff.mp e
  have hi' : i < gb.size := by rw [← h.size]; exact hi
  exact ⟨gb[i], Array.getElem?_eq_getElem hi', h.at_ i x _ e (Array.getElem?_eq_getElem hi')⟩
theorem E1.seen {x y : GenState} (h : E1 x y) : x.seen = y.seen := by
  cases h with
  | same _ => rfl
  | dead e => simp only [GenState.seen, e]
theorem E1.bare {x y : GenState} (h : E1 x y) : x.bare = y.bare := by
  cases h with
  | same _ => rfl
  | dead e => rfl
theorem GKp.refl {ga gb : Array GenState} : GKp ga gb ga gb := fun _ _ _ a b _ => ⟨a, b⟩
theorem GKp.trans {ga gb ga' gb' ga2 gb2 : Array GenState} (a : GKp ga gb ga' gb') (b : GKp ga' gb' ga2 gb2) : GKp ga gb ga2 gb2 := fun i x y h1 h2 h3 =>
  let ⟨q1, q2⟩ := a i x y h1 h2 h3
  b i x y q1 q2 h3
theorem GSim.set {ga gb : Array GenState} (h : GSim ga gb) (g : Nat) {z : GenState} (hz : NGS z) : GSim (ga.setIfInBounds g z) (gb.setIfInBounds g z) := by
  refine ⟨by simp [h.size], fun i x y e1 e2 => ?_⟩
  by_cases hi : g = i
  · subst hi
    rw [Array.getElem?_setIfInBounds_self] at e1 e2
    split at e1
    · split at e2
      · cases e1; cases e2; exact .same hz
      · cases e2
    · cases e1
  · rw [Array.getElem?_setIfInBounds_ne hi] at e1 e2
    exact h.at_ i x y e1 e2
theorem GKp.set {ga gb : Array GenState} (g : Nat) {z : GenState} (hn : ∀ x : GenState, ga[g]? = some x → ¬ Dz x) : GKp ga gb (ga.setIfInBounds g z) (gb.setIfInBounds g z) := fun i x y e1 e2 d => by
  have hi : g ≠ i := fun e => hn x (e ▸ e1) d
  rw [Array.getElem?_setIfInBounds_ne hi, Array.getElem?_setIfInBounds_ne hi]
  exact ⟨e1, e2⟩
theorem GSim.push {ga gb : Array GenState} (h : GSim ga gb) {z : GenState} (hz : NGS z) : GSim (ga.push z) (gb.push z) := by
  refine ⟨by simp [h.size], fun i x y e1 e2 => ?_⟩
  rw [Array.getElem?_push] at e1 e2
  rw [h.size] at e1
  split at e1
  · rename_i hi
    rw [if_pos hi] at e2
    cases e1; cases e2
    exact .same hz
  · rename_i hi
    rw [if_neg hi] at e2
    exact h.at_ i x y e1 e2
theorem GKp.push {ga gb : Array GenState} {z z' : GenState} : GKp ga gb (ga.push z) (gb.push z') := fun i x y e1 e2 _ => by
  obtain ⟨h1, _⟩ := Array.getElem?_eq_some_iff.mp e1
  obtain ⟨h2, _⟩ := Array.getElem?_eq_some_iff.mp e2
  rw [Array.getElem?_push, Array.getElem?_push, if_neg (Nat.ne_of_lt h1), if_neg (Nat.ne_of_lt h2)]
  exact ⟨e1, e2⟩
/-- a dead copy -/
def dead : GenState → GenState
  | .suspended _ _ c p fs cl => .suspended (fun _ => .unsupported "") [.none] c p (fs.map fun f => Frame.ret (fun _ => .unsupported "") none false [] f.where_.1 f.where_.2 []) cl
  | x => x
/-- the sleepers but those of I are as they were, and what runs runs -/
structure Kept (I : Nat → Prop) (s s' : Shared) : Prop where
  susp : ∀ (i : Nat) (x : GenState), ¬ I i → s.gens[i]? = some x → Susp x → s'.gens[i]? = some x
  run : ∀ i : Nat, s.gens[i]? = some .running → s'.gens[i]? = some .running
theorem Kept.refl {I : Nat → Prop} {s : Shared} : Kept I s s := ⟨fun _ _ _ e _ => e, fun _ e => e⟩
theorem Kept.trans {I J : Nat → Prop} {s s1 s2 : Shared} (a : Kept I s s1) (b : Kept J s1 s2) (h : ∀ i, J i → I i) : Kept I s s2 := ⟨fun i x n e su => b.susp i x (fun z => n (h i z)) (a.susp i x n e su) su, fun i e => b.run i (a.run i e)⟩
/-- the copies stay dead -/
def KeptD (I : Nat → Prop) (s : Shared) (ga : Array GenState) : Prop := ∀ (i : Nat) (x : GenState), ¬ I i → s.gens[i]? = some x → Susp x → ga[i]? = some (dead x)
theorem KeptD.no {I : Nat → Prop} {s : Shared} {ga : Array GenState} (k : KeptD I s ga) {i : Nat} {x y : GenState} (n : ¬ I i) (e : s.gens[i]? = some x) (su : Susp x) (e2 : ga[i]? = some y) (su2 : Susp y) : False := by
  rw [k i x n e su] at e2
  cases e2
  obtain ⟨_, _, _, _, _, rfl⟩ := su
  obtain ⟨_, _, _, _, _, h⟩ := su2
  cases h
end DL

/-! DL157: private things that lie still while code runs that does not know them. -/
namespace DL
open PySem L2 PyProof.Rows

/-- private things: objects, sleeping generators -/
structure Prv where
  obj : Addr → Option Obj
  gen : Nat → Option GenState
  run : Nat → Prop := fun _ => False
  os : Option OsState := Option.none
  s0 : Option Shared := Option.none
def Prv.none : Prv := { obj := fun _ => Option.none, gen := fun _ => Option.none }
/-- a private object, told to the others -/
def PO (b : Addr) (o : Obj) : HO := .ext fun h => h.get? b = some o
def plus (H : Hp) (G : Prv) : Hp := fun b => match G.obj b with
  | some o => some (PO b o)
  | Option.none => H b
def minus (H : Hp) (G : Prv) : Hp := fun b => match G.obj b with
  | some _ => Option.none
  | Option.none => H b
/-- they lie so, nobody knows them -/
structure Held (X : Cx) (pins : List (Addr × Obj)) (H : Hp) (G : Prv) (s : Shared) : Prop where
  obj : ∀ b o, G.obj b = some o → s.heap.get? b = some o ∧ FpOk X pins H b
  gen : ∀ (i : Nat) (x : GenState), G.gen i = some x → s.gens[i]? = some x ∧ Susp x ∧ NGS x
  run : ∀ i : Nat, G.run i → s.gens[i]? = some .running
  os : ∀ o, G.os = some o → X.s_0.os = o
  s0 : ∀ o, G.s0 = some o → X.s_0 = o
theorem Held.nil {X : Cx} {pins : List (Addr × Obj)} {H : Hp} {s : Shared} : Held X pins H Prv.none s := ⟨fun _ _ e => (nomatch e), fun _ _ e => (nomatch e), fun _ e => e.elim, fun _ e => (nomatch e), fun _ e => (nomatch e)⟩
theorem plus_in {H : Hp} {G : Prv} {b : Addr} {o : Obj} (e : G.obj b = some o) : plus H G b = some (PO b o) := by unfold plus; rw [e]
theorem plus_out {H : Hp} {G : Prv} {b : Addr} (e : G.obj b = Option.none) : plus H G b = H b := by unfold plus; rw [e]
theorem minus_in {H : Hp} {G : Prv} {b : Addr} {o : Obj} (e : G.obj b = some o) : minus H G b = Option.none := by unfold minus; rw [e]
theorem minus_out {H : Hp} {G : Prv} {b : Addr} (e : G.obj b = Option.none) : minus H G b = H b := by unfold minus; rw [e]
theorem tp_plus {Hf H : Hp} {G : Prv} (t : TpH Hf H) : TpH Hf (plus H G) := fun b xs e => by
  cases q : G.obj b with
  | none => rw [plus_out q] at e; exact t b xs e
  | some o => rw [plus_in q] at e; cases e
theorem tp_minus {Hf H : Hp} {G : Prv} (t : TpH Hf H) : TpH Hf (minus H G) := fun b xs e => by
  cases q : G.obj b with
  | none => rw [minus_out q] at e; exact t b xs e
  | some o => rw [minus_in q] at e; cases e

section
variable {X : Cx} {pins : List (Addr × Obj)} {σ : L2.St} {H H' : Hp} {s s' : Shared} {G : Prv}
theorem obj_of_some {b : Addr} {u : HO} (hn : ∀ b o, G.obj b = some o → H b = Option.none) (e : H b = some u) : G.obj b = Option.none := by
  cases q : G.obj b with
  | none => rfl
  | some o => rw [hn b o q] at e; cases e
theorem po_ok {P : Program} {w : World} {h : Heap} {b : Addr} {o : Obj} (e : h.get? b = some o) : ObjOk P w H h b (PO b o) := ⟨e, ⟨o, e⟩, fun _ _ q k => k o q⟩
theorem _root_.L2.Inv.plus (I : Inv X pins σ H s) (hd : Held X pins H G s) : Inv X pins σ (DL.plus H G) s := by
  have hn : ∀ b o, G.obj b = some o → H b = Option.none := fun b o e => (hd.obj b o e).2.1
  have keep : ∀ b u, H b = some u → DL.plus H G b = some u := fun b u e => by rw [plus_out (obj_of_some hn e)]; exact e
  refine ⟨I.ok, I.os, I.bare, ⟨I.base.keep, I.base.slot, fun b o e n hx => ?_, I.base.there, fun b xs e => keep _ _ (I.base.tups b xs e), fun b o u e => keep _ _ (I.base.frzs b o u e), fun b ps e => ?_⟩, I.loc, I.cell, ?_, fun x c e => ?_, fun p hp => ?_, fun b u e => ?_, I.len⟩
  · cases q : G.obj b with
    | none => rw [plus_out q]; exact I.base.free b o e n hx
    | some o' =>
      rcases (hd.obj b o' q).2.2.2.2.1 with z | z
      · exact absurd z hx
      · exact absurd (Nat.lt_of_lt_of_le (Heap.lt_size e) z) (Nat.lt_irrefl _)
  · obtain ⟨m, q⟩ := I.base.tbls b ps e
    exact ⟨m, keep _ _ q⟩
  · cases q : G.obj X.env.locals with
    | none => rw [plus_out q]; exact I.free
    | some o => exact absurd rfl (hd.obj _ o q).2.2.1
  · cases q : G.obj c with
    | none => rw [plus_out q]; exact I.freeC x c e
    | some o => exact absurd rfl ((hd.obj c o q).2.2.2.2.2.1 x c e)
  · obtain ⟨e, n, r⟩ := I.pin p hp
    refine ⟨e, ?_, r⟩
    cases q : G.obj p.1 with
    | none => rw [plus_out q]; exact n
    | some o => exact absurd rfl ((hd.obj p.1 o q).2.2.2.2.2.2 p hp)
  · cases q : G.obj b with
    | none =>
      rw [plus_out q] at e
      exact (I.hok b u e).stay (fun _ _ _ z => z) (fun c z => keep _ _ z) fun c xs z => keep _ _ z
    | some o =>
      rw [plus_in q] at e
      cases e
      exact po_ok (hd.obj b o q).1
/-- what of the private things' places does not change -/
def Still (X : Cx) (pins : List (Addr × Obj)) (G : Prv) : Prop := ∀ b o, G.obj b = some o → b ≠ X.env.locals ∧ b ∉ X.fs ∧ (b ∈ X.ex ∨ X.s_0.heap.objs.size ≤ b) ∧ (∀ x c, X.env.cells.lookup x = some c → c ≠ b) ∧ ∀ p ∈ X.pn ++ pins, p.1 ≠ b
theorem Held.still (hd : Held X pins H G s) : Still X pins G := fun b o e => (hd.obj b o e).2.2
theorem _root_.L2.Inv.minus (I : Inv X pins σ H' s) (st : Still X pins G) (hp : ∀ b o, G.obj b = some o → H' b = some (PO b o)) : Inv X pins σ (DL.minus H' G) s := by
  have keep : ∀ b u, H' b = some u → (∀ o, u ≠ PO b o) → DL.minus H' G b = some u := fun b u e n => by
    cases q : G.obj b with
    | none => rw [minus_out q]; exact e
    | some o =>
      rw [hp b o q] at e
      cases e
      exact absurd rfl (n o)
  have none' : ∀ b, H' b = Option.none → DL.minus H' G b = Option.none := fun b e => by
    cases q : G.obj b with
    | none => rw [minus_out q]; exact e
    | some o => exact minus_in q
  have back : ∀ b u, DL.minus H' G b = some u → H' b = some u := fun b u e => by
    cases q : G.obj b with
    | none => rw [minus_out q] at e; exact e
    | some o => rw [minus_in q] at e; cases e
  refine ⟨I.ok, I.os, I.bare, ⟨I.base.keep, I.base.slot, fun b o e n hx => none' b (I.base.free b o e n hx), I.base.there, fun b xs e => keep _ _ (I.base.tups b xs e) (fun o z => nomatch z), fun b o u e => keep _ _ (I.base.frzs b o u e) (fun o z => nomatch z), fun b ps e => ?_⟩, I.loc, I.cell, none' _ I.free, fun x c e => none' _ (I.freeC x c e), fun p hp => ?_, fun b u e => ?_, I.len⟩
  · obtain ⟨m, q⟩ := I.base.tbls b ps e
    exact ⟨m, keep _ _ q fun o z => nomatch z⟩
  · obtain ⟨e, n, r⟩ := I.pin p hp
    exact ⟨e, none' _ n, r⟩
  · exact (I.hok b u (back b u e)).stay (fun _ _ _ z => z) (fun c z => keep _ _ z (fun o z => nomatch z)) fun c xs z => keep _ _ z (fun o z => nomatch z)
theorem Held.back (I : Inv X pins σ H' s') (hd : Held X pins H G s) (hp : ∀ b o, G.obj b = some o → H' b = some (PO b o)) (k : Kept (fun _ => False) s s') : Held X pins (DL.minus H' G) G s' :=
  ⟨fun b o e => ⟨(I.hok b _ (hp b o e)).1, minus_in e, hd.still b o e⟩, fun i x e => ⟨k.susp i x (fun z => z) (hd.gen i x e).1 (hd.gen i x e).2.1, (hd.gen i x e).2⟩, fun i e => k.run i (hd.run i e), hd.os, hd.s0⟩
end

section
variable {X : Cx} {pins : List (Addr × Obj)} {σ : L2.St} {H H' Hf : Hp} {s s' : Shared} {G : Prv} {ca : Nat → Addr} {R : Nat → Rg} {st : Sl} {L : List Nat} {P : Rg} {pp : Prop}
theorem PR.plus (p : PR ca X.K Hf H P pp R σ st) (hn : ∀ b o, G.obj b = some o → H b = Option.none) : PR ca X.K Hf (DL.plus H G) P pp R σ st := by
  have keep : ∀ b u, H b = some u → DL.plus H G b = some u := fun b u e => by rw [plus_out (obj_of_some hn e)]; exact e
  refine ⟨p.pend, p.len, fun i d e => ?_, p.dj, p.dp, ⟨fun b o e => keep b o (p.w.ex b o e), fun b q => ?_, p.w.nf, tp_plus p.w.tp⟩⟩
  · obtain ⟨v, e1, r⟩ := p.at_ i d e
    exact ⟨v, e1, r.keep (fun _ _ e => e) fun b _ o e => keep b o e⟩
  · obtain ⟨o, e⟩ := p.w.dm b q
    exact ⟨o, keep b o e⟩
/-- a step among the known things is one without the private ones -/
theorem Tr.minus {S S' : Rg} {Hf' : Hp} (hn : ∀ b o, G.obj b = some o → H b = Option.none) (hS : ∀ b o, G.obj b = some o → ¬ S b) (t : Tr S Hf (DL.plus H G) S' Hf' H') :
    Tr S Hf H S' Hf' (DL.minus H' G) ∧ (∀ b o, G.obj b = some o → H' b = some (PO b o)) ∧ (∀ b o, G.obj b = some o → ¬ S' b) := by
  have kp : ∀ b o, G.obj b = some o → H' b = some (PO b o) := fun b o e => t.keep b _ (plus_in e) (hS b o e)
  have hnone : ∀ b, DL.plus H G b = Option.none → H b = Option.none := fun b e => by
    cases q : G.obj b with
    | none => rw [plus_out q] at e; exact e
    | some o => rw [plus_in q] at e; cases e
  refine ⟨⟨t.fx, fun b o e n => ?_, fun b q => (t.nw b q).imp_right (hnone b), fun b o e => (t.fz b o e).imp_right fun q => q.imp_right (hnone b)⟩, kp, fun b o e q => ?_⟩
  · have g := obj_of_some hn e
    rw [minus_out g]
    exact t.keep b o (by rw [plus_out g]; exact e) n
  · rcases t.nw b q with z | z
    · exact hS b o e z
    · rw [plus_in e] at z; cases z
theorem PR.minus (p : PR ca X.K Hf H' P pp R σ st) (hp : ∀ b o, G.obj b = some o → ¬ jn P R b) (hf : ∀ b o, G.obj b = some o → Hf b = Option.none) : PR ca X.K Hf (DL.minus H' G) P pp R σ st := by
  have keep : ∀ b u, (∀ o, G.obj b ≠ some o) → H' b = some u → DL.minus H' G b = some u := fun b u n e => by
    cases q : G.obj b with
    | none => rw [minus_out q]; exact e
    | some o => exact absurd q (n o)
  refine ⟨p.pend, p.len, fun i d e => ?_, p.dj, p.dp, ⟨fun b o e => keep b o (fun o' q => ?_) (p.w.ex b o e), fun b q => ?_, p.w.nf, tp_minus p.w.tp⟩⟩
  · obtain ⟨v, e1, r⟩ := p.at_ i d e
    exact ⟨v, e1, r.keep (fun _ _ e => e) fun b q o e => keep b o (fun o' z => hp b o' z (.inr ⟨i, q⟩)) e⟩
  · rw [hf b o' q] at e; cases e
  · obtain ⟨o, e⟩ := p.w.dm b q
    exact ⟨o, keep b o (fun o' z => hp b o' z q) e⟩
/-- the pending datum goes with it -/
theorem Rep.minus {S : Rg} {v : V} {d : D} (r : Rep ca X.K Hf H' S v d) (hp : ∀ b o, G.obj b = some o → ¬ S b) : Rep ca X.K Hf (DL.minus H' G) S v d :=
  r.keep (fun _ _ e => e) fun b q o e => by
    cases z : G.obj b with
    | none => rw [minus_out z]; exact e
    | some o' => exact absurd q (hp b o' z)
end
end DL

/-! DL158: what a generator promises that sleeps or has not begun; a for loop over one. -/
namespace DL
open PySem L2 PyProof.Rows

section
variable (ca : Nat → Addr) (P : Program) (w : World) (K : PySem.W.Frag) (mg : Str → Option Value) (base : Heap) (outer : List Env) (k : Nat) (os0 : OsState)
/-- the state in which it may be woken -/
structure Wk (Hf0 : Hp) (G : Prv) (A : Around) (s : Shared) (Hf H : Hp) : Prop where
  room : RoomG k A
  os : s.os = os0
  env : Env0 P w K mg base A outer s H
  fx : Ex Hf0 Hf
  hx : Ex Hf H
  tp : TpH Hf H
  obj : ∀ b o, G.obj b = some o → s.heap.get? b = some o ∧ H b = none ∧ b ∉ frs outer
  gen : ∀ (i : Nat) (x : GenState), G.gen i = some x → s.gens[i]? = some x ∧ NGS x
/-- what its turn leaves: Q the region of what it made -/
structure Woke (G : Prv) (s : Shared) (Hf H : Hp) (s1 : Shared) (Hf1 H1 : Hp) (Q : Rg) (ex : List Addr) : Prop where
  os : s1.os = s.os
  bare : AllBare s1.gens
  exs : ∀ b ∈ ex, ∃ o, G.obj b = some o
  un : Un (frs outer) ex H H1 s.heap s1.heap
  hok : HOk P w H1 s1.heap
  tr : Tr Em Hf H Q Hf1 H1
  w : Wl Hf1 H1 Q
/-- its private things from then on -/
structure Anew (G G1 : Prv) (s s1 : Shared) (H1 : Hp) : Prop where
  obj : ∀ b o, G1.obj b = some o → s1.heap.get? b = some o ∧ H1 b = none ∧ ((∃ o', G.obj b = some o') ∨ s.heap.objs.size ≤ b)
  gen : ∀ (i : Nat) (x : GenState), G1.gen i = some x → s1.gens[i]? = some x ∧ Susp x ∧ NGS x
  run : ∀ i : Nat, ¬ G1.run i
  os : G1.os = none
  s0 : G1.s0 = none
/-- the generator's own object is among them -/
def IsG (G : Prv) (a : Addr) : Prop := ∃ o, G.obj a = some o ∧ o.cls = .type "generator"
/-- it will hand out these data -/
def GenSt (a : Addr) : List D → Hp → Prv → Prop
  | [], Hf0, G => ∀ A s Hf H, Wk P w K mg base outer k os0 Hf0 G A s Hf H → wpAny (model P w) A (callSpecial? (.ref a) "__next__") (fun _ _ => False) (fun e s1 => StopX e s1.heap ∧ ∃ Hf1 H1 ex, Woke P w outer G s Hf H s1 Hf1 H1 Em ex) s
  | d :: ds, Hf0, G => ∀ A s Hf H, Wk P w K mg base outer k os0 Hf0 G A s Hf H → wpAny (model P w) A (callSpecial? (.ref a) "__next__") (fun r s1 => ∃ u v Hf1 H1 Q G1 ex, r = some u ∧ RelV v u ∧ Woke P w outer G s Hf H s1 Hf1 H1 Q ex ∧
      Rep ca K Hf1 H1 Q v d ∧ Anew G G1 s s1 H1 ∧ IsG G1 a ∧ GenSt a ds Hf1 G1) (fun _ _ => False) s
/-- an iterator at a over private things: it will hand out these data to the target tg -/
def WSt (tg : Expr) (a : Addr) : List D → Hp → Prv → Prop
  | [], Hf0, G => ∀ A s Hf H, Wk P w K mg base outer k os0 Hf0 G A s Hf H → wpAny (model P w) A (pyNext (.ref a)) (fun r s1 => r = none ∧ ∃ Hf1 H1 ex, Woke P w outer G s Hf H s1 Hf1 H1 Em ex) (fun _ _ => False) s
  | d :: ds, Hf0, G => ∀ A s Hf H, Wk P w K mg base outer k os0 Hf0 G A s Hf H → wpAny (model P w) A (pyNext (.ref a)) (fun r s1 => ∃ u, r = some u ∧ wpAny (model P w) A (letOwnedTupleGo tg (.ref a) u) (fun _ s2 => ∃ v Hf1 H1 Q G1 ex, RelV v u ∧
      Woke P w outer G s Hf H s2 Hf1 H1 Q ex ∧ Rep ca K Hf1 H1 Q v d ∧ Anew G G1 s s2 H1 ∧ WSt tg a ds Hf1 G1) (fun _ _ => False) s1) (fun _ _ => False) s
end
section
variable {ca : Nat → Addr} {P : Program} {w : World} {K : PySem.W.Frag} {mg : Str → Option Value} {base : Heap} {outer : List Env} {k : Nat} {os0 : OsState} {Hf0 Hf1 : Hp} {G : Prv}
theorem Wk.sooner {A : Around} {s : Shared} {Hf H : Hp} (w' : Wk P w K mg base outer k os0 Hf1 G A s Hf H) (h : Ex Hf0 Hf1) : Wk P w K mg base outer k os0 Hf0 G A s Hf H := ⟨w'.room, w'.os, w'.env, fun b o e => w'.fx b o (h b o e), w'.hx, w'.tp, w'.obj, w'.gen⟩
theorem GenSt.later {a : Addr} {ds : List D} (g : GenSt ca P w K mg base outer k os0 a ds Hf0 G) (h : Ex Hf0 Hf1) : GenSt ca P w K mg base outer k os0 a ds Hf1 G := by
  cases ds with
  | nil => exact fun A s Hf H q => g A s Hf H (q.sooner h)
  | cons d ds => exact fun A s Hf H q => g A s Hf H (q.sooner h)
theorem WSt.later {tg : Expr} {a : Addr} {ds : List D} (g : WSt ca P w K mg base outer k os0 tg a ds Hf0 G) (h : Ex Hf0 Hf1) : WSt ca P w K mg base outer k os0 tg a ds Hf1 G := by
  cases ds with
  | nil => exact fun A s Hf H q => g A s Hf H (q.sooner h)
  | cons d ds => exact fun A s Hf H q => g A s Hf H (q.sooner h)
end
/-- its private things are there, nobody knows them -/
structure Made (X : Cx) (pins : List (Addr × Obj)) (H : Hp) (G : Prv) (s : Shared) : Prop where
  obj : ∀ b o, G.obj b = some o → s.heap.get? b = some o ∧ FpOk X pins H b
  gen : ∀ (i : Nat) (x : GenState), G.gen i = some x → s.gens[i]? = some x ∧ NGS x
theorem Held.made {X : Cx} {pins : List (Addr × Obj)} {H : Hp} {G : Prv} {s : Shared} (h : Held X pins H G s) : Made X pins H G s := ⟨h.obj, fun i x e => ⟨(h.gen i x e).1, (h.gen i x e).2.2⟩⟩
section
variable {ca : Nat → Addr} {X : Cx} {pins : List (Addr × Obj)} {σ : L2.St} {H Hf H1 Hf1 : Hp} {s s1 : Shared} {G G1 : Prv} {R : Nat → Rg} {st : Sl} {L : List Nat} {Q : Rg} {k : Nat}
theorem Made.wk {os0 : OsState} (ho : s.os = os0) (I : Inv X pins σ H s) (hr : RoomG k X.A) (hx : Ex Hf H) (htp : TpH Hf H) (m : Made X pins H G s) : Wk X.prog X.w X.K X.mg X.base X.stack k os0 Hf G X.A s Hf H :=
  ⟨hr, ho, I.env0, fun _ _ e => e, hx, htp, fun b o e => ⟨(m.obj b o e).1, (m.obj b o e).2.1, fun z => (List.mem_cons.mp (I.stkSub b z)).elim (m.obj b o e).2.2.1 (m.obj b o e).2.2.2.1⟩, m.gen⟩
theorem Woke.inv {ex : List Addr} (I : Inv X pins σ H s) (m : Made X pins H G s) (w : Woke X.prog X.w X.stack G s Hf H s1 Hf1 H1 Q ex) : Inv X pins σ H1 s1 :=
  I.call' w.os w.un w.hok w.bare fun b hb => by
    obtain ⟨o, e⟩ := w.exs b hb
    obtain ⟨_, _, f1, _, f3, f4, f5⟩ := m.obj b o e
    exact ⟨f3, f1, f4, f5⟩
theorem Anew.held (I : Inv X pins σ H s) (m : Made X pins H G s) (I1 : Inv X pins σ H1 s1) (a : Anew G G1 s s1 H1) : Held X pins H1 G1 s1 :=
  ⟨fun b o e => by
    obtain ⟨q1, q2, q3⟩ := a.obj b o e
    refine ⟨q1, ?_⟩
    rcases q3 with ⟨o', q3⟩ | q3
    · exact ⟨q2, (m.obj b o' q3).2.2⟩
    · exact I.fpOk q3 q2, a.gen, fun i e => (a.run i e).elim, fun o e => (by rw [a.os] at e; cases e), fun o e => (by rw [a.s0] at e; cases e)⟩
end
end DL

/-! DL159: a list comprehension over a generator (or over what walks one). -/
namespace DL
open PySem L2 PyProof.Rows

section
variable {X : Cx} {pins : List (Addr × Obj)} {σ : L2.St} {H H' Hf : Hp} {s s' : Shared} {G : Prv} {ca : Nat → Addr} {R : Nat → Rg} {st : Sl} {L : List Nat} {P : Rg} {pp : Prop} {k : Nat}
end
end DL

/-! DL160: dead places stay dead; segments of a generator's run with a free end; a heap cut down. -/
namespace DL
open PySem L2 PyProof.Rows
open Sem (wp)

/-! ### the heap only grows, and what is dead stays so -/
structure HM (h h' : Heap) : Prop where
  size : h.objs.size ≤ h'.objs.size
  dead : ∀ b, b < h.objs.size → h.get? b = none → h'.get? b = none
theorem HM.refl {h : Heap} : HM h h := ⟨Nat.le_refl _, fun _ _ e => e⟩
theorem HM.trans {h h1 h2 : Heap} (a : HM h h1) (b : HM h1 h2) : HM h h2 := ⟨Nat.le_trans a.size b.size, fun x hx e => b.dead x (Nat.lt_of_lt_of_le hx a.size) (a.dead x hx e)⟩
theorem HM.push {h : Heap} {o : Obj} : HM h (h.push o) := by
  refine ⟨by rw [Heap.size_push]; exact Nat.le_succ _, fun b hb e => ?_⟩
  cases h with
  | mk objs l =>
    unfold Heap.get? Heap.push at *
    dsimp only at *
    rw [Array.getElem?_push_lt hb]
    rw [Array.getElem?_eq_getElem hb] at e
    exact e
theorem HM.update {h : Heap} {a : Addr} {f : Obj → Obj} (ha : (h.get? a).isSome) : HM h (h.update a f) := by
  refine ⟨by rw [Heap.size_update]; exact Nat.le_refl _, fun b hb e => ?_⟩
  have hne : a ≠ b := fun z => by rw [z, e] at ha; cases ha
  rw [Heap.get?_update_other _ _ hne]
  exact e
theorem runs_hm {M : Model} {Γ : Ctx} {p : Pos} {t : Sem PySem.Fin} {fs : List Frame} {s s' : Shared} {e : End} (h : Runs M Γ p t fs s e s') : HM s.heap s'.heap := by
  induction h with
  | done => exact .refl
  | raise => exact .refl
  | again _ _ ih => exact ih
  | rule _ ih => exact ih
  | «at» _ ih => exact ih
  | load _ _ ih => exact ih
  | update hl _ ih => exact (HM.update hl).trans ih
  | loadIfAlive _ ih => exact ih
  | point _ ih => exact ih
  | alloc _ ih => exact HM.push.trans ih
  | fresh _ ih => exact ih
  | ask _ ih => exact ih
  | choose _ _ ih => exact ih
  | os _ ih => exact ih
  | handled _ ih => exact ih
  | genState _ _ ih => exact ih
  | stack _ ih => exact ih
  | thread _ ih => exact ih
  | newGen _ ih => exact ih
  | call _ _ ih1 ih2 => exact ih1.trans ih2
  | callSusp _ ih1 => exact ih1
  | yield => exact .refl
  | resumeFresh _ _ _ _ ih1 ih2 => exact HM.trans ih1 ih2
  | resumeSuspended _ _ _ _ ih1 ih2 => exact HM.trans ih1 ih2
  | resumeJustStarted _ _ _ ih => exact ih
  | resumeThrowFresh _ _ ih => exact ih
  | resumeRunning _ _ ih => exact ih
  | resumeFinished _ _ ih => exact ih
  | segRet _ _ ih1 ih2 => exact ih1.trans ih2
  | segGen _ _ ih1 ih2 => exact HM.trans ih1 ih2
  | segSuspOut _ _ ih => exact ih
  | segSuspGen _ _ _ _ ih1 ih2 => exact HM.trans ih1 ih2

/-! ### segments: Φ is told the end, or the state in which it sleeps -/
def Sg (M : Model) (A : Around) (Φ : End → Shared → Prop) (c : Code) (t : Sem PySem.Fin) (fs : List Frame) (s : Shared) : Prop := ∀ Γ p, Γ.code = c → Γ.Woken A → ∃ e s', Runs M Γ p t fs s e s' ∧ Φ e s'
section
variable {M : Model} {A : Around} {Φ : End → Shared → Prop} {c : Code} {fs : List Frame} {s : Shared}
theorem Sg.imp {Φ' : End → Shared → Prop} {t : Sem PySem.Fin} (h : Sg M A Φ c t fs s) (hΦ : ∀ e s', HM s.heap s'.heap → Φ e s' → Φ' e s') : Sg M A Φ' c t fs s := fun Γ p hc hΓ =>
  let ⟨e, s', hr, q⟩ := h Γ p hc hΓ
  ⟨e, s', hr, hΦ e s' (runs_hm hr) q⟩
end

/-! ### a heap cut down to its first L places, of which those of p are kept -/
def cutH (h : Heap) (n : Nat) (p : Addr → Bool) : Heap := ⟨Array.ofFn (n := n) fun i => if p i.1 then (h.objs[i.1]?).getD ⟨.none, none, .freed, #[]⟩ else ⟨.none, none, .freed, #[]⟩, h.life⟩
theorem cutH_size {h : Heap} {n : Nat} {p : Addr → Bool} : (cutH h n p).objs.size = n := by simp [cutH]
theorem cutH_get {h : Heap} {n : Nat} {p : Addr → Bool} {b : Addr} (hb : b < n) (hp : p b = true) : (cutH h n p).get? b = h.get? b := by
  unfold Heap.get? cutH
  dsimp only
  rw [Array.getElem?_ofFn, dif_pos hb]
  dsimp only
  rw [if_pos hp]
  cases e : h.objs[b]? with
  | none => rfl
  | some o => rfl
theorem of_cutH {h : Heap} {n : Nat} {p : Addr → Bool} {b : Addr} {o : Obj} (e : (cutH h n p).get? b = some o) : b < n ∧ p b = true ∧ h.get? b = some o := by
  have hb : b < n := by
    have := Heap.lt_size e
    rwa [cutH_size] at this
  cases hp : p b with
  | true => exact ⟨hb, rfl, by rw [← cutH_get hb hp]; exact e⟩
  | false =>
    exfalso
    unfold Heap.get? cutH at e
    dsimp only at e
    rw [Array.getElem?_ofFn, dif_pos hb] at e
    dsimp only at e
    rw [hp] at e
    cases e
end DL

/-! DL161: a generator's body: what it hands out, statement by statement. -/
namespace DL
open PySem L2 PyProof.Rows

mutual
/-- what is owned of it is lists -/
def okD : D → Bool
  | .lst true xs => okDs xs
  | .ins true _ _ => false
  | .dic true _ => false
  | .dct true _ => false
  | _ => true
def okDs : List D → Bool
  | [] => true
  | d :: ds => okD d && okDs ds
end
def okSl : Sl → Bool
  | [] => true
  | none :: st => okSl st
  | some d :: st => okD d && okSl st

/-- a generator's frame -/
structure GF where
  P : Program
  w : World
  K : PySem.W.Frag
  mg : Str → Option Value
  base : Heap
  N : List Str
  env : Env
  outer : List Env
  k : Nat
  a : Addr
  go : Obj
  g : Nat
  os : OsState
def GF.cx (F : GF) (A : Around) (s0 : Shared) : Cx := { prog := F.P, w := F.w, K := F.K, mg := F.mg, base := F.base, A := A.deeper F.env, N := F.N, s_0 := s0, H_0 := fun _ => none, env := F.env, outer := F.outer, stack := F.env :: F.outer, ex := [], fn := fun _ => true, calm := true, pn := [], xe := fun _ _ => False }
/-- what it knows -/
structure GZ where
  Hf : Hp
  H : Hp
  R : Nat → Rg
  σ : L2.St
  st : Sl
  W : Prv
/-- it holds its own object, it runs -/
structure GHold (F : GF) (W : Prv) : Prop where
  obj : W.obj F.a = some F.go
  run : W.run F.g ∧ ∀ i, W.run i → i = F.g
  os : W.os = some F.os
structure GInv (ca : Nat → Addr) (F : GF) (A : Around) (z : GZ) (P : Rg) (pp : Prop) (s : Shared) : Prop where
  cx : ∃ s0 : Shared, s0.heap.objs.size = F.env.locals ∧ Inv (F.cx A s0) [] z.σ z.H s ∧ Held (F.cx A s0) [] z.H z.W s
  room : RoomG F.k (A.deeper F.env)
  pr : PR ca F.K z.Hf z.H P pp z.R z.σ z.st
  hold : GHold F z.W
/-- from z on, no sleep between -/
structure GZ.tr (z : GZ) (P : Rg) (z1 : GZ) : Prop where
  t : Tr (jn Em z.R) z.Hf z.H (jn P z1.R) z1.Hf z1.H
  s0 : z1.W.s0 = z.W.s0
theorem GZ.tr.trans {z z1 z2 : GZ} {P : Rg} (a : z.tr Em z1) (b : z1.tr P z2) : z.tr P z2 := ⟨a.t.trans b.t, b.s0.trans a.s0⟩
theorem GZ.tr.refl {z : GZ} : z.tr Em z := ⟨Tr.refl fun _ q => q, rfl⟩
/-- the same things held -/
structure Prv.Same (W W1 : Prv) : Prop where
  obj : W.obj = W1.obj
  gen : W.gen = W1.gen
  run : W.run = W1.run
  os : W.os = W1.os
theorem Prv.Same.rfl {W : Prv} : Prv.Same W W := ⟨Eq.refl _, Eq.refl _, Eq.refl _, Eq.refl _⟩
theorem Prv.Same.trans {W W1 W2 : Prv} (a : Prv.Same W W1) (b : Prv.Same W1 W2) : Prv.Same W W2 := ⟨a.obj.trans b.obj, a.gen.trans b.gen, a.run.trans b.run, a.os.trans b.os⟩
/-- what the segment's end is to do: the data are handed out one by one, then it ends -/
def GAcc (ca : Nat → Addr) (F : GF) : List D → Around → GZ → (End → Shared → Prop) → Prop
  | [], A, z, Φ => ∀ (s1 : Shared) (z1 : GZ), GInv ca F A z1 Em True s1 → z.tr Em z1 → Φ (.ret (.ok (.ret .none))) s1
  | d :: ds, A, z, Φ => ∀ (s1 : Shared) (z1 : GZ) (P1 : Rg) (v : V) (u : Value) (k' : Resume → Sem PySem.Fin) (c' : Code) (p' : Pos) (fs' : List Frame), GInv ca F A z1 P1 (Rep ca F.K z1.Hf z1.H P1 v d) s1 → z.tr P1 z1 → RelV v u → NG fs' → fs'.any Frame.guarded = false → okSl z1.st = true →
      (∀ (A2 : Around) (s2 : Shared) (z2 : GZ), z2.st = z1.st → Prv.Same z2.W z1.W → GInv ca F A2 z2 Em True s2 → Ex z1.Hf z2.Hf → ∀ Φ', GAcc ca F ds A2 z2 Φ' → Sg (model F.P F.w) A2 Φ' c' (k' (.send .none)) fs' s2) →
      Φ (.susp u false [] k' c' p' fs') s1
/-- where the code stands -/
structure GCd (F : GF) (c : Code) (fs : List Frame) (gd : Bool → Bool) : Prop where
  over : ∀ A : Around, A.over c fs = A.deeper F.env
  ng : NG fs
  guard : fs.any Frame.guarded = false
  gd : gd false = false
section
variable {ca : Nat → Addr} {F : GF} {A : Around} {z z' : GZ} {s s' : Shared} {c : Code} {fs : List Frame} {K : Flow → Sem PySem.Fin} {J : Value → Sem PySem.Fin} {gd : Bool → Bool} {lv : List Value → List Value} {dsK ds : List D}
theorem GAcc.from {Φ : End → Shared → Prop} (a : GAcc ca F ds A z Φ) (t : z.tr Em z') : GAcc ca F ds A z' Φ := by
  cases ds with
  | nil => exact fun s1 z1 I t1 => a s1 z1 I (t.trans t1)
  | cons d ds => exact fun s1 z1 P1 v u k' c' p' fs' I t1 => a s1 z1 P1 v u k' c' p' fs' I (t.trans t1)
theorem GInv.drop {P : Rg} {pp : Prop} (g : GInv ca F A z P pp s) : GInv ca F A z Em True s := ⟨g.cx, g.room, g.pr.drop, g.hold⟩

/-! ### statements that hand out nothing -/
/-! ### lists of statements -/
/-! ### yield -/
end
end DL

/-! DL162: if and for in a generator's body. -/
namespace DL
open PySem L2 PyProof.Rows

section
variable {ca : Nat → Addr} {F : GF} {A : Around} {z z' : GZ} {s s' : Shared} {c : Code} {fs : List Frame} {J : Value → Sem PySem.Fin} {gd : Bool → Bool} {lv : List Value → List Value} {dsK ds : List D}

/-! ### if -/
/-! ### for -/
/-- an iterator's own object, seen from the generator's frame -/
def FpG (F : GF) (H : Hp) (b : Addr) : Prop := H b = none ∧ b ≠ F.env.locals ∧ b ∉ frs F.outer ∧ F.env.locals ≤ b ∧ ∀ x c, F.env.cells.lookup x = some c → c ≠ b
theorem FpG.ok {H : Hp} {b : Addr} {s0 : Shared} (h : FpG F H b) (hs : s0.heap.objs.size = F.env.locals) : FpOk (F.cx A s0) [] H b := ⟨h.1, h.2.1, h.2.2.1, .inr (by show s0.heap.objs.size ≤ b; rw [hs]; exact h.2.2.2.1), h.2.2.2.2, fun p hp => absurd (show p ∈ ([] : List (Addr × Obj)) ++ [] from hp) (by simp)⟩
theorem FpG.of {H : Hp} {b : Addr} {s0 : Shared} (h : FpOk (F.cx A s0) [] H b) (hs : s0.heap.objs.size = F.env.locals) : FpG F H b := ⟨h.1, h.2.1, h.2.2.1, h.2.2.2.1.elim (fun z => absurd (show b ∈ ([] : List Addr) from z) (by simp)) fun z => by rw [← hs]; exact z, h.2.2.2.2.1⟩
/-- the private things and, beside them, the objects at fp as they stand -/
def Prv.more (W : Prv) (fp : List Addr) (h : Heap) : Prv := ⟨fun b => if b ∈ fp then h.get? b else W.obj b, W.gen, W.run, W.os, W.s0⟩
/-- the loop's own things -/
structure Lp (F : GF) (W : Prv) (fp : List Addr) (H : Hp) : Prop where
  its : ∀ b ∈ fp, FpG F H b
  out : ∀ b ∈ fp, W.obj b = none
theorem GHold.same {W W1 : Prv} (x : GHold F W1) (h : Prv.Same W W1) : GHold F W := ⟨by rw [h.obj]; exact x.obj, by rw [h.run]; exact x.run, by rw [h.os]; exact x.os⟩
theorem GHold.more {W : Prv} {fp : List Addr} {h : Heap} (x : GHold F W) (hout : ∀ b ∈ fp, W.obj b = none) : GHold F (W.more fp h) :=
  ⟨by
    show (if F.a ∈ fp then h.get? F.a else W.obj F.a) = some F.go
    rw [if_neg fun hb => by
      have := x.obj
      rw [hout _ hb] at this
      cases this]
    exact x.obj, x.run, x.os⟩
end
end DL

/-! DL163: a for loop in a generator's body. -/
namespace DL
open PySem L2 PyProof.Rows

section
variable {ca : Nat → Addr} {F : GF}
theorem ItD.later {ca : Nat → Addr} {K : PySem.W.Frag} {Jt : L2.It} {Hf Hf1 : Hp} {ds : List D} (h : ItD ca K Jt Hf ds) (hx : Ex Hf Hf1) : ItD ca K Jt Hf1 ds := fun Hf' H' h1 h2 h3 => h Hf' H' (fun b o e => h1 b o (hx b o e)) h2 h3
def Prv.at (W : Prv) (o : Option Shared) : Prv := { W with s0 := o }
theorem Prv.Same.at {W : Prv} {o : Option Shared} : Prv.Same (W.at o) W := ⟨Eq.refl _, Eq.refl _, Eq.refl _, Eq.refl _⟩
theorem Held.same {X : Cx} {pins : List (Addr × Obj)} {H : Hp} {W W1 : Prv} {s : Shared} (hd : Held X pins H W s) (h : Prv.Same W W1) : Held X pins H (W1.at W.s0) s :=
  ⟨fun b o e => hd.obj b o (by rw [h.obj]; exact e), fun i x e => hd.gen i x (by rw [h.gen]; exact e), fun i e => hd.run i (by rw [h.run]; exact e), fun o e => hd.os o (by rw [h.os]; exact e), fun o e => hd.s0 o e⟩
end
end DL

/-! DL164: a generator falls asleep and is woken. -/
namespace DL
open PySem L2 PyProof.Rows

section
variable {P : Program} {w : World} {H H' : Hp} {h h' : Heap} {a : Addr} {o : HO} {ca : Nat → Addr} {K : PySem.W.Frag} {Hf Hf' : Hp}
theorem objOk_alive (x : ObjOk P w H h a o) : ∃ u, h.get? a = some u := by
  cases o with
  | lst xs => obtain ⟨_, _, _, _, e⟩ := x; exact ⟨_, e⟩
  | tup xs => obtain ⟨_, _, _, o, e, _⟩ := x; exact ⟨_, e⟩
  | dK kvs => obtain ⟨_, _, _, _, o, _, _, e, _⟩ := x; exact ⟨_, e⟩
  | dT kvs => obtain ⟨_, _, _, _, o, _, _, e, _⟩ := x; exact ⟨_, e⟩
  | set S n => obtain ⟨o, _, _, _, e, _⟩ := x; exact ⟨_, e⟩
  | ins C dx fs => obtain ⟨_, _, _, e, _⟩ := x; exact ⟨_, e⟩
  | own y => exact x
  | xd fs => obtain ⟨_, ⟨o, _, _, e, _⟩, _⟩ := x; exact ⟨_, e⟩
  | rng lo hi => obtain ⟨_, _, _, e⟩ := x; exact ⟨_, e⟩
  | frz ob u => exact ⟨_, x.1⟩
  | tbl ps => exact ⟨_, x⟩
  | met f y => exact ⟨_, x⟩
  | ext φ => exact x.2.1
/-- the region may be cut down to its lists -/
def isLstH (H : Hp) (b : Addr) : Prop := ∃ xs, H b = some (.lst xs)
end

/-- it is a generator's object -/
def GenO (g : Nat) (o : Obj) : Prop := ∃ nm qn, o.cls = .type "generator" ∧ o.data = .fields #[.int g 0, nm, qn] ∧ o.slots = #[]
theorem GenO.is {g : Nat} {o : Obj} {h : Heap} {a : Addr} (x : GenO g o) (e : h.get? a = some o) : h.IsGen a g := let ⟨nm, qn, r⟩ := x; ⟨o, nm, qn, e, r⟩
/-- how it sleeps (or has not begun) -/
structure Slp (ca : Nat → Addr) (F : GF) (z : GZ) (s : Shared) : Prop where
  cx : ∃ (A : Around) (s0 : Shared), s0.heap.objs.size = F.env.locals ∧ Inv (F.cx A s0) [] z.σ z.H s ∧ Held (F.cx A s0) [] z.H z.W s
  pr : PR ca F.K z.Hf z.H Em True z.R z.σ z.st
  lst : ∀ i b, z.R i b → isLstH z.H b
  frame : F.env.frame = some F.env.locals
  hold : GHold F z.W
  go : GenO F.g F.go
/-- its private places -/
def isPrv (F : GF) (z : GZ) (b : Addr) : Prop := (∃ i, z.R i b) ∨ b = F.env.locals ∨ ∃ y, F.env.cells.lookup y = some b
open Classical in
noncomputable def prvOf (F : GF) (z : GZ) (s : Shared) (x : GenState) : Prv :=
  ⟨fun b => if isPrv F z b then s.heap.get? b else z.W.obj b, fun i => if i = F.g then some x else z.W.gen i, fun _ => False, none, none⟩
open Classical in
/-- what it knows when it is woken: what it knew of its own, what the others know, all else as private things of others -/
noncomputable def wkH (F : GF) (z : GZ) (G : Prv) (H : Hp) (s : Shared) : Hp := fun b => if (∃ i, z.R i b) then z.H b else match G.obj b with
  | some _ => none
  | none => match H b with
    | some o => some o
    | none => if (F.base.get? b).isSome = true ∨ b ∈ frs F.outer then none else (s.heap.get? b).map (PO b)
open Classical in
/-- what the others know when it falls asleep -/
noncomputable def slH (R1 : Nat → Rg) (G : Prv) (H : Hp) (s : Shared) (H1 : Hp) : Hp := fun b => if (∃ i, R1 i b) then none else if G.obj b = none ∧ H b = none ∧ (s.heap.get? b).isSome = true then none else H1 b

section
variable {ca : Nat → Addr} {F : GF} {z : GZ} {s s1 : Shared} {x : GenState} {A : Around} {Hf H : Hp}
theorem prv_in {b : Addr} (h : isPrv F z b) : (prvOf F z s x).obj b = s.heap.get? b := by unfold prvOf; exact if_pos h
theorem wkH_H {G : Prv} {b : Addr} {o : HO} (h : ¬ ∃ i, z.R i b) (e : G.obj b = none) (e2 : H b = some o) : wkH F z G H s b = some o := by unfold wkH; rw [if_neg h, e, e2]
theorem wkH_f {G : Prv} {b : Addr} {o : Obj} (h : ¬ ∃ i, z.R i b) (e : G.obj b = none) (e2 : H b = none) (k : ¬ ((F.base.get? b).isSome = true ∨ b ∈ frs F.outer)) (e3 : s.heap.get? b = some o) : wkH F z G H s b = some (PO b o) := by
  unfold wkH
  rw [if_neg h, e, e2]
  dsimp only
  rw [if_neg k, e3]
  rfl
/-- facts of the sleeper -/
theorem Slp.rtracked (sl : Slp ca F z s) {b : Addr} (h : ∃ i, z.R i b) : ∃ o u, s.heap.get? b = some o ∧ z.H b = some u := by
  obtain ⟨i, h⟩ := h
  obtain ⟨A, s0, _, I, _⟩ := sl.cx
  obtain ⟨xs, e⟩ := sl.lst i b h
  obtain ⟨o, eo⟩ := objOk_alive (I.hok b _ e)
  exact ⟨o, _, eo, e⟩
theorem Slp.prv_some (sl : Slp ca F z s) {b : Addr} (h : isPrv F z b) : ∃ o, (prvOf F z s x).obj b = some o := by
  rw [prv_in h]
  obtain ⟨A, s0, _, I, _⟩ := sl.cx
  rcases h with h | h | ⟨y, h⟩
  · obtain ⟨o, _, e, _⟩ := sl.rtracked h
    exact ⟨o, e⟩
  · obtain ⟨m, ⟨o, _, _, e, _⟩, _⟩ := I.loc
    rw [h]
    exact ⟨o, e⟩
  · obtain ⟨v, o, e, _⟩ := I.cell y b h
    exact ⟨o, e⟩
/-- the state of the wake, cut down to what the generator may know of it -/
def wkS (F : GF) (s : Shared) : Shared := { s with heap := cutH s.heap F.env.locals fun b => (F.base.get? b).isSome || decide (b ∈ frs F.outer) }
end
end DL

/-! DL165: what a turn of a generator leaves to the others. -/
namespace DL
open PySem L2 PyProof.Rows

section
variable {ca : Nat → Addr} {F : GF} {z z3 : GZ} {s s1 s' s2 : Shared} {x y : GenState} {A : Around} {Hf H : Hp} {P3 : Rg} {pp : Prop} {R3 : Nat → Rg}
noncomputable abbrev wkZ (F : GF) (z : GZ) (s1 : Shared) (x : GenState) (Hf H : Hp) (s : Shared) : GZ := ⟨Hf, wkH F z (prvOf F z s1 x) H s, z.R, z.σ, z.st, z.W.at (some (wkS F s))⟩
theorem slH_o {G : Prv} {H1 : Hp} {b : Addr} (h : ¬ ∃ i, R3 i b) (h2 : ¬ (G.obj b = none ∧ H b = none ∧ (s.heap.get? b).isSome = true)) : slH R3 G H s H1 b = H1 b := by
  unfold slH
  rw [if_neg h, if_neg h2]
/-- all that follows from a turn -/
structure Asl (ca : Nat → Addr) (F : GF) (z z3 : GZ) (s1 s s' : Shared) (x : GenState) (A : Around) (Hf H : Hp) (P3 : Rg) (pp : Prop) : Prop where
  sl : Slp ca F z s1
  wk : Wk F.P F.w F.K F.mg F.base F.outer (F.k + 2) F.os z.Hf (prvOf F z s1 x) A s Hf H
  gi : GInv ca F A.in1 z3 P3 pp s'
  tr : GZ.tr (wkZ F z s1 x Hf H s) P3 z3
  hm : HM s.heap s'.heap
section
variable (q : Asl ca F z z3 s1 s s' x A Hf H P3 pp)
include q
theorem Asl.inv : ∃ s0, s0.heap = (wkS F s).heap ∧ s0.os = F.os ∧ s0.heap.objs.size = F.env.locals ∧ Inv (F.cx A.in1 s0) [] z3.σ z3.H s' ∧ Held (F.cx A.in1 s0) [] z3.H z3.W s' := by
  obtain ⟨s0, h1, I, hd⟩ := q.gi.cx
  refine ⟨s0, ?_, hd.os F.os q.gi.hold.os, h1, I, hd⟩
  have := hd.s0 (wkS F s) q.tr.s0
  rw [← this]
  rfl
theorem Asl.pnone {b : Addr} {o : Obj} (e : (prvOf F z s1 x).obj b = some o) : H b = none := (q.wk.obj b o e).2.1
theorem Asl.gnone {b : Addr} {u : HO} (e : H b = some u) : (prvOf F z s1 x).obj b = none := by
  cases h : (prvOf F z s1 x).obj b with
  | none => rfl
  | some o => rw [q.pnone h] at e; cases e
theorem Asl.rprv {b : Addr} (h : ∃ i, z.R i b) : ∃ o, (prvOf F z s1 x).obj b = some o := q.sl.prv_some (.inl h)
/-- what the others knew is known still -/
theorem Asl.keep {b : Addr} {u : HO} (e : H b = some u) : z3.H b = some u := by
  have nR : ¬ ∃ i, z.R i b := fun h => by
    obtain ⟨o, e2⟩ := q.rprv h
    rw [q.pnone e2] at e; cases e
  refine q.tr.t.keep b u (wkH_H nR (q.gnone e) e) fun h => ?_
  rcases h with h | h
  · exact h
  · exact nR h
theorem Asl.base {b : Addr} {o : Obj} (e : F.base.get? b = some o) : s'.heap.get? b = some o ∧ z3.H b = none := by
  obtain ⟨s0, _, _, _, I, _⟩ := q.inv
  exact I.bs b o e
theorem Asl.fr {b : Addr} (hb : b ∈ frs F.outer) : ∃ o, s.heap.get? b = some o ∧ z3.H b = none ∧ ∃ sl, s'.heap.get? b = some { o with slots := sl } := by
  obtain ⟨s0, h0, _, h1, I, _⟩ := q.inv
  obtain ⟨hn, o, ho, _⟩ := I.ok.funs.mem hb
  have ho : s0.heap.get? b = some o := ho
  rw [h0] at ho
  obtain ⟨_, _, hs⟩ := of_cutH ho
  have hx : b ∉ (F.cx A.in1 s0).ex := fun z => absurd (show b ∈ ([] : List Addr) from z) (by simp)
  obtain ⟨sl, e⟩ := I.base.slot b o (by show s0.heap.get? b = some o; rw [h0]; exact ho) rfl hb hx
  exact ⟨o, hs, I.base.free b o (by show s0.heap.get? b = some o; rw [h0]; exact ho) rfl hx, sl, e⟩
theorem Asl.p3 {b : Addr} (h : P3 b) (hl : ∀ i b, R3 i b → z3.R i b ∧ isLstH z3.H b) : slH R3 (prvOf F z s1 x) H s z3.H b = z3.H b := by
  have m1 : ¬ ∃ i, R3 i b := fun ⟨i, h'⟩ => q.gi.pr.dp i b h (hl i b h').1
  obtain ⟨u, e⟩ := q.gi.pr.w.dm b (.inl h)
  refine slH_o m1 fun h' => ?_
  rcases q.tr.t.nw b (.inl h) with z' | z'
  · rcases z' with z' | z'
    · exact z'
    · obtain ⟨o, e4⟩ := q.rprv z'
      rw [h'.1] at e4; cases e4
  · obtain ⟨o, eo⟩ := Option.isSome_iff_exists.mp h'.2.2
    have nR : ¬ ∃ i, z.R i b := fun h2 => by
      obtain ⟨o, e4⟩ := q.rprv h2
      rw [h'.1] at e4; cases e4
    by_cases k : (F.base.get? b).isSome = true ∨ b ∈ frs F.outer
    · rcases k with k | k
      · obtain ⟨o', k⟩ := Option.isSome_iff_exists.mp k
        have := (q.base k).2
        rw [e] at this; cases this
      · obtain ⟨_, _, k, _⟩ := q.fr k
        rw [e] at k; cases k
    · have := wkH_f nR h'.1 h'.2.1 k eo
      rw [show (wkZ F z s1 x Hf H s).H b = wkH F z (prvOf F z s1 x) H s b from rfl, this] at z'
      cases z'
end
theorem Woke.kept {G : Prv} {s s1 s2 : Shared} {Hf H Hf1 H1 : Hp} {P : Program} {w : World} {outer : List Env} {Q : Rg} {ex : List Addr} (x : Woke P w outer G s Hf H s1 Hf1 H1 Q ex) (k : ∀ b o, s1.heap.get? b = some o → s2.heap.get? b = some o) (h1 : s2.os = s1.os) (h2 : AllBare s2.gens) : Woke P w outer G s Hf H s2 Hf1 H1 Q ex :=
  ⟨h1.trans x.os, h2, x.exs, x.un.trans (Un.kept k), x.hok.kept k, x.tr, x.w⟩
end
end DL

/-! DL166: a generator def and its calls. -/
namespace DL
open PySem L2 PyProof.Rows

section
variable {ca : Nat → Addr} {P : Program} {w : World} {K : PySem.W.Frag} {mg : Str → Option Value} {base : Heap}
end
end DL

set_option maxHeartbeats 1000000
/-! DL167: enumerate over a generator. -/
namespace DL
open PySem L2 PyProof.Rows
open AutoSeq1 (wpAny_loadPart')

section
variable {ca : Nat → Addr} {P : Program} {w : World} {K : PySem.W.Frag} {mg : Str → Option Value} {base : Heap} {outer : List Env} {k : Nat} {os0 : OsState}
def Prv.with (G : Prv) (e : Addr) (o : Obj) : Prv := { G with obj := fun b => if b = e then some o else G.obj b }
theorem with_ne {G : Prv} {e b : Addr} {o : Obj} (h : b ≠ e) : (G.with e o).obj b = G.obj b := by
  show (if b = e then some o else G.obj b) = _
  rw [if_neg h]
theorem Wk.less {G : Prv} {e : Addr} {o : Obj} {A : Around} {s : Shared} {Hf0 Hf H : Hp} (w' : Wk P w K mg base outer (k + 1) os0 Hf0 (G.with e o) A s Hf H) (hn : G.obj e = none) : Wk P w K mg base outer k os0 Hf0 G A.in1 s Hf H :=
  ⟨w'.room.in1, w'.os, w'.env.in1, w'.fx, w'.hx, w'.tp, fun b u q => w'.obj b u (by rw [with_ne fun z => by rw [z, hn] at q; cases q]; exact q), w'.gen⟩
end
end DL

/-! DL168: a def's context does not ask for the sleepers. -/
namespace DL
open PySem L2 PyProof.Rows
end DL

set_option maxHeartbeats 1000000
/-! DL169: an expression that only looks: all slots are shown frozen to it, and are as before after it. -/
namespace DL
open PySem L2 PyProof.Rows
def roOk : D → Bool
  | .lst true xs => xs.all flat
  | d => flat d
def frzS (st : Sl) : Sl := st.map fun o => o.map frz
/-- the expression sees all that stands in the slots frozen; what it gives holds nothing of theirs -/
def eRo (m : ME) : ME := fun st => match m (frzS st) with
  | .ok d _ => if roOk d then .ok d st else .fail
  | _ => .fail
theorem getS_frzS (st : Sl) (i : Nat) : getS (frzS st) i = (getS st i).map frz := by
  unfold frzS getS
  rw [List.getElem?_map]
  cases st[i]? with
  | none => rfl
  | some o => cases o <;> rfl
section
variable {ca : Nat → Addr} {K : PySem.W.Frag} {Hf H H3 Hf1 H1 Hf2 H2 : Hp} {S P : Rg} {R R1 R2 : Nat → Rg} {σ : L2.St} {st : Sl} {v : V} {d : D} {vs : List V} {ds : List D} {X : Cx} {L : List Nat}
theorem rep_ro (r : Rep ca K Hf H S v d) (h : roOk d = true) : Rep ca K Hf2 H S v d := by
  cases r with
  | lstO s e r => exact .lstO s e (repL_fl r h)
  | lstF e r => exact absurd h (fun z => by cases z)
  | non => exact .non
  | bl => exact .bl
  | int => exact .int
  | str => exact .str
  | _ => exact absurd h (fun z => by cases z)
end
end DL
namespace DL
open PySem (Str)
end DL

/-! DL170: what generators hand out, evaluated. -/
namespace DL
open PySem (Str)
open PySem L2
end DL

/-! DL171: sorted(set(a list of whole numbers)), fewer than 64 apart. -/
namespace DL
open PySem PySem.Spec PyProof.Rows L2
end DL

set_option maxHeartbeats 2000000
/-! DL172: != of two lists that stand, whose items are flat, lists of flat things, or instances equal by their own ==. -/
namespace DL
open PySem PySem.Spec PyProof.Rows L2
section
variable {ca : Nat → Addr} {K : PySem.W.Frag} {Hf H Hf1 H1 Hf2 H2 : Hp} {S S1 S2 P P1 P2 : Rg} {R R1 R2 : Nat → Rg} {σ σ' : L2.St} {st st' : Sl} {v w x y : V} {d e : D} {vs : List V} {ds xs : List D} {X : Cx} {L : List Nat}
/-! ### the data -/
end
end DL

/-! DL173: a, b, c = x, y, z where what is stored may be owned. -/
namespace DL
open PySem L2 PyProof.Rows
section
variable {ca : Nat → Addr} {K : PySem.W.Frag} {Hf H : Hp} {P : Rg} {R : Nat → Rg} {σ : L2.St} {st : Sl} {v w x : V} {d e f : D} {X : Cx} {L : List Nat}
end
end DL

set_option maxHeartbeats 2000000
/-! DL174: == and != of two lists that stand, by their items (flat, instances with an own ==, tuples and lists of these): True and False. -/
namespace DL
open PySem PySem.SeqAt GQ
open AutoSeq1 (wpAny_loadPart')
open MeetsSeq MeetsSeq2 MeetsSeq3 SeqRoads2
section
variable {prog : Program} {w : World} {A : Around} {R : Result → Shared → Prop}
end
end DL

set_option maxHeartbeats 1000000
/-! DL175: a def whose last parameter has a default (a flat constant), called with it or without. -/
namespace DL
open PySem L2 PyProof.Rows
structure DefB (K : PySem.W.Frag) (fd : FuncData) (ps : List Str) (dv : V) : Prop where
  full : Binds K fd ps []
  dflt : ∃ u : Value, RelV dv u ∧ Binds K fd ps [u]
section
variable {K : PySem.W.Frag} {x qual : Str} {params : Arguments} {body : List Stmt} {scope : Scope} {dv : V} {f : Addr} {fd : FuncData}
end
section
variable {ca : Nat → Addr} {P : Program} {w : World} {K : PySem.W.Frag} {mg : Str → Option Value} {base : Heap} {L : List Nat}
end
end DL

set_option maxHeartbeats 1000000
/-! DL176: o.f, o.g = t.f, t.g: what the slot of t owns (g's value) goes over to o; t is not used after it. -/
namespace DL
open PySem PySem.Spec PyProof.Rows L2
section
variable {ca : Nat → Addr} {K : PySem.W.Frag} {Hf H Hf1 H1 Hf2 H2 : Hp} {S P : Rg} {R R1 R2 : Nat → Rg} {σ : L2.St} {st : Sl} {v : V} {d : D} {vs : List V} {ds : List D} {X : Cx} {L : List Nat}
end
end DL

set_option maxHeartbeats 2000000
/-! DL177: == and != of two lists that stand (flat, own ==, tuples and lists of these), answered by their data; a def with a default as the linked program holds it. -/
namespace DL
open PySem PySem.Spec PyProof.Rows L2
section
variable {ca : Nat → Addr} {K : PySem.W.Frag} {Hf H Hf1 H1 Hf2 H2 : Hp} {S S1 S2 P P1 P2 : Rg} {R R1 R2 : Nat → Rg} {σ σ' : L2.St} {st st' : Sl} {v w x y : V} {d e : D} {vs : List V} {ds xs : List D} {X : Cx} {L : List Nat} {A : Around}
/-! ### the data -/
end
end DL

/-! DL178: slices of lists of cold items; the last item; a default, == of lists, a look evaluated. -/
namespace DL
open PySem (Str)
open Nw
theorem s01_d {o : Bool} {ds : List D} {k : Nat} (hc : colds ds = true) (hl : ds.length ≤ 1000000) : oS01 [.lst o ds, .int (k : Int)] = some (.newL (ds.take k)) := by
  show newLc (cutD ds none (some (k : Int))) = _
  have e1 : HT.sIx ds.length ds.length (some (k : Int)) = min k ds.length := by
    unfold HT.sIx
    simp only []
    split <;> omega
  have e : cutD ds none (some (k : Int)) = ds.take k := by
    unfold cutD
    rw [e1]
    show (ds.drop 0).take (min k ds.length - 0) = _
    rw [List.drop_zero, Nat.sub_zero, List.take_eq_take_iff]
    omega
  rw [e]
  unfold newLc
  have hc2 : colds (ds.take k) = true := by
    unfold colds at hc ⊢
    exact List.all_eq_true.mpr fun x hx => List.all_eq_true.mp hc x (List.mem_of_mem_take hx)
  rw [hc2, List.length_take]
  exact if_pos (by simp; omega)
theorem drop_d {ds : List D} {k : Nat} (hc : colds ds = true) : colds (ds.drop k) = true := by
  unfold colds at hc ⊢
  exact List.all_eq_true.mpr fun x hx => List.all_eq_true.mp hc x (List.mem_of_mem_drop hx)
theorem s10_d {o : Bool} {ds : List D} {k : Nat} {i : Int} (hi : i = (k : Int)) (hc : colds ds = true) (hl : ds.length ≤ 1000000) : oS10 [.lst o ds, .int i] = some (.newL (ds.drop k)) := by
  subst hi
  show newLc (cutD ds (some (k : Int)) none) = _
  have e1 : HT.sIx ds.length 0 (some (k : Int)) = min k ds.length := by
    unfold HT.sIx
    simp only []
    split <;> omega
  have e : cutD ds (some (k : Int)) none = ds.drop k := by
    unfold cutD
    rw [e1]
    show (ds.drop (min k ds.length)).take (ds.length - min k ds.length) = _
    by_cases h : k ≤ ds.length
    · rw [Nat.min_eq_left h]
      exact List.take_of_length_le (by rw [List.length_drop]; exact Nat.le_refl _)
    · rw [Nat.min_eq_right (by omega), List.drop_length, List.drop_eq_nil_of_le (by omega), List.take_nil]
  rw [e]
  unfold newLc
  rw [drop_d hc, List.length_drop]
  exact if_pos (by simp; omega)
theorem rev_dd {o : Bool} {ds : List D} (hc : colds ds = true) (hl : ds.length ≤ 1000000) : oRevA [.lst o ds] = some (.newL ds.reverse) := by
  show newLc ds.reverse = _
  unfold newLc
  have hc2 : colds ds.reverse = true := by
    unfold colds at hc ⊢
    exact List.all_eq_true.mpr fun x hx => List.all_eq_true.mp hc x (List.mem_reverse.mp hx)
  rw [hc2, List.length_reverse]
  exact if_pos (by simp; omega)
theorem ix_at {o : Bool} {xs : List D} {i : Int} {d : D} (h0 : 0 ≤ i) (h1 : xs[i.toNat]? = some d) (hc : cold d = true) : oIx [.lst o xs, .int i] = some (.val d) := by
  have lt := (List.getElem?_eq_some_iff.mp h1).1
  have a : L2.atI xs i = some d := by
    unfold L2.atI
    rw [ixN_nat h0 (by omega)]
    exact h1
  show (match L2.atI xs i with | some d => if cold d then some (Out.val d) else none | none => none) = _
  rw [a]
  show (if cold d = true then _ else _) = _
  rw [hc]
  rfl

end DL

/-! DL179: a call without arguments. -/
namespace DL
open PySem PySem.Spec PyProof.Rows L2
section
variable {ca : Nat → Addr} {X : Cx}
end
end DL

set_option maxHeartbeats 1000000
/-! DL180: == and != of an instance with an own == and an instance of another class (no subclass of it). -/
namespace PySem
open Sem (wp)
open Builtin
section
variable {prog : Program} {w : World} {A : Around} {E : Value → Shared → Prop} {h : Heap} {g : Array GenState} {d : Drawn} {t : Nat} {os : OsState} {C C2 x y f : Addr} {B : String} {bm : List Value}
end
end PySem
namespace DL
open PySem PySem.Spec PyProof.Rows L2
section
variable {ca : Nat → Addr} {K : PySem.W.Frag} {Hf H Hf1 H1 : Hp} {S P : Rg} {R R1 : Nat → Rg} {σ : L2.St} {st : Sl} {v : V} {d : D} {vs : List V} {ds : List D} {X : Cx} {L : List Nat}
end
end DL

set_option maxHeartbeats 1000000
/-! DL181: an own list of flat things is let stand for an expression's time, and is owned again after it: nothing else may hold a list that stands. -/
namespace DL
open PySem PySem.Spec PyProof.Rows L2
section
variable {ca : Nat → Addr} {K : PySem.W.Frag} {Hf H Hf1 H1 : Hp} {S S1 : Rg} {X : Cx}
end
end DL

set_option maxHeartbeats 2000000
/-! DL182: == of a tuple of anything with the empty tuple. -/
namespace DL
open PySem PySem.SeqAt GQ
open AutoSeq1 (wpAny_loadPart')
open MeetsSeq MeetsSeq2 MeetsSeq3 SeqRoads2
section
variable {prog : Program} {w : World} {A : Around} {R : Result → Shared → Prop}
end
end DL
namespace DL
open PySem PySem.Spec PySem.SeqAt GQ PyProof.Rows L2
section
variable {ca : Nat → Addr} {K : PySem.W.Frag} {X : Cx}
end
end DL

set_option maxHeartbeats 2000000
/-! DL183: the values of a dict with tuples as keys: list(d.values()), sum(d.values()). -/
namespace DL
open PySem PySem.Spec PyProof.Rows L2
section
variable {prog : Program} {w : World} {A : Around} {E : Value → Shared → Prop} {s : Shared} {it d v : Addr} {i ep : Nat} {o : Obj} {es : Array DictEntry} {Q : Option Value → Shared → Prop}
end
section
variable {prog : Program} {w : World} {A : Around} {E : Value → Shared → Prop} {s : Shared} {it d v : Addr} {i ep : Nat} {o : Obj} {es : Array DictEntry} {Q : Value → Shared → Prop}
end
section
variable {X : Cx} {e : Expr} {te : TE} {p apos cpos pos : Pos}
end
/-! ### as rules -/
def sumD : List D → Option Int
  | [] => some 0
  | .int i :: r => (sumD r).map (i + ·)
  | _ => none
section
variable {ca : Nat → Addr} {K : PySem.W.Frag} {Hf H : Hp} {S : Rg} {vs : List V} {ds : List D} {X : Cx}
end
end DL

set_option maxHeartbeats 2000000
/-! DL184: walking a slot's own dict with tuples as keys: for k in d, for k, v in d.items() (also in comprehensions); from then on the dict stands. -/
namespace DL
open PySem PySem.Spec PyProof.Rows L2
section
variable {P : Program} {w : World} {K : PySem.W.Frag} {d : Addr} {o : Obj} {es : Array DictEntry} {ep : Nat}
end
section
variable {ca : Nat → Addr} {K : PySem.W.Frag} {Hf H : Hp} {R : Nat → Rg} {σ : L2.St} {st : Sl} {v : V} {d : D} {vs : List V} {ds : List D} {X : Cx} {i : Nat}
end
section
variable {ca : Nat → Addr} {X : Cx} {i : Nat} {tg : Expr} {x : Str} {p apos cpos : Pos}
end
end DL

set_option maxHeartbeats 2000000
/-! DL185: d.get(k, x), d a slot's dict with tuples as keys. -/
namespace DL
open PySem PySem.Spec PyProof.Rows L2
section
variable {ca : Nat → Addr} {K : PySem.W.Frag} {Hf H Hf1 H1 Hf2 H2 : Hp} {S P P1 P2 : Rg} {R R1 R2 : Nat → Rg} {σ : L2.St} {st : Sl} {v : V} {d : D} {vs : List V} {ds : List D} {X : Cx}
end
end DL

/-! DL186: counting the shortest words from one list to another: level by level, with all exchanges or with those towards the target alone. -/
namespace Nw
open DL
/-! ### read backwards -/
end Nw

/-! DL187: a dict that counts lists: what it holds after each store; its evaluation. -/
namespace DL
open PySem (Str)
def kT (v : List Int) : List L2.Key := v.map Sum.inl
theorem kT_inj : ∀ {u v : List Int}, kT u = kT v → u = v
  | [], [], _ => rfl
  | [], _ :: _, h => by cases h
  | _ :: _, [], h => by cases h
  | a :: u, b :: v, h => by
    have h := List.cons.inj h
    rw [Sum.inl.inj h.1, kT_inj h.2]
abbrev DK := List (List L2.Key × D)
/-- the dict's values are how often its keys stand in L -/
structure CD (kvs : DK) (L : List (List Int)) : Prop where
  nd : (kvs.map (·.1)).Nodup
  ks : ∀ k ∈ kvs.map (·.1), ∃ l ∈ L, k = kT l
  val : ∀ l, valQ kvs (kT l) = if l ∈ L then some (.int ((L.count l : Nat) : Int)) else none
theorem CD.nil : CD [] [] := ⟨List.nodup_nil, (fun _ h => by cases h), fun l => rfl⟩
theorem CD.one (v : List Int) : CD [(kT v, .int 1)] [v] := by
  refine ⟨by simp, fun k hk => ⟨v, List.mem_singleton.mpr rfl, by simpa using hk⟩, fun l => ?_⟩
  by_cases e : l = v
  · subst e
    rw [valQ_cons_pos rfl, if_pos (List.mem_singleton.mpr rfl), List.count_singleton]
    simp
  · rw [valQ_cons_neg (fun z => e (kT_inj z).symm), if_neg (fun z => e (List.mem_singleton.mp z))]
    rfl
theorem putQ_keys {kvs : DK} {k : List L2.Key} (d : D) : (k ∈ kvs.map (·.1) → (putQ kvs k d).map (·.1) = kvs.map (·.1)) ∧ (k ∉ kvs.map (·.1) → (putQ kvs k d).map (·.1) = kvs.map (·.1) ++ [k]) := by
  have e : (kvs.any fun kv => decide (kv.1 = k)) = true ↔ k ∈ kvs.map (·.1) := by
    rw [List.any_eq_true, List.mem_map]
    simp only [decide_eq_true_eq]
  unfold putQ
  refine ⟨fun h => ?_, fun h => ?_⟩
  · rw [if_pos (e.mpr h), List.map_map]
    refine List.map_congr_left fun kv _ => ?_
    show (if kv.1 = k then (kv.1, d) else kv).1 = kv.1
    split <;> rfl
  · rw [if_neg fun z => h (e.mp z), List.map_append]
    rfl
theorem nodup_back {α β : Type} {f : α → β} : ∀ {L : List α}, (L.map f).Nodup → L.Nodup
  | [], _ => List.nodup_nil
  | x :: L, h => by
    rw [List.map_cons, List.nodup_cons] at h
    exact List.nodup_cons.mpr ⟨fun z => h.1 (List.mem_map.mpr ⟨x, z, rfl⟩), nodup_back h.2⟩
theorem nodup_le {α : Type} [DecidableEq α] : ∀ {L U : List α}, L.Nodup → (∀ x ∈ L, x ∈ U) → L.length ≤ U.length
  | [], _, _, _ => Nat.zero_le _
  | x :: L, U, h, s => by
    rw [List.nodup_cons] at h
    have hx := s x List.mem_cons_self
    have ih := nodup_le (L := L) (U := U.erase x) h.2 fun y hy => (List.mem_erase_of_ne (fun e => h.1 (by rw [← e]; exact hy))).mpr (s y (List.mem_cons_of_mem _ hy))
    rw [List.length_erase_of_mem hx] at ih
    have := List.length_pos_of_mem hx
    rw [List.length_cons]
    omega
theorem CD.put {kvs : DK} {L : List (List Int)} (h : CD kvs L) (a : List Int) {c : Nat} (hc : 0 < c) : CD (putQ kvs (kT a) (.int (((L.count a : Nat) : Int) + c))) (L ++ List.replicate c a) := by
  have ma : a ∈ L ++ List.replicate c a := List.mem_append_right _ (List.mem_replicate.mpr ⟨by omega, rfl⟩)
  refine ⟨?_, fun k hk => ?_, fun l => ?_⟩
  · rcases Classical.em (kT a ∈ kvs.map (·.1)) with n | n
    · rw [(putQ_keys _).1 n]
      exact h.nd
    · rw [(putQ_keys _).2 n]
      exact List.nodup_append.mpr ⟨h.nd, by simp, fun x hx y hy z => n (by rw [← List.mem_singleton.mp hy, ← z]; exact hx)⟩
  · have old : k ∈ kvs.map (·.1) → ∃ l ∈ L ++ List.replicate c a, k = kT l := fun hk => by
      obtain ⟨l, hl, e⟩ := h.ks k hk
      exact ⟨l, List.mem_append_left _ hl, e⟩
    rcases Classical.em (kT a ∈ kvs.map (·.1)) with n | n
    · rw [(putQ_keys _).1 n] at hk
      exact old hk
    · rw [(putQ_keys _).2 n] at hk
      rcases List.mem_append.mp hk with hk | hk
      · exact old hk
      · exact ⟨a, ma, List.mem_singleton.mp hk⟩
  · rw [valQ_put]
    by_cases e : l = a
    · subst e
      rw [if_pos rfl, if_pos ma, List.count_append, List.count_replicate_self]
      congr 2
    · rw [if_neg (fun z => e (kT_inj z)), h.val, List.count_append, List.count_eq_zero.mpr (fun z => e (List.mem_replicate.mp z).2), Nat.add_zero]
      by_cases m : l ∈ L
      · rw [if_pos m, if_pos (List.mem_append_left _ m)]
      · rw [if_neg m, if_neg fun z => (List.mem_append.mp z).elim m fun z => e (List.mem_replicate.mp z).2]
theorem valQ_in {kvs : DK} (nd : (kvs.map (·.1)).Nodup) {k : List L2.Key} {d : D} (h : (k, d) ∈ kvs) : valQ kvs k = some d := by
  induction kvs with
  | nil => cases h
  | cons p r ih =>
    rw [List.map_cons, List.nodup_cons] at nd
    rcases List.mem_cons.mp h with e | h
    · subst e; exact valQ_cons_pos rfl
    · rw [valQ_cons_neg fun e => nd.1 (by rw [e]; exact List.mem_map.mpr ⟨_, h, rfl⟩)]
      exact ih nd.2 h
def enP (p : List Int × Nat) : List L2.Key × D := (kT p.1, .int ((p.2 : Nat) : Int))
theorem count_pairs (a : List Int) : ∀ {M : List (List Int × Nat)}, (M.map (·.1)).Nodup → (M.flatMap fun p => List.replicate p.2 p.1).count a = ((M.find? fun p => decide (p.1 = a)).map (·.2)).getD 0
  | [], _ => rfl
  | p :: M, h => by
    rw [List.map_cons, List.nodup_cons] at h
    rw [List.flatMap_cons, List.count_append, List.find?_cons]
    by_cases e : p.1 = a
    · rw [decide_eq_true e, e, List.count_replicate_self]
      have : (M.flatMap fun p => List.replicate p.2 p.1).count a = 0 := List.count_eq_zero.mpr fun z => by
        obtain ⟨q, hq, z⟩ := List.mem_flatMap.mp z
        exact h.1 (List.mem_map.mpr ⟨q, hq, ((List.mem_replicate.mp z).2.symm.trans e.symm)⟩)
      rw [this]
      rfl
    · rw [decide_eq_false e, List.count_eq_zero.mpr (fun z => e (List.mem_replicate.mp z).2.symm), Nat.zero_add, count_pairs a h.2]
/-- its pairs -/
theorem CD.dec {kvs : DK} {L : List (List Int)} (h : CD kvs L) : ∃ M : List (List Int × Nat), kvs = M.map enP ∧ L.Perm (M.flatMap fun p => List.replicate p.2 p.1) ∧ (M.map (·.1)).Nodup ∧ ∀ p ∈ M, p.1 ∈ L ∧ 0 < p.2 ∧ p.2 = L.count p.1 := by
  have key : ∀ K : DK, (∀ kv ∈ K, kv ∈ kvs) → ∃ M : List (List Int × Nat), K = M.map enP ∧ ∀ p ∈ M, p.1 ∈ L ∧ 0 < p.2 ∧ p.2 = L.count p.1 := fun K => by
    induction K with
    | nil => exact fun _ => ⟨[], rfl, fun _ z => by cases z⟩
    | cons kv K ih =>
      intro hK
      obtain ⟨M, e, hM⟩ := ih fun x hx => hK x (List.mem_cons_of_mem _ hx)
      obtain ⟨k, d⟩ := kv
      have m := hK _ List.mem_cons_self
      obtain ⟨l, hl, rfl⟩ := h.ks k (List.mem_map.mpr ⟨_, m, rfl⟩)
      have v := valQ_in h.nd m
      rw [h.val, if_pos hl] at v
      cases v
      exact ⟨(l, L.count l) :: M, by rw [List.map_cons, ← e]; rfl, fun p hp => by
        rcases List.mem_cons.mp hp with e | hp
        · subst e; exact ⟨hl, List.count_pos_iff.mpr hl, rfl⟩
        · exact hM p hp⟩
  obtain ⟨M, e, hM⟩ := key kvs fun _ z => z
  have ndM : (M.map (·.1)).Nodup := by
    have nd := h.nd
    rw [e, List.map_map] at nd
    have e2 : M.map ((·.1) ∘ enP) = (M.map (·.1)).map kT := by rw [List.map_map]; rfl
    rw [e2] at nd
    exact nodup_back nd
  refine ⟨M, e, List.perm_iff_count.mpr fun a => ?_, ndM, hM⟩
  rw [count_pairs a ndM]
  cases f : M.find? fun p => decide (p.1 = a) with
  | some p =>
    have e1 : p.1 = a := by simpa using List.find?_some f
    have := (hM p (List.mem_of_find?_eq_some f)).2.2
    rw [e1] at this
    exact this.symm
  | none =>
    refine List.count_eq_zero.mpr fun z => ?_
    have v := h.val a
    rw [if_pos z, e] at v
    have : valQ (M.map enP) (kT a) = none := by
      unfold valQ
      rw [List.find?_eq_none.mpr, Option.map_none]
      intro kv hkv
      obtain ⟨p, hp, rfl⟩ := List.mem_map.mp hkv
      have := List.find?_eq_none.mp f p hp
      simp only [decide_eq_true_eq] at this ⊢
      exact fun z => this (kT_inj z)
    rw [this] at v
    cases v
theorem sumD_pairs : ∀ M : List (List Int × Nat), sumD ((M.map enP).map (·.2)) = some (((M.flatMap fun p => List.replicate p.2 p.1).length : Nat) : Int)
  | [] => rfl
  | p :: M => by
    show (sumD ((M.map enP).map (·.2))).map (((p.2 : Nat) : Int) + ·) = _
    rw [sumD_pairs M, Option.map_some, List.flatMap_cons, List.length_append, List.length_replicate]
    congr 1
theorem CD.sum {kvs : DK} {L : List (List Int)} (h : CD kvs L) : sumD (kvs.map (·.2)) = some ((L.length : Nat) : Int) := by
  obtain ⟨M, rfl, p, _, _⟩ := h.dec
  rw [sumD_pairs, p.length_eq]
theorem CD.len {kvs : DK} {L : List (List Int)} (h : CD kvs L) {U : List (List Int)} (hU : ∀ l ∈ L, l ∈ U) : kvs.length ≤ U.length := by
  obtain ⟨M, rfl, p, nd, hM⟩ := h.dec
  have := nodup_le nd (U := U) fun l hl => by
    obtain ⟨q, hq, rfl⟩ := List.mem_map.mp hl
    exact hU _ (hM q hq).1
  rw [List.length_map] at this ⊢
  exact this
theorem CD.colds {kvs : DK} {L : List (List Int)} (h : CD kvs L) : colds (kvs.map (·.2)) = true := by
  obtain ⟨M, rfl, _, _, _⟩ := h.dec
  unfold DL.colds
  rw [List.all_eq_true]
  intro d hd
  obtain ⟨kv, hkv, rfl⟩ := List.mem_map.mp hd
  obtain ⟨q, _, rfl⟩ := List.mem_map.mp hkv
  rfl
/-! ### evaluation -/
end DL

set_option maxHeartbeats 2000000
/-! DL188: dict(list of pairs), the keys tuples. -/
namespace DL
open PySem PySem.Spec PyProof.Rows L2
section
variable {X : Cx}
end
section
variable {ca : Nat → Addr} {K : PySem.W.Frag} {Hf H : Hp} {S : Rg} {vs : List V} {ds : List D} {X : Cx} {R : Nat → Rg} {σ : L2.St} {st : Sl}
end
end DL

set_option maxHeartbeats 2000000
/-! DL189: zip of a list or a tuple with a list or a tuple (any of the four), in a loop with a pair as its target. -/
namespace DL
open PySem PySem.Spec PyProof.Rows L2
def IterB (h : Heap) : Bool → Addr → Addr → Nat → Prop
  | false => h.IsListIter
  | true => h.IsTupleIter
theorem IterB.at {h h' : Heap} {it l : Addr} {i : Nat} : ∀ {k}, IterB h k it l i → (∀ o, h.get? it = some o → h'.get? it = some o) → IterB h' k it l i
  | false, q, e => Heap.IsListIter.at q e
  | true, q, e => Heap.IsTupleIter.at q e
theorem IterB.obj {h : Heap} {it l : Addr} {i : Nat} : ∀ {k}, IterB h k it l i → ∃ o, h.get? it = some o ∧ ∀ v, o.data ≠ .cell v
  | false, ⟨o, e, _, d⟩ => ⟨o, e, fun v q => by rw [d] at q; cases q⟩
  | true, ⟨o, e, _, d⟩ => ⟨o, e, fun v q => by rw [d] at q; cases q⟩
section
variable {ca : Nat → Addr} {K : PySem.W.Frag} {Hf H Hf1 H1 Hf2 H2 : Hp} {S S1 S2 P P1 P2 : Rg} {R R1 R2 : Nat → Rg} {σ : L2.St} {st : Sl} {v : V} {d : D} {vs us : List V} {ds xs ys : List D} {X : Cx} {L : List Nat}
end
end DL

/-! DL194: repr of a list of two things of which the second is an empty dict. -/
namespace DL
open PySem PySem.Spec PyProof.Rows L2
def rReprV (K : PySem.W.Frag) : List V → Hp → VK → Prop := fun xs H Q => rReprE K xs H Q ∨ ∃ l v p a, xs = [.ref l] ∧ H l = some (.lst [v, .ref a]) ∧ Dp K H v p ∧ rpOk p = true ∧ H a = some (.dK []) ∧ (listText [p.shown, "{}"]).length ≤ 16777216 ∧ Q (.str (listText [p.shown, "{}"])) H
def oReprV : List D → Option Out
  | [.lst z [x, .dic z2 []]] => if rpOk (toPy x) = true ∧ (listText [(toPy x).shown, "{}"]).length ≤ 16777216 then some (.val (.str (listText [(toPy x).shown, "{}"]))) else none
  | ds => oReprE ds
section
variable {ca : Nat → Addr} {K : PySem.W.Frag} {Hf H Hf1 H1 : Hp} {S : Rg} {X : Cx} {v : V} {d : D}
theorem call_reprV {k : Nat} (hr : RoomG k X.A) : CallR X (.builtin "repr") (rReprV X.K) := by
  intro pins s σ H xs us Q I r h
  rcases h with h | ⟨l, v, p, a, rfl, el, hd, ok, e, hz, q⟩
  · exact call_reprE hr pins s σ H xs us Q I r h
  · obtain ⟨u, rfl, rx⟩ := vals1 r
    obtain rfl : u = Value.ref l := rx
    unfold rpOk at ok
    simp only [Bool.and_eq_true, decide_eq_true_eq, Bool.not_eq_true'] at ok
    obtain ⟨⟨⟨⟨h1, h2⟩, h3⟩, h4⟩, h5⟩ := ok
    rw [sz_eq] at h5 hz
    have hu := hr.2.un
    obtain ⟨its, rv, pl, _⟩ := I.list (.inl (.inl el))
    obtain ⟨u1, u2, rfl, r1, r2⟩ : ∃ u1 u2, its = [u1, u2] ∧ RelV v u1 ∧ u2 = Value.ref a := by
      cases rv with
      | cons r1 rr => cases rr with
        | cons r2 rr2 => cases rr2; exact ⟨_, _, rfl, r1, r2⟩
    subst r2
    obtain ⟨as1, rd1⟩ := Dp.reads I p v u1 hd r1
    obtain ⟨_, lo, vs, kv, dd⟩ := (show ObjOk X.prog X.w H s.heap a (.dK []) from I.hok a _ e)
    cases kv
    obtain ⟨o, es, ep, ho, ⟨hc, _, _⟩, hdt, _, hp, _⟩ := dd
    have hn : es.toList = [] := by
      generalize es.toList = l at hp
      cases hp
      rfl
    have rd2 : Reads s.heap (.ref a) (.dict []) (a :: [] ++ []) := Reads.dict ho hc hdt (by rw [hn]; exact ReadsAll.nil) (by rw [hn]; exact ReadsAll.nil)
    have sh : (PyData.dict []).shown = "{}" := by kernel_rfl
    have no : sysModules ∉ (a :: [] ++ [] : List Addr) := fun z => by
      rw [List.append_nil, List.mem_singleton] at z
      rw [z] at lo
      simp at lo
    obtain ⟨ol, nl, hol, hcl, hxl, hdl⟩ := pl
    obtain ⟨b1, q1, k1⟩ := ReprK.of_reads (prog := X.prog) (w := X.w) rd1 h2 (PyData.noDict_hsm h3) h5
    obtain ⟨b2, q2, k2⟩ := ReprK.of_reads (prog := X.prog) (w := X.w) rd2 (by decide +kernel) (fun _ => no) (by rw [sh]; decide +kernel)
    rw [sh] at k2
    have d2 : (PyData.dict []).depth = 1 := by decide
    rw [d2] at q2 k2
    have rl : Reads s.heap (.ref l) (.list [p, .dict []]) _ := Reads.list hol hcl hdl (ReadsAll.cons rd1 (ReadsAll.cons rd2 ReadsAll.nil))
    have hb : ReadAtMost s.heap (p.depth + 1) (b1 ++ b2) := (q1.mono (by omega)).append (q2.mono (by omega))
    have k : ReprAllK X.prog X.w (b1 ++ b2) s.heap (p.depth + 1) [u1, .ref a] [p.shown, "{}"] := .cons ((k1.more fun b hb => List.mem_append_left _ hb).level_le (by omega)) (.cons ((k2.more fun b hb => List.mem_append_right _ hb).level_le (by omega)) .nil)
    have hna : l ∉ b1 ++ b2 := fun m => by
      rcases List.mem_append.mp m with m | m
      · exact not_mem_of_deeper rl (by simp only [PyData.depth, PyData.depthAll]; omega) q1 m
      · exact not_mem_of_deeper rl (by simp only [PyData.depth, PyData.depthAll]; omega) (q2.mono (m := 1) (Nat.le_refl _)) m
    refine call_repr_slot (T := "list") (idr := "list.__repr__") (by omega) ⟨ol, hol, hcl⟩ F.slot_list_repr.toG ?_
    refine call_list_reprK (as := b1 ++ b2) (d := p.depth + 1) (h₀ := s.heap) hol hcl hdl hna (by simp) (fun i y e => k.item i y (by simpa using e)) hr.1 (fun b _ => Clear.nil b) (by show X.A.units + 1 + (p.depth + 1 + 1) < cLine; omega) (fun _ _ e => e) (fun h' w tk keep => ⟨_, _, rfl, ?_⟩) hz
    exact ⟨.str _, H, I.kept (t' := tk) keep, ⟨_, rfl⟩, q⟩
theorem os_reprV : OpS ca K (rReprV K) oReprV := fun Hf H vs ds o Q hx rd h q => by
  have dK : ∀ {S : Rg} {v : V} {z : Bool}, Rep ca K Hf H S v (.dic z []) → ∃ a, v = .ref a ∧ H a = some (.dK []) := fun {S v z} r => by
    cases r with
    | dicF e k r =>
      rename_i kvs
      cases kvs with
      | nil => exact ⟨_, rfl, hx _ _ e⟩
      | cons p l => cases k
    | dicO s e k r =>
      rename_i kvs
      cases kvs with
      | nil => exact ⟨_, rfl, e⟩
      | cons p l => cases k
  have key : ∀ {z z2 : Bool} {x : D}, ds = [.lst z [x, .dic z2 []]] → rReprV K vs H Q := fun {z z2 x} e => by
    subst e
    dsimp only [oReprV] at h
    split at h
    · rename_i hz
      cases h
      obtain ⟨v, S, e1, r1⟩ := rdl1 rd rfl
      subst e1
      have hl : (toPy x).canLay0 = true := by
        have := hz.1
        unfold rpOk at this
        simp only [Bool.and_eq_true] at this
        exact this.1.1.1.1
      obtain ⟨l, ws, T, rfl, el, rr⟩ := rep_lst hx r1
      cases rr with
      | cons q1 q2 _ _ _ => cases q2 with
        | cons q3 q4 _ _ _ =>
          cases q4
          obtain ⟨a, rfl, ea⟩ := dK q3
          exact .inr ⟨l, _, _, a, rfl, el, rep_dp hx q1 hl, hz.1, ea, hz.2, q _ .str⟩
    · cases h
  by_cases c : ∃ (z z2 : Bool) (x : D), ds = [.lst z [x, .dic z2 []]]
  · obtain ⟨z, z2, x, e⟩ := c
    exact key e
  · refine .inl (os_reprE Hf H vs ds o Q hx rd ?_ q)
    rw [← h]
    unfold oReprV
    split
    · rename_i z x z2
      exact absurd ⟨z, z2, x, rfl⟩ c
    · rfl
end
end DL

set_option maxHeartbeats 1000000
/-! DL199: rows[e].insert(e1, e2), rows a slot's own list of own flat lists: they stand while the place and the item are computed. -/
namespace DL
open PySem PySem.Spec PyProof.Rows L2
/-- slots whose data are kept through it -/
def coldAt (st : Sl) (cs : List Nat) : Bool := cs.all fun j => match getS st j with | none => true | some d => !hot d
def thawC (st : Sl) (i : Nat) (cs : List Nat) : Bool := (List.range st.length).all fun j => decide (j = i) || cs.contains j || (match getS st j with | none => true | some d => noL d)
def backC (cs : List Nat) (st st2 : Sl) : Sl := cs.foldl (fun acc j => acc.set j (getS st j)) st2
def insR (i : Nat) (cs : List Nat) (st : Sl) (xs : List D) (j : Nat) (ys : List D) (kk y : D) (st3 : Sl) : Res D := match kk with
  | .int kk => if flat y = true ∧ 0 ≤ kk ∧ kk < 2 ^ 62 ∧ ys.length < 16777216 ∧ thawC st3 i cs = true then .ok .non (backC cs st (st3.set i (some (.lst true (xs.set j (.lst true (ys.take kk.toNat ++ [y] ++ ys.drop kk.toNat))))))) else .fail
  | _ => .fail
def eInsR (i : Nat) (cs : List Nat) (m0 m1 m2 : ME) : ME := fun st => match getS st i with
  | some (.lst true xs) => if xs.all ownRow = true ∧ coldAt st cs = true ∧ cs.contains i = false then (match m0 (st.set i (some (frz (.lst true xs)))) with
    | .ok (.int k) st1 => (match ixN xs.length k with
      | some j => (match xs[j]? with
        | some (.lst true ys) => (match m1 st1 with
          | .ok kk st2 => (match m2 st2 with
            | .ok y st3 => insR i cs st xs j ys kk y st3
            | _ => .fail)
          | _ => .fail)
        | _ => .fail)
      | none => .fail)
    | _ => .fail) else .fail
  | _ => .fail
theorem backC_len {cs : List Nat} {st : Sl} : ∀ {st2 : Sl}, (backC cs st st2).length = st2.length := by
  induction cs with
  | nil => intro st2; rfl
  | cons c cs ih =>
    intro st2
    show (backC cs st (st2.set c (getS st c))).length = _
    rw [ih, List.length_set]
theorem getS_set_none {st : Sl} {i j : Nat} {d : D} (e : getS (st.set i none) j = some d) : j ≠ i ∧ getS st j = some d := by
  unfold getS at e ⊢
  by_cases h : i = j
  · subst h
    rw [List.getElem?_set_self'] at e
    cases q : st[i]? <;> rw [q] at e <;> simp at e
  · rw [List.getElem?_set_ne h] at e
    exact ⟨Ne.symm h, e⟩
theorem getS_setO {st : Sl} {i j : Nat} {o : Option D} {d : D} (e : getS (st.set i o) j = some d) : (j = i ∧ o = some d) ∨ (j ≠ i ∧ getS st j = some d) := by
  cases o with
  | none => exact .inr (getS_set_none e)
  | some x =>
    rcases set_get e with ⟨q1, q2⟩ | ⟨q1, q2⟩
    · exact .inl ⟨q1.symm, by rw [q2]⟩
    · exact .inr ⟨fun h => q1 h.symm, q2⟩
theorem backC_at {cs : List Nat} {st : Sl} {j : Nat} {d : D} : ∀ {st2 : Sl}, getS (backC cs st st2) j = some d → (j ∈ cs ∧ getS st j = some d) ∨ (j ∉ cs ∧ getS st2 j = some d) := by
  induction cs with
  | nil => intro st2 e; exact .inr ⟨by simp, e⟩
  | cons c cs ih =>
    intro st2 e
    have e : getS (backC cs st (st2.set c (getS st c))) j = some d := e
    rcases ih e with ⟨q1, q2⟩ | ⟨q1, q2⟩
    · exact .inl ⟨List.mem_cons_of_mem _ q1, q2⟩
    · rcases getS_setO q2 with ⟨q3, q4⟩ | ⟨q3, q4⟩
      · exact .inl ⟨by rw [q3]; exact List.mem_cons_self, by rw [q3]; exact q4⟩
      · exact .inr ⟨fun h => (List.mem_cons.mp h).elim q3 q1, q4⟩
section
variable {ca : Nat → Addr} {K : PySem.W.Frag} {Hf H Hf1 H1 : Hp} {S S1 : Rg} {X : Cx}
theorem coldAt_at {st : Sl} {cs : List Nat} {j : Nat} {d : D} (h : coldAt st cs = true) (hj : j ∈ cs) (e : getS st j = some d) : hot d = false := by
  have := List.all_eq_true.mp h j hj
  rw [e] at this
  simpa using this
theorem thawC_at {st : Sl} {i j : Nat} {cs : List Nat} {d : D} (h : thawC st i cs = true) (hj : j ≠ i) (hc : j ∉ cs) (e : getS st j = some d) : noL d = true := by
  have hl : j < st.length := by
    refine Decidable.byContradiction fun q => ?_
    unfold getS at e
    rw [List.getElem?_eq_none_iff.mpr (Nat.le_of_not_lt q)] at e
    cases e
  have := List.all_eq_true.mp h j (List.mem_range.mpr hl)
  rw [e] at this
  simpa [hj, hc] using this
/-- rows that stand: where they lie -/
theorem repL_frows : ∀ {us : List V} {xs : List D} {S : Rg}, RepL ca K Hf H S us (frzL xs) → xs.all ownRow = true → ∀ b, V.ref b ∈ us → ∃ ws, Hf b = some (.lst ws)
  | _, [], _, r, _, b, hb => by rw [frzL] at r; cases r; cases hb
  | _, x :: xs, _, r, h, b, hb => by
    rw [List.all_cons, Bool.and_eq_true] at h
    rw [frzL] at r
    cases x with
    | lst o ys =>
      cases o with
      | false => exact absurd h.1 (by simp [ownRow])
      | true =>
        have e : frz (.lst true ys) = .lst false ys := by rw [frz, frzL_flat h.1]
        rw [e] at r
        cases r with
        | cons r1 r2 _ _ _ =>
          cases r1 with
          | lstF eF rF =>
            rcases List.mem_cons.mp hb with z | z
            · cases z; exact ⟨_, eF⟩
            · exact repL_frows r2 h.2 b z
    | _ => exact absurd h.1 (by simp [ownRow])
/-- own rows, wherever they lie as before -/
theorem repL_rowsO {Hf2 H2 : Hp} : ∀ {us : List V} {xs : List D} {S : Rg}, RepL ca K Hf H S us xs → xs.all ownRow = true → (∀ b, V.ref b ∈ us → H2 b = H b) → RepL ca K Hf2 H2 (fun c => V.ref c ∈ us) us xs
  | _, _, _, .nil, _, _ => .nil
  | _, _, _, .cons (d := d) (ds := ds) (v := v) (vs := vs) r1 r2 h1 h2 h3, h, hh => by
    rw [List.all_cons, Bool.and_eq_true] at h
    have q := (repL_rows (H3 := H2) r2 h.2).1
    cases d with
    | lst o ys =>
      cases o with
      | false => exact absurd h.1 (by simp [ownRow])
      | true =>
        cases r1 with
        | lstO s eH rl =>
          rename_i b ws
          refine .cons (S1 := fun c => c = b) (S2 := fun c => V.ref c ∈ vs) (.lstO rfl (by rw [hh b List.mem_cons_self]; exact eH) ((repTL_flat rl h.1).mono fun _ z => z.elim)) (repL_rowsO r2 h.2 fun c hc => hh c (List.mem_cons_of_mem _ hc)) (fun c z => by rw [z]; exact List.mem_cons_self) (fun c z => List.mem_cons_of_mem _ z) fun c z1 z2 => ?_
          rw [z1] at z2
          exact h3 b s (q b z2).1
    | _ => exact absurd h.1 (by simp [ownRow])
theorem rows_at {xs : List D} {j : Nat} {ys : List D} (h : xs.all ownRow = true) (e : xs[j]? = some (.lst true ys)) : ys.all flat = true := by
  have := List.all_eq_true.mp h _ (List.mem_of_getElem? e)
  exact this
theorem repL_insF {ws : List V} {ys : List D} {v : V} {y : D} {k : Nat} (r : RepL ca K Hf H Em ws ys) (ry : Rep ca K Hf H Em v y) : RepL ca K Hf H Em (ws.take k ++ [v] ++ ws.drop k) (ys.take k ++ [y] ++ ys.drop k) :=
  repL_app' (S1 := Em) (S2 := Em) (repL_app' (S1 := Em) (S2 := Em) (repL_take r _) (RepL.one ry) (fun _ q => q) (fun _ q => q) fun _ q _ => q) (repL_drop r _) (fun _ q => q) (fun _ q => q) fun _ q _ => q
theorem ce_insR {o e0 e1 e2 : Expr} {i : Nat} {cs : List Nat} {m0 m1 m2 : ME} {spos apos cpos : Pos} (ho : PE X o (tVar i)) (he0 : CE ca X e0 m0) (hp : PlainIx e0) (he1 : CE ca X e1 m1) (he2 : CE ca X e2 m2)
    (hbase : attributeBase (.Subscript o e0 spos) "insert" X.env (eval (.Subscript o e0 spos) X.env) = eval (.Subscript o e0 spos) X.env := by rfl)
    (hfew : ((backTo cpos (starEach [e1, e2] X.env)).all (fun x => !x.1) && (backToKw cpos (keywordEach [] X.env)).all (fun x => x.1.isSome)
      && decide ([e1, e2].length + ([] : List Keyword).length + (if ([] : List Keyword).isEmpty then 0 else 1) < 30)) = true := by rfl)
    (hline : (apos.endLine == cpos.line) = true := by rfl) (hs : starEach [e1, e2] X.env = (false, eval e1 X.env) :: starEach [e2] X.env := by rfl) (hs2 : starEach [e2] X.env = (false, eval e2 X.env) :: starEach [] X.env := by rfl) (hpl : ((backTo cpos (starEach [e2] X.env)).any fun x => x.1) = false := by rfl) :
    CE ca X (.Call (.Attribute (.Subscript o e0 spos) "insert" apos) [e1, e2] [] cpos) (eInsR i cs m0 m1 m2) := fun Hf H R σ st Q p h => by
  refine we_of (pe_bm PySem.F.plainAttrs_list PySem.F.slot_list_insert PySem.F.type_list_insert mt_insert (pe_ix ix_list ho (we_pe X e0) hp) (pa_cons (we_pe X e1) (pa_cons (we_pe X e2) pa_nil hs2) hs) hbase hfew hline hs hpl) ?_
  unfold eInsR at h
  cases g : getS st i with
  | none => rw [g] at h; exact h.elim
  | some d0 =>
  rw [g] at h
  cases d0 with
  | lst o' xs =>
    cases o' with
    | false => exact h.elim
    | true =>
      dsimp only at h
      by_cases hx : xs.all ownRow = true ∧ coldAt st cs = true ∧ cs.contains i = false
      case neg => rw [if_neg hx] at h; exact h.elim
      rw [if_pos hx] at h
      obtain ⟨hxr, hcs, hic⟩ := hx
      have hic : i ∉ cs := fun z => by rw [List.contains_iff_mem.mpr z] at hic; cases hic
      obtain ⟨v0, ev, r0⟩ := p.at_ i _ g
      obtain ⟨Hf', v1, ev1, r1, t1, p1⟩ := p.freeze g
      have hvv : v1 = v0 := by rw [ev] at ev1; cases ev1; rfl
      subst hvv
      have hil : i < st.length := by
        refine Decidable.byContradiction fun q => ?_
        unfold getS at g
        rw [List.getElem?_eq_none_iff.mpr (Nat.le_of_not_lt q)] at g
        cases g
      refine ⟨v1, ev, he0 Hf' H _ σ _ _ p1 ?_⟩
      cases em : m0 (st.set i (some (frz (.lst true xs)))) with
      | fail => rw [em] at h; exact h.elim
      | exc x0 st1 => rw [em] at h; exact h.elim
      | ok kd st1 =>
      rw [em] at h
      cases kd with
      | int k =>
        dsimp only at h
        cases ej : ixN xs.length k with
        | none => rw [ej] at h; exact h.elim
        | some j =>
        rw [ej] at h
        dsimp only at h
        cases ex : xs[j]? with
        | none => rw [ex] at h; exact h.elim
        | some dj =>
        rw [ex] at h
        cases dj with
        | lst ow2 ys =>
          cases ow2 with
          | false => exact h.elim
          | true =>
          dsimp only at h
          intro Hf1 H1 P1 R1 vk t2 p2
          cases r0 with
          | lstO s eH rl =>
          rename_i a vs
          -- the rows, as they lie
          obtain ⟨rows, _⟩ := repL_rows (H3 := H) rl hxr
          have frzE : frz (.lst true xs) = .lst false (frzL xs) := by rw [frz]
          rw [frzE] at r1
          obtain ⟨hfa, hfr⟩ : Hf' a = some (.lst vs) ∧ ∀ b, V.ref b ∈ vs → ∃ ws, Hf' b = some (.lst ws) := by
            cases r1 with
            | lstF eF rF =>
              have := p1.w.ex _ _ eF
              rw [eH] at this
              cases this
              exact ⟨eF, repL_frows rF hxr⟩
          obtain ⟨b, ws, T0, b1, b2, b3, b4, b5⟩ := inner_at rl ex
          have hbv : V.ref b ∈ vs := List.mem_of_getElem? b1
          have fa1 : Hf1 a = some (.lst vs) := t2.fx _ _ hfa
          have fb1 : Hf1 b = some (.lst ws) := by
            obtain ⟨ws', q⟩ := hfr b hbv
            have := p1.w.ex _ _ q
            rw [b3] at this
            cases this
            exact t2.fx _ _ q
          refine ⟨a, vs, k, .ref b, rfl, rep_int p2.pend, .inl (.inl (p2.w.ex _ _ fa1)), ?_, .inl ⟨rfl, ws, .inl (.inl (p2.w.ex _ _ fb1))⟩, ?_⟩
          · unfold atI
            rw [rl.length, ej]
            exact b1
          refine he1 Hf1 H1 R1 σ st1 _ p2.drop ?_
          cases em1 : m1 st1 with
          | fail => rw [em1] at h; exact h.elim
          | exc x0 st2 => rw [em1] at h; exact h.elim
          | ok kk st2 =>
          rw [em1] at h
          dsimp only at h
          intro Hf2 H2 P2 R2 vi t3 p3
          refine he2 Hf2 H2 R2 σ st2 _ p3.drop ?_
          cases em2 : m2 st2 with
          | fail => rw [em2] at h; exact h.elim
          | exc x0 st3 => rw [em2] at h; exact h.elim
          | ok y st3 =>
          rw [em2] at h
          dsimp only at h
          intro Hf3 H3 P3 R3 vy t4 p4
          unfold insR at h
          cases kk with
          | int ii =>
            dsimp only at h
            by_cases hc : flat y = true ∧ 0 ≤ ii ∧ ii < 2 ^ 62 ∧ ys.length < 16777216 ∧ thawC st3 i cs = true
            case neg => rw [if_neg hc] at h; exact h.elim
            rw [if_pos hc] at h
            obtain ⟨hy, k0, k1, hz, hth⟩ := hc
            have hi3 : Ex Hf' Hf3 := fun c u q => t4.fx _ _ (t3.fx _ _ (t2.fx _ _ q))
            have fa3 : Hf3 a = some (.lst vs) := hi3 _ _ hfa
            have fb3 : Hf3 b = some (.lst ws) := t4.fx _ _ (t3.fx _ _ fb1)
            have ea3 := p4.w.ex _ _ fa3
            have eb3 := p4.w.ex _ _ fb3
            have tt := ((less0 t2).trans (less0 t3)).trans t4
            have hT : ∀ c, rgT a vs c → R i c := fun c q => by
              rcases q with q | q
              · rw [q]; exact s
              · exact (rows c q).1.1
            have hT3 : ∀ c, rgT a vs c → ∃ us, Hf3 c = some (.lst us) := fun c q => by
              rcases q with q | q
              · rw [q]; exact ⟨_, fa3⟩
              · obtain ⟨us, z⟩ := hfr c q
                exact ⟨us, hi3 _ _ z⟩
            have nfT : ∀ c, rgT a vs c → Hf c = none := fun c q => p.w.nf c (.inr ⟨i, hT c q⟩)
            have nP3 : ∀ c, rgT a vs c → ¬ P3 c := fun c q z => by
              obtain ⟨us, w'⟩ := hT3 c q
              rw [p4.w.nf c (.inl z)] at w'; cases w'
            have nR3 : ∀ j c, rgT a vs c → ¬ R3 j c := fun j c q z => by
              obtain ⟨us, w'⟩ := hT3 c q
              rw [p4.w.nf c (.inr ⟨j, z⟩)] at w'; cases w'
            have hba : b ≠ a := b2.2
            have hTb : rgT a vs b := .inr hbv
            refine ⟨b, ws, ii, vy, rfl, by rw [rep_int p3.pend], eb3, by rw [b4.length, ← sz_eq]; exact hz, k0, by omega, ?_⟩
            -- what is told of it all
            have hk : ∀ c u, c ≠ b → H3 c = some u → upd H3 b (.lst (ws.take ii.toNat ++ [vy] ++ ws.drop ii.toNat)) c = some u := fun c u n q => by rw [upd_ne n]; exact q
            have hsub : ∀ c u, hideT (rgT a vs) Hf3 c = some u → ¬ rgT a vs c ∧ Hf3 c = some u := fun c u q => by
              by_cases z : rgT a vs c
              · rw [hideT_t z] at q; cases q
              · rw [hideT_f z] at q; exact ⟨z, q⟩
            have hxf : Ex Hf (hideT (rgT a vs) Hf3) := fun c u q => by
              rw [hideT_f fun z => by rw [nfT c z] at q; cases q]
              exact hi3 _ _ (t1.fx _ _ q)
            have hxu : Ex (hideT (rgT a vs) Hf3) (upd H3 b (.lst (ws.take ii.toNat ++ [vy] ++ ws.drop ii.toNat))) := fun c u q => by
              obtain ⟨z1, z2⟩ := hsub c u q
              exact hk c u (fun z => z1 (z ▸ hTb)) (p4.w.ex _ _ z2)
            have kpT : ∀ c, rgT a vs c → H3 c = H c := fun c q => by
              have hc : ∃ us, Hf' c = some (.lst us) := by
                rcases q with q | q
                · rw [q]; exact ⟨_, hfa⟩
                · exact hfr c q
              obtain ⟨us, z⟩ := hc
              rw [p1.w.ex _ _ z]
              exact p4.w.ex _ _ (hi3 _ _ z)
            have less : ∀ {S : Rg} {v : V} {d : D}, Rep ca X.K Hf3 H3 S v d → noL d = true → (∀ c, S c → ¬ rgT a vs c) → Rep ca X.K (hideT (rgT a vs) Hf3) (upd H3 b (.lst (ws.take ii.toNat ++ [vy] ++ ws.drop ii.toNat))) S v d := fun {S v d} r n hS =>
              (Rep.lessT (T := rgT a vs) (fun c u z q => by rw [hideT_f z]; exact q) hT3 r n).keep (fun _ _ q => q) fun c q u e => hk c u (fun z => hS c q (z ▸ hTb)) e
            -- the slot's rows
            have fl := rows_at hxr ex
            have rA := repL_rowsO (Hf2 := hideT (rgT a vs) Hf3) (H2 := H3) rl hxr fun c hc => kpT c (.inr hc)
            obtain ⟨b', ws', T', c1, c2, c3, c4, c5⟩ := inner_at rA ex
            have hbb : b' = b := by rw [b1] at c1; cases c1; rfl
            subst hbb
            have hww : ws' = ws := by rw [eb3] at c3; cases c3; rfl
            subst hww
            have rN : RepL ca X.K (hideT (rgT a vs) Hf3) (upd H3 b' (.lst (ws'.take ii.toNat ++ [vy] ++ ws'.drop ii.toNat))) (fun c => T' c ∧ c ≠ b') (ws'.take ii.toNat ++ [vy] ++ ws'.drop ii.toNat) (ys.take ii.toNat ++ [y] ++ ys.drop ii.toNat) :=
              (repL_insF (repTL_flat c4 fl) (repT_flat p4.pend hy)).mono fun _ z => z.elim
            have rows2 := c5 _ _ _ hk upd_same rN
            have tr := t1.trans tt
            have nTb : ∀ c, rgT a vs c → ∀ us, Hf3 c ≠ some (.tup us) := fun c q us z => by
              obtain ⟨us', z'⟩ := hT3 c q
              rw [z'] at z; cases z
            refine h (hideT (rgT a vs) Hf3) _ Em (fun j' c => (j' = i ∧ rgT a vs c) ∨ (j' ≠ i ∧ j' ∉ cs ∧ R3 j' c)) .non ⟨hxf, fun c u e n => hk c u (fun z => n (.inr ⟨i, by rw [z]; exact hT b' hTb⟩)) (tr.keep c u e n), fun c q => ?_, fun c u e => tr.fz c u (hsub c u e).2⟩
              ⟨.non, ?_, fun j' d e => ?_, fun i1 i2 c q1 q2 => ?_, fun _ _ q => q.elim, ⟨hxu, fun c q => ?_, fun c q => ?_, fun c us e => ?_⟩⟩
            · rcases q with q | ⟨j', ⟨_, q⟩ | ⟨_, _, q⟩⟩
              · exact q.elim
              · exact .inl (.inr ⟨i, hT c q⟩)
              · exact tr.nw c (.inr ⟨j', q⟩)
            · rw [backC_len, List.length_set]; exact p4.len
            · rcases backC_at e with ⟨q1, q2⟩ | ⟨q1, q2⟩
              · obtain ⟨v', e1, r⟩ := p.at_ j' d q2
                exact ⟨v', e1, ((r.cold (S' := Em) (coldAt_at hcs q1 q2)).keep hxf fun _ q => q.elim).mono fun _ q => q.elim⟩
              · rcases set_get q2 with ⟨q3, q4⟩ | ⟨q3, q4⟩
                · subst q3
                  cases q4
                  exact ⟨_, ev, .lstO (.inl ⟨rfl, .inl rfl⟩) (hk a _ (Ne.symm hba) ea3) (rows2.mono fun c q => ⟨.inl ⟨rfl, .inr q⟩, (rows c q).1.2⟩)⟩
                · obtain ⟨v', e1, r⟩ := p4.at_ j' d q4
                  exact ⟨v', e1, (less r (thawC_at hth (Ne.symm q3) q1 q4) fun c q z => nR3 j' c z q).mono fun c q => .inr ⟨Ne.symm q3, q1, q⟩⟩
            · rcases q1 with ⟨q1, q3⟩ | ⟨q1, _, q3⟩
              · rcases q2 with ⟨q2, q4⟩ | ⟨q2, _, q4⟩
                · rw [q1, q2]
                · exact (nR3 i2 c q3 q4).elim
              · rcases q2 with ⟨q2, q4⟩ | ⟨q2, _, q4⟩
                · exact (nR3 i1 c q4 q3).elim
                · exact p4.dj i1 i2 c q3 q4
            · rcases q with q | ⟨j', ⟨_, q⟩ | ⟨_, _, q⟩⟩
              · exact q.elim
              · by_cases z : c = b'
                · rw [z]; exact ⟨_, upd_same⟩
                · obtain ⟨us, w'⟩ := hT3 c q
                  exact ⟨_, hk c _ z (p4.w.ex _ _ w')⟩
              · obtain ⟨u, w'⟩ := p4.w.dm c (.inr ⟨j', q⟩)
                exact ⟨u, hk c u (fun z => nR3 j' c (z ▸ hTb) q) w'⟩
            · rcases q with q | ⟨j', ⟨_, q⟩ | ⟨_, _, q⟩⟩
              · exact q.elim
              · exact hideT_t q
              · rw [hideT_f fun z => nR3 j' c z q]; exact p4.w.nf c (.inr ⟨j', q⟩)
            · by_cases z : c = b'
              · rw [z, upd_same] at e; cases e
              · rw [upd_ne z] at e
                have := p4.w.tp c us e
                rw [hideT_f fun z' => nTb c z' us this]
                exact this
          | _ => exact h.elim
        | _ => exact h.elim
      | _ => exact h.elim
  | _ => exact h.elim
end
end DL

set_option maxHeartbeats 1000000
/-! DL200: dict(list of pairs), the keys whole numbers. -/
namespace DL
open PySem PySem.Spec PyProof.Rows L2
def mergeDI (kvs : List (Key × D)) : List (Key × D) := kvs.foldl (fun acc kv => putKD acc kv.1 kv.2) []
def pairsI : List D → Option (List (Key × D))
  | [] => some []
  | .tup [.int k, d] :: r => if hot d then none else (pairsI r).map ((.inl k, d) :: ·)
  | _ => none
def eDctI (m : ME) : ME := fun st => (m st).bind fun d st1 => match d with
  | .lst _ xs => (match pairsI xs with
    | some kvs => .ok (.dic true (mergeDI kvs)) st1
    | none => .fail)
  | _ => .fail
section
variable {ca : Nat → Addr} {K : PySem.W.Frag} {Hf H : Hp} {S : Rg} {vs : List V} {ds : List D} {X : Cx} {R : Nat → Rg} {σ : L2.St} {st : Sl}
theorem rep_pairsI (hx : Ex Hf H) : ∀ {xs : List D} {S : Rg} {vs : List V} {kvs : List (Key × D)}, RepL ca K Hf H S vs xs → pairsI xs = some kvs →
    ∃ (ps : List Addr) (ks : List (Key × V)), vs = ps.map V.ref ∧ Paired (fun p kv => SqT K H p [kV kv.1, kv.2]) ps ks ∧ ks.map (·.1) = kvs.map (·.1) ∧ RepL ca K Hf H Em (ks.map (·.2)) (kvs.map (·.2)) := by
  intro xs
  induction xs with
  | nil =>
    intro S vs kvs r h
    cases r
    cases h
    exact ⟨[], [], rfl, .nil, rfl, .nil⟩
  | cons x xs ih =>
    intro S vs kvs r h
    unfold pairsI at h
    split at h
    · rename_i e
      cases e
    · rename_i k d r' e
      cases e
      cases r with
      | cons r1 r2 _ _ _ =>
        cases r1 with
        | tup e1 q =>
          cases q with
          | cons q1 q2 _ _ _ =>
            cases q1
            cases q2 with
            | cons q3 q4 _ _ _ =>
              cases q4
              by_cases hw : hot d = true
              · rw [if_pos hw] at h; cases h
              · rw [if_neg hw] at h
                cases e2 : pairsI xs with
                | none => rw [e2] at h; cases h
                | some kvs' =>
                  rw [e2] at h
                  cases h
                  obtain ⟨ps, ks, rfl, hp, hk, hr⟩ := ih r2 e2
                  exact ⟨_ :: ps, (.inl k, _) :: ks, rfl, .cons (.inl (.inl (hx _ _ e1))) hp, by rw [List.map_cons, List.map_cons, hk], .cons (S1 := Em) (S2 := Em) (q3.cold (by simpa using hw)) hr (fun _ z => z) (fun _ z => z) fun _ z _ => z⟩
    · cases h
theorem merge_repI : ∀ {ks : List (Key × V)} {kvs : List (Key × D)} {acc : List (Key × V)} {acc2 : List (Key × D)}, ks.map (·.1) = kvs.map (·.1) → RepL ca K Hf H Em (ks.map (·.2)) (kvs.map (·.2)) → acc.map (·.1) = acc2.map (·.1) → RepL ca K Hf H Em (acc.map (·.2)) (acc2.map (·.2)) →
    (ks.foldl (fun acc kv => putK acc kv.1 kv.2) acc).map (·.1) = (kvs.foldl (fun acc kv => putKD acc kv.1 kv.2) acc2).map (·.1) ∧ RepL ca K Hf H Em ((ks.foldl (fun acc kv => putK acc kv.1 kv.2) acc).map (·.2)) ((kvs.foldl (fun acc kv => putKD acc kv.1 kv.2) acc2).map (·.2))
  | [], [], _, _, _, _, h2, r2 => ⟨h2, r2⟩
  | [], _ :: _, _, _, h, _, _, _ => by cases h
  | _ :: _, [], _, _, h, _, _, _ => by cases h
  | (k1, v1) :: ks, (k2, d2) :: kvs, _, _, h, r, h2, r2 => by
    simp only [List.map_cons, List.cons.injEq] at h
    obtain ⟨rfl, h3⟩ := h
    cases r with
    | cons a b c1 c2 c3 =>
      obtain ⟨x1, x2⟩ := put_repT (k := k1) h2 r2 (a.mono fun b z => c1 b z)
      rw [List.foldl_cons, List.foldl_cons]
      exact merge_repI h3 (b.mono fun b z => c2 b z) x1 x2
theorem ce_dctI {p pos : Pos} {e : Expr} {m : ME} (hc : X.calm = true) (he : CE ca X e m) (hg : Gl X "dict") (hm : X.mg "dict" = none) (hv : bootBuiltins "dict" = some (.type "dict")) (hs : starEach [e] X.env = (false, eval e X.env) :: starEach [] X.env := by rfl) :
    CE ca X (.Call (.Name "dict" p) [e] [] pos) (eDctI m) := fun Hf H R σ st Q pr h => by
  refine we_of (pe_callTy (call_dictP hc) hg hm hv (pa_cons (we_pe X e) pa_nil hs) (by decide) (by decide) hs rfl) ?_
  show We X e σ H fun x H1 => _
  refine he Hf H R σ st _ pr ?_
  unfold eDctI at h
  cases e1 : m st with
  | fail => rw [e1] at h; exact h
  | exc x st1 => rw [e1] at h; exact h
  | ok d st1 =>
    rw [e1] at h
    intro Hf1 H1 P1 R1 v t1 p1
    dsimp only [Res.bind] at h
    have h := Post.from (less0 t1) h
    cases d with
    | lst o xs =>
      dsimp only at h
      cases ep : pairsI xs with
      | none => rw [ep] at h; exact h.elim
      | some kvs =>
        rw [ep] at h
        dsimp only at h
        obtain ⟨a, vs, T, rfl, eH, rl⟩ : ∃ a vs T, v = .ref a ∧ H1 a = some (.lst vs) ∧ RepL ca X.K Hf1 H1 T vs xs := by
          cases p1.pend with
          | lstF e r => exact ⟨_, _, _, rfl, p1.w.ex _ _ e, r⟩
          | lstO s e r => exact ⟨_, _, _, rfl, e, r⟩
        obtain ⟨ps, ks, rfl, hp, hk, hr⟩ := rep_pairsI p1.w.ex rl ep
        refine ⟨a, ps, ks, rfl, .inl (.inl eH), hp, fun q hq => ?_⟩
        obtain ⟨m1, m2⟩ := merge_repI (acc := []) (acc2 := []) hk hr rfl .nil
        have m1 : (mergeK [] ks).map (·.1) = (mergeDI kvs).map (·.1) := m1
        have m2 : RepL ca X.K Hf1 H1 Em ((mergeK [] ks).map (·.2)) ((mergeDI kvs).map (·.2)) := m2
        have pd := p1.drop
        refine h Hf1 (upd H1 q (.dK (mergeK [] ks))) (fun b => b = q) R1 (.ref q) ⟨fun _ _ e => e, fun b o e _ => upd_keep hq b o e, fun b z => ?_, fun _ _ e => .inl e⟩ (pd.grow hq (Rep.dicO rfl upd_same m1 ((m2.keep (fun _ _ e => e) fun _ z => z.elim).mono fun _ z => z.elim)) fun b z => z)
        rcases z with z | z
        · exact .inr (by rw [z]; exact hq)
        · exact .inl (.inr z)
    | _ => exact h.elim
end
section
variable {ca : Nat → Addr} {K : PySem.W.Frag} {Hf H H3 Hf1 H1 Hf2 H2 : Hp} {S P : Rg} {R R1 R2 : Nat → Rg} {σ : L2.St} {st : Sl} {v : V} {d : D} {vs : List V} {ds : List D} {X : Cx} {L : List Nat}
/-- a comprehension that only looks -/
theorem ro_cer {te : TE} {m : ME} (hm : CER ca X te m) : CER ca X te (eRo m) := fun Hf H R σ st Q p h => by
  unfold eRo at h
  cases em : m (frzS st) with
  | fail => rw [em] at h; exact h.elim
  | exc x st2 => rw [em] at h; exact h.elim
  | ok d st2 =>
    rw [em] at h
    dsimp only at h
    by_cases hf : roOk d = true
    case neg => rw [if_neg hf] at h; exact h.elim
    case pos =>
      rw [if_pos hf] at h
      let T : Rg := jn Em R
      have tR : ∀ {i b}, R i b → T b := fun {i b} q => .inr ⟨i, q⟩
      have tE : ∀ {b}, T b → ∃ i, R i b := fun {b} q => q.elim (fun q => q.elim) fun q => q
      have na : ∀ b, T b → Hf b = none := fun b q => p.w.nf b q
      have fx0 : Ex Hf (showT T H Hf) := fun b o e => by
        have hb : ¬ T b := fun z => by rw [na b z] at e; cases e
        rw [showT_f hb]
        exact e
      have p2 : PR ca X.K (showT T H Hf) H Em True (fun _ => Em) σ (frzS st) := by
        refine ⟨trivial, ?_, fun i d0 e => ?_, fun i j b q _ => q.elim, fun i b _ q => q.elim, ⟨fun b o e => ?_, fun b q => ?_, fun b q => ?_, mkTp⟩⟩
        · rw [← p.len]
          exact List.length_map ..
        · rw [getS_frzS] at e
          cases eg : getS st i with
          | none => rw [eg] at e; cases e
          | some d1 =>
            rw [eg] at e
            cases e
            obtain ⟨v, ev, r⟩ := p.at_ i d1 eg
            exact ⟨v, ev, r.frz fx0 fun b q o eo => by rw [showT_t (tR q)]; exact eo⟩
        · by_cases hb : T b
          · rw [showT_t hb] at e
            exact e
          · rw [showT_f hb] at e
            exact p.w.ex b o e
        · exact q.elim (fun q => q.elim) fun ⟨_, q⟩ => q.elim
        · exact q.elim (fun q => q.elim) fun ⟨_, q⟩ => q.elim
      refine hm (showT T H Hf) H (fun _ => Em) σ (frzS st) Q p2 ?_
      rw [em]
      intro Hf' H' P' R' v t q
      have no : ∀ b, ¬ jn Em (fun _ => Em) b := fun b q => q.elim (fun q => q.elim) fun ⟨_, q⟩ => q.elim
      have keep : ∀ b o, H b = some o → H' b = some o := fun b o e => t.keep b o e (no b)
      have fx : Ex Hf (hideT T Hf') := fun b o e => by
        have hb : ¬ T b := fun z => by rw [na b z] at e; cases e
        rw [hideT_f hb]
        exact t.fx b o (by rw [showT_f hb]; exact e)
      have hfz : ∀ b o, ¬ T b → Hf' b = some o → Hf b = some o ∨ H b = none := fun b o hb e => by
        rcases t.fz b o e with z | z | z
        · rw [showT_f hb] at z; exact .inl z
        · exact (no b z).elim
        · exact .inr z
      have pn : ∀ b, P' b → H b = none := fun b z => (t.nw b (.inl z)).elim (fun z => (no b z).elim) fun z => z
      have pT : ∀ b, P' b → ¬ T b := fun b z y => by
        obtain ⟨o, e⟩ := p.w.dm b y
        have := pn b z
        rw [e] at this
        cases this
      refine h (hideT T Hf') H' P' R v ⟨fx, fun b o e n => keep b o e, fun b z => ?_, fun b o e => ?_⟩
        ⟨rep_ro q.pend hf, p.len, fun j d e => ?_, p.dj, fun j b z1 z2 => pT b z1 (tR z2), ⟨fun b o e => ?_, fun b z => ?_, fun b z => ?_, fun b xs e => by
          have z2 := q.w.tp b xs e
          rw [hideT_f (fun z => by
            obtain ⟨o, eo⟩ := p.w.dm b z
            have k := keep b o eo
            rw [e] at k
            cases k
            have k2 := p.w.tp b xs eo
            rw [na b z] at k2; cases k2)]
          exact z2⟩⟩
      · rcases z with z | z
        · exact .inr (pn b z)
        · exact .inl (.inr z)
      · by_cases hb : T b
        · rw [hideT_t hb] at e
          cases e
        · rw [hideT_f hb] at e
          rcases hfz b o hb e with z | z
          · exact .inl z
          · exact .inr (.inr z)
      · obtain ⟨w, e1, r⟩ := p.at_ j d e
        exact ⟨w, e1, r.keep fx fun b hb o e => keep b o e⟩
      · by_cases hb : T b
        · rw [hideT_t hb] at e
          cases e
        · rw [hideT_f hb] at e
          exact q.w.ex b o e
      · rcases z with z | ⟨j, z⟩
        · exact q.w.dm b (.inl z)
        · obtain ⟨o, e⟩ := p.w.dm b (tR z)
          exact ⟨o, keep b o e⟩
      · by_cases hb : T b
        · rw [hideT_t hb]
        · rw [hideT_f hb]
          rcases z with z | z
          · exact q.w.nf b (.inl z)
          · exact (hb (.inr z)).elim
theorem cs_setLcRo {i : Nat} {y : Str} {py spos : Pos} {wi : TI} {src : Sl → Res (List D)} {tg elt iter c : Expr} {scope : Scope} {own : List (Str × Nat)} {pos : Pos} {t : TG} {g : MG} {me : ME} {mt : MT} (hc : X.calm = true) (hN : X.N.Nodup) (hy : X.N[i]? = some y) (hyl : X.env.scope.names.lookup y = some .local) (hL : i ∉ L) (hpg : PG X (.Name y py) (gName i))
    (hsw : swapsWith (.ListComp elt [⟨tg, iter, [c], 0⟩] scope pos) (some (.Name y py)) spos.line X.env = pure true) (hi : CI ca X tg iter wi src) (ok : BlkOk X.N X.env.scope scope own)
    (hg : ∀ n s H C cl fp, CG ca (bk X scope s H C cl fp) (but n (own.map (·.2))) tg t g) (ht : ∀ s H C cl fp, CT ca (bk X scope s H C cl fp) c mt) (he : ∀ s H C cl fp, CE ca (bk X scope s H C cl fp) elt me) (hs : ∀ x, foldedSetIterable iter X.env x = pure x := by intro _; rfl) :
    CS ca X L (.Assign [.Name y py] (.ListComp elt [⟨tg, iter, [c], 0⟩] scope pos) spos) (sAsg (eRo (eLc src g mt me (own.map (·.2)))) (gN i)) :=
  cs_asgR (ro_cer (lc_cerIf hi hg ht he)) (cg_name hpg hL) (ps_setLc hc hN hy hyl hsw hi.1 ok (fun s H C cl fp => (hg 0 s H C cl fp).1) pt_ttB pe_teB hs)
end
end DL

namespace Lw54
open PySem PySem.Spec PyProof.Rows L2 DL
/-! ### the text -/
def topS (i : Nat) : Stmt := PySem.Challenge.pw_nearswap_k54_schedules_checked.main.body.getD i (.Pass ⟨0, 0, 0, 0⟩)
abbrev s__law_source : Stmt := topS 16
theorem sc__law_source : FnScope ["_law_script", "_law_k", "_law_cell", "_law_size", "_law_mixed"] ["_law_script", "_law_k"] (defScope s__law_source) := ⟨rfl, rfl, rfl, by decide +kernel, rfl, by decide +kernel, by decide +kernel⟩
abbrev s__law_draw : Stmt := topS 17
theorem sc__law_draw : FnScope ["_law_source_here", "_law_count", "_law_result"] ["_law_source_here", "_law_count"] (defScope s__law_draw) := ⟨rfl, rfl, rfl, by decide +kernel, rfl, by decide +kernel, by decide +kernel⟩
abbrev s__law_steps : Stmt := topS 18
theorem sc__law_steps : FnScope ["_law_source_here", "_law_width", "_law_most", "_law_way", "_law_result", "_law_turn", "_law_step"] ["_law_source_here", "_law_width", "_law_most"] (defScope s__law_steps) := ⟨rfl, rfl, rfl, by decide +kernel, rfl, by decide +kernel, by decide +kernel⟩
abbrev s_is_integer : Stmt := topS 7
theorem sc_is_integer : FnScope ["value", "low", "high"] ["value", "low", "high"] (defScope s_is_integer) := ⟨rfl, rfl, rfl, by decide +kernel, rfl, by decide +kernel, by decide +kernel⟩
abbrev s_check_width : Stmt := topS 9
theorem sc_check_width : FnScope ["width"] ["width"] (defScope s_check_width) := ⟨rfl, rfl, rfl, by decide +kernel, rfl, by decide +kernel, by decide +kernel⟩
abbrev s_check_steps : Stmt := topS 10
theorem sc_check_steps : FnScope ["width", "steps", "index", "step"] ["width", "steps"] (defScope s_check_steps) := ⟨rfl, rfl, rfl, by decide +kernel, rfl, by decide +kernel, by decide +kernel⟩
abbrev s_Network___init__ : Stmt := inClass (topS 11) 2
theorem sc_Network___init__ : FnScope ["self", "width", "steps"] ["self", "width", "steps"] (defScope s_Network___init__) := ⟨rfl, rfl, rfl, by decide +kernel, rfl, by decide +kernel, by decide +kernel⟩
abbrev s__law_late : Stmt := topS 21
theorem sc__law_late : FnScope ["_law_source_here", "_law_steps_here", "_law_rows", "_law_index", "_law_step", "_law_ahead", "_law_at", "_law_row", "_law_one"] ["_law_source_here", "_law_steps_here"] (defScope s__law_late) := ⟨rfl, rfl, rfl, by decide +kernel, rfl, by decide +kernel, by decide +kernel⟩
abbrev s__law_changed : Stmt := topS 22
theorem sc__law_changed : FnScope ["_law_source_here", "_law_rows", "_law_at", "_law_other", "_law_row", "_law_invalid", "_law_some", "_law_way", "_law_joined_rows", "_law_split", "_law_more"] ["_law_source_here", "_law_rows"] (defScope s__law_changed) := ⟨rfl, rfl, rfl, by decide +kernel, rfl, by decide +kernel, by decide +kernel⟩
abbrev s_Network___len__ : Stmt := inClass (topS 11) 14
theorem sc_Network___len__ : FnScope ["self"] ["self"] (defScope s_Network___len__) := ⟨rfl, rfl, rfl, by decide +kernel, rfl, by decide +kernel, by decide +kernel⟩
abbrev s_round_by_index : Stmt := topS 13
theorem sc_round_by_index : FnScope ["network", "value", "result", "number", "indices", "index", "one"] ["network", "value"] (defScope s_round_by_index) := ⟨rfl, rfl, rfl, by decide +kernel, rfl, by decide +kernel, by decide +kernel⟩
abbrev s_is_schedule : Stmt := topS 14
theorem sc_is_schedule : FnScope ["network", "value", "rounds", "latest", "index", "step", "near"] ["network", "value"] (defScope s_is_schedule) := ⟨rfl, rfl, rfl, by decide +kernel, rfl, by decide +kernel, by decide +kernel⟩
abbrev s__law_is_schedule : Stmt := topS 20
theorem sc__law_is_schedule : FnScope ["_law_steps_here", "_law_value", "_law_indices", "_law_number", "_law_index", "_law_step", "_law_near", "_law_row", "_law_at", "_law_other"] ["_law_steps_here", "_law_value"] (defScope s__law_is_schedule) := ⟨rfl, rfl, rfl, by decide +kernel, rfl, by decide +kernel, by decide +kernel⟩
abbrev s_Network_empty : Stmt := inClass (topS 11) 5
theorem sc_Network_empty : FnScope ["cls", "width"] ["cls", "width"] (defScope s_Network_empty) := ⟨rfl, rfl, rfl, by decide +kernel, rfl, by decide +kernel, by decide +kernel⟩
abbrev s_law : Stmt := topS 23
theorem sc_law : FnScope ["_law_script", "_law_k", "_law_source_here", "_law_width", "_law_steps_here", "_law_network", "_law_rows", "_law_values", "_law_value", "_law_before", "_law_index", "_law_turn"] ["_law_script"] (defScope s_law) := ⟨rfl, rfl, rfl, by decide +kernel, rfl, by decide +kernel, by decide +kernel⟩
abbrev s_Network_steps : Stmt := inClass (topS 11) 4
theorem sc_Network_steps : FnScope ["self"] ["self"] (defScope s_Network_steps) := ⟨rfl, rfl, rfl, by decide +kernel, rfl, by decide +kernel, by decide +kernel⟩
/-! ### the meanings -/
def b__law_source : MS := (sSeq (sAsg (eOp oAdd [.v (eOp oMul [.v (eC (.int 7)), .v (eOp oSum [.v (eOp oS01 [.s 0, .v (eC (.int 63))])])]), .s 1]) (gN 2)) (sSeq (sIf (tE (eOp (f2 pLt) [.s 1, .v (eOp oLen [.s 0])])) (sAsg (eOp oIx [.s 0, .s 1]) (gN 2)) sNext) (sSeq (sAsg (eOp oAbs [.s 2]) (gN 3)) (sSeq (sAsg (eOp oMod [.v (eOp oMul [.v (eOp oAdd [.v (eOp oAdd [.v (eOp oAdd [.v (eOp oMod [.s 3, .v (eC (.int 2147483629))]), .v (eOp oMul [.v (eOp oMul [.v (eC (.int 7919)), .s 1]), .s 1])]), .v (eOp oMul [.v (eC (.int 31)), .s 1])]), .v (eC (.int 17))]), .v (eC (.int 48271))]), .v (eC (.int 2147483647))]) (gN 4)) (sRet (eLst (aCons (eOp oMul [.s 3, .v (eOp oInt [.v (eOp (f2 pGe) [.s 3, .v (eOp oPow [.v (eC (.int 10)), .v (eC (.int 18))])])])]) (aCons (eOp oMod [.v (eOp oMul [.s 4, .s 4]), .v (eC (.int 2147483629))]) aNil))))))))
def m__law_source : MF := fn 2 5 [0, 1] b__law_source
def b__law_draw : MS := (sSeq (sIf (tE (eOp (f2 pGt) [.v (eOp oIx [.s 0, .v (eC (.int 0))]), .v (eC (.int 0))])) (sSeq (sAsg (eOp oMod [.v (eOp oIx [.s 0, .v (eC (.int 0))]), .s 1]) (gN 2)) (sSeq (sAsg (eOp oDiv [.v (eOp oIx [.s 0, .v (eC (.int 0))]), .s 1]) (gIx 0 (eC (.int 0)))) (sRet (eMv 2)))) sNext) (sSeq (sAsg (eOp oMod [.v (eOp oAdd [.v (eOp oMul [.v (eOp oIx [.s 0, .v (eC (.int 1))]), .v (eC (.int 48271))]), .v (eC (.int 11))]), .v (eC (.int 2147483647))]) (gIx 0 (eC (.int 1)))) (sRet (eOp oMod [.v (eOp oDiv [.v (eOp oMod [.v (eOp oMul [.v (eOp oIx [.s 0, .v (eC (.int 1))]), .v (eOp oIx [.s 0, .v (eC (.int 1))])]), .v (eC (.int 2147483629))]), .v (eC (.int 16))]), .s 1]))))
def m__law_draw : MF := fn 2 3 [0, 1] b__law_draw
def st1__law_steps : MS := (sRet (eLst aNil))
def st2__law_steps : MS := (sIf (tE (eOp (f2 pEq) [.s 1, .v (eC (.int 1))])) st1__law_steps sNext)
def st3__law_steps : MS := (sAsg (eCallL m__law_draw aNil 0 (aCons (eC (.int 4)) aNil)) (gN 3))
def st4__law_steps : MS := (sAsg (eLst aNil) (gN 4))
def st5__law_steps : MS := (sAsg (eOp oAdd [.v (eC (.int 1)), .v (eCallL m__law_draw aNil 0 (aCons (eOp oSub [.s 1, .v (eC (.int 1))]) aNil))]) (gN 6))
def st6__law_steps : MS := (sAsg (eOp oMin2 [.v (eOp oSub [.s 1, .v (eC (.int 1))]), .v (eOp oMax2 [.v (eC (.int 1)), .v (eOp oAdd [.v (eOp oIx [.s 4, .v (eOp oNeg [.v (eC (.int 1))])]), .v (eOp oIx [.v (eLst (aCons (eC (.int 0)) (aCons (eC (.int 1)) (aCons (eOp oNeg [.v (eC (.int 1))]) (aCons (eC (.int 2)) aNil))))), .v (eCallL m__law_draw aNil 0 (aCons (eC (.int 4)) aNil))])])])]) (gN 6))
def st7__law_steps : MS := (sIf (tAndM (tE (eOp (f2 pEq) [.s 3, .v (eC (.int 0))])) (tE (eOp (f2 pNe) [.s 4, .v (eLst aNil)]))) st6__law_steps sNext)
def st8__law_steps : MS := (sAsg (eOp oAdd [.v (eC (.int 1)), .v (eOp oMod [.s 5, .v (eOp oSub [.s 1, .v (eC (.int 1))])])]) (gN 6))
def st9__law_steps : MS := (sIf (tE (eOp (f2 pEq) [.s 3, .v (eC (.int 1))])) st8__law_steps sNext)
def st10__law_steps : MS := (sExpr (eApp 4 (eN 6)))
def fg11__law_steps : MG := (gN 5)
def fb11__law_steps : MS := (sSeq st5__law_steps (sSeq st7__law_steps (sSeq st9__law_steps st10__law_steps)))
def st13__law_steps : MS := (sRet (eMv 4))
def b__law_steps : MS := (sSeq st2__law_steps (sSeq st3__law_steps (sSeq st4__law_steps (sSeq (sFor (iR1 (eCallL m__law_draw aNil 0 (aCons (eOp oAdd [.s 2, .v (eC (.int 1))]) aNil))) fg11__law_steps fb11__law_steps) st13__law_steps))))
def m__law_steps : MF := fn 3 7 [0, 1, 2] b__law_steps
def b_is_integer : MS := (sRet (eAnd (eOp (oIsiB "int") [.s 0, .v (eC (.ty "int"))]) (eAnd (eNot (eOp (oIsiB "bool") [.s 0, .v (eC (.ty "bool"))])) (eChain pLe pLe (eN 1) (eN 0) (eN 2)))))
def m_is_integer : MF := fn 3 3 [0, 1, 2] b_is_integer
def b_check_width : MS := (sIf (tNotM (tE (eCall m_is_integer (aCons (eN 0) (aCons (eC (.int 1)) (aCons (eC (.int 40)) aNil)))))) sFail sNext)
def m_check_width : MF := fn 1 1 [0] b_check_width
def fg1_check_steps : MG := (gT [(gN 2), (gN 3)])
def fb1_check_steps : MS := (sIf (tNotM (tE (eCall m_is_integer (aCons (eN 3) (aCons (eC (.int 1)) (aCons (eOp oSub [.s 0, .v (eC (.int 1))]) aNil)))))) sFail sNext)
def b_check_steps : MS := (sSeq (sIf (tOrM (tNotM (tE (eOp (oIsi2 "list" "tuple") [.s 1, .v (eTup (aCons (eC (.ty "list")) (aCons (eC (.ty "tuple")) aNil)))]))) (tE (eOp (f2 pGt) [.v (eOp oLen [.s 1]), .v (eC (.int 1000))]))) sFail sNext) (sFor (iEnA (eN 1)) fg1_check_steps fb1_check_steps))
def m_check_steps : MF := fn 2 4 [0, 1] b_check_steps
def b_Network___init__ : MS := (sSeq (sExpr (eCall m_check_width (aCons (eN 1) aNil))) (sSeq (sExpr (eCall m_check_steps (aCons (eN 1) (aCons (eN 2) aNil)))) (sSeq (sFldM 0 0 "own_width" (eN 1)) (sFldM 0 0 "own_steps" (eOp oTuple [.s 2])))))
def m_Network___init__ : MF := fn 3 3 [0, 1, 2] b_Network___init__
def lg1__law_late : MG := (gT [(gN 6), (gN 7)])
def le1__law_late : ME := (eN 6)
def lg2__law_late : MG := (gN 8)
def le2__law_late : ME := (eN 8)
def lt2__law_late : MT := (tE (eOp (f2 pLt) [.v (eOp oAbs [.v (eOp oSub [.v (eOp oIx [.s 1, .s 8]), .s 4])]), .v (eC (.int 2))]))
def lt3__law_late : MT := (tE (eOp (f2 pNe) [.v (eLc (iE (eN 7) lstItems) lg2__law_late lt2__law_late le2__law_late [8]), .v (eLst aNil)]))
def wt4__law_late : MT := (tE (eOp (f2 pLe) [.v (eOp oLen [.s 2]), .s 6]))
def wb4__law_late : MS := (sExpr (eApp 2 (eLst aNil)))
def fg5__law_late : MG := (gT [(gN 3), (gN 4)])
def fb5__law_late : MS := (sSeq (sAsg (eRo (eLc (iEn (eN 2)) lg1__law_late lt3__law_late le1__law_late [6, 7])) (gN 5)) (sSeq (sAsg (eOp oAdd [.v (eOp oAdd [.v (eOp oMaxL [.v (eOp oAdd [.s 5, .v (eLst (aCons (eOp oNeg [.v (eC (.int 1))]) aNil))])]), .v (eC (.int 1))]), .v (eOp oMul [.v (eCallL m__law_draw aNil 0 (aCons (eC (.int 2)) aNil)), .v (eCallL m__law_draw aNil 0 (aCons (eC (.int 3)) aNil))])]) (gN 6)) (sSeq (whileD wt4__law_late wb4__law_late 100) (sExpr (eInsR 2 [1] (eN 6) (eCallL m__law_draw aNil 0 (aCons (eOp oAdd [.v (eOp oLen [.v (eOp oIx [.s 2, .s 6])]), .v (eC (.int 1))]) aNil)) (eN 3))))))
def lg6__law_late : MG := (gN 7)
def le6__law_late : ME := (eN 7)
def lt6__law_late : MT := (tE (eOp (f2 pNe) [.s 7, .v (eLst aNil)]))
def b__law_late : MS := (sSeq (sAsg (eLst aNil) (gN 2)) (sSeq (sFor (iEn (eN 1)) fg5__law_late fb5__law_late) (sRet (eLc (iE (eN 2) lstItems) lg6__law_late lt6__law_late le6__law_late [7]))))
def m__law_late : MF := fn 2 9 [0, 1] b__law_late
def st1__law_changed : MS := (sRet (eOp oIx [.v (eFz (eLst (aCons (eLst (aCons (eLst aNil) aNil)) (aCons (eLst (aCons (eLst (aCons (eC (.int 0)) aNil)) aNil)) (aCons (eC .non) (aCons (eTup aNil) (aCons (eLst (aCons (eC (.int 0)) aNil)) (aCons eDn (aCons (eC (.str "")) aNil))))))))), .v (eCallL m__law_draw aNil 0 (aCons (eC (.int 7)) aNil))]))
def st2__law_changed : MS := (sIf (tE (eOp (f2 pEq) [.s 1, .v (eLst aNil)])) st1__law_changed sNext)
def st3__law_changed : MS := (sPar 2 3 (aCons (eCallL m__law_draw aNil 0 (aCons (eOp oLen [.s 1]) aNil)) (aCons (eCallL m__law_draw aNil 0 (aCons (eOp oLen [.s 1]) aNil)) aNil)))
def st4__law_changed : MS := (sAsg (eOp oIx [.s 1, .s 2]) (gN 4))
def st5__law_changed : MS := (sAsg (eOp oIx [.v (eFz (eLst (aCons (eOp oNeg [.v (eC (.int 1))]) (aCons (eC (.int 99)) (aCons (eC .non) (aCons (eC (.bl true)) (aCons (eC (.bl false)) (aCons (eC (.str "0")) (aCons (eLst (aCons (eC (.int 0)) aNil)) (aCons (eOp oPow [.v (eC (.int 10)), .v (eC (.int 20))]) aNil)))))))))), .v (eCallL m__law_draw aNil 0 (aCons (eC (.int 8)) aNil))]) (gN 5))
def st6__law_changed : MS := (sAsg (eFz (eLst (aCons (eFz (eOp oS10 [.s 4, .v (eC (.int 1))])) (aCons (eOp oAdd [.s 4, .v (eFz (eOp oS01 [.s 4, .v (eC (.int 1))]))]) (aCons (eOp oAdd [.s 4, .v (eLst (aCons (eN 5) aNil))]) (aCons (eOp oAdd [.v (eLst (aCons (eN 5) aNil)), .v (eFz (eOp oS10 [.s 4, .v (eC (.int 1))]))]) (aCons (eOp oTuple [.s 4]) (aCons (eC .non) (aCons (eLst aNil) (aCons (eOp oAdd [.s 4, .v (eOp oIx [.s 1, .s 3])]) aNil)))))))))) (gN 6))
def st7__law_changed : MS := (sAsg (eCallL m__law_draw aNil 0 (aCons (eC (.int 14)) aNil)) (gN 7))
def st8__law_changed : MS := (sRet (eOp oAdd [.v (eOp oAdd [.v (eOp oS01 [.s 1, .s 2]), .v (eLst (aCons (eOp oIx [.s 6, .s 7]) aNil))]), .v (eOp oS10 [.s 1, .v (eOp oAdd [.s 2, .v (eC (.int 1))])])]))
def st9__law_changed : MS := (sIf (tE (eOp (f2 pLt) [.s 7, .v (eC (.int 8))])) st8__law_changed sNext)
def st10__law_changed : MS := (sAsg (eOp oAdd [.v (eOp oAdd [.v (eOp oS01 [.s 1, .s 2]), .v (eLst (aCons (eFz (eOp oSumL [.v (eS11 1 (eN 2) (eOp oAdd [.s 2, .v (eC (.int 2))]))])) aNil))]), .v (eOp oS10 [.s 1, .v (eOp oAdd [.s 2, .v (eC (.int 2))])])]) (gN 8))
def st11__law_changed : MS := (sAsg (eOp oAdd [.v (eOp oAdd [.v (eOp oS01 [.s 1, .s 2]), .v (eLst (aCons (eFz (eOp oS01 [.s 4, .v (eC (.int 1))])) (aCons (eFz (eOp oS10 [.s 4, .v (eC (.int 1))])) aNil)))]), .v (eOp oS10 [.s 1, .v (eOp oAdd [.s 2, .v (eC (.int 1))])])]) (gN 9))
def st12__law_changed : MS := (sAsg (eFz (eLst (aCons (eN 8) (aCons (eN 9) (aCons (eOp oRevA [.s 1]) (aCons (eOp oAdd [.v (eOp oS01 [.s 1, .s 2]), .v (eOp oS10 [.s 1, .v (eOp oAdd [.s 2, .v (eC (.int 1))])])]) (aCons (eOp oTuple [.s 1]) (aCons (eOp oAdd [.v (eOp oS10 [.s 1, .s 2]), .v (eOp oS01 [.s 1, .s 2])]) aNil)))))))) (gN 10))
def st13__law_changed : MS := (sRet (eOp oIx [.s 10, .v (eOp oSub [.s 7, .v (eC (.int 8))])]))
def b__law_changed : MS := (sSeq st2__law_changed (sSeq st3__law_changed (sSeq st4__law_changed (sSeq st5__law_changed (sSeq st6__law_changed (sSeq st7__law_changed (sSeq st9__law_changed (sSeq st10__law_changed (sSeq st11__law_changed (sSeq st12__law_changed st13__law_changed))))))))))
def m__law_changed : MF := fn 2 11 [0, 1] b__law_changed
def b_Network___len__ : MS := (sRet (eOp oLen [.v (eOp (oFld 0 "own_steps") [.s 0])]))
def m_Network___len__ : MF := fn 1 1 [0] b_Network___len__
def lg1_round_by_index : MG := (gN 6)
def le1_round_by_index : ME := (eOr (eNot (eOp (oIsiB "list") [.s 6, .v (eC (.ty "list"))])) (eOp (f2 pEq) [.s 6, .v (eLst aNil)]))
def fg2_round_by_index : MG := (gN 5)
def fb2_round_by_index : MS := (sSeq (sIf (tOrM (tNotM (tE (eCall m_is_integer (aCons (eN 5) (aCons (eC (.int 0)) (aCons (eOp oSub [.v (eLenI 0 m_Network___len__ (.v (eFz (eN 0)))), .v (eC (.int 1))]) aNil)))))) (tE (eOp (oDIn false) [.s 5, .s 2]))) (sRet (eC .non)) sNext) (sAsg (eN 3) (gDx 2 (eN 5))))
def fg3_round_by_index : MG := (gT [(gN 3), (gN 4)])
def fb3_round_by_index : MS := (sFor (iE (eN 4) lstItems) fg2_round_by_index fb2_round_by_index)
def b_round_by_index : MS := (sSeq (sIf (tOrM (tNotM (tE (eOp (oIsiB "list") [.s 1, .v (eC (.ty "list"))]))) (tE (eOp oAny [.v (eLc (iE (eN 1) lstItems) lg1_round_by_index tYesM le1_round_by_index [6])]))) (sRet (eC .non)) sNext) (sSeq (sAsg eDn (gN 2)) (sSeq (sFor (iEn (eN 1)) fg3_round_by_index fb3_round_by_index) (sRet (eIf (tE (eOp (f2 pEq) [.v (eOp oLenD [.s 2]), .v (eLenI 0 m_Network___len__ (.v (eFz (eN 0))))])) (eN 2) (eC .non))))))
def m_round_by_index : MF := fn 2 7 [0, 1] b_round_by_index
def fg1_is_schedule : MG := (gN 6)
def fb1_is_schedule : MS := (sIf (tAndM (tE (eOp (oDIn false) [.s 6, .s 3])) (tE (eOp (f2 pGe) [.v (eOp oDx [.s 2, .v (eOp oDx [.s 3, .s 6])]), .v (eOp oDx [.s 2, .s 4])]))) (sRet (eC (.bl false))) sNext)
def fg2_is_schedule : MG := (gT [(gN 4), (gN 5)])
def fb2_is_schedule : MS := (sSeq (sFor (iE (eTup (aCons (eOp oSub [.s 5, .v (eC (.int 1))]) (aCons (eN 5) (aCons (eOp oAdd [.s 5, .v (eC (.int 1))]) aNil)))) tupItems) fg1_is_schedule fb1_is_schedule) (sAsg (eN 4) (gDx 3 (eN 5))))
def b_is_schedule : MS := (sSeq (sPar 2 3 (aCons (eCall m_round_by_index (aCons (eN 0) (aCons (eN 1) aNil))) (aCons eDn aNil))) (sSeq (sIf (tE (eOp oIsN [.s 2, .v (eC .non)])) (sRet (eC (.bl false))) sNext) (sSeq (sFor (iEnT (eOp (oFld 0 "own_steps") [.s 0])) fg2_is_schedule fb2_is_schedule) (sRet (eC (.bl true))))))
def m_is_schedule : MF := fn 2 7 [0, 1] b_is_schedule
def lg1__law_is_schedule : MG := (gN 7)
def le1__law_is_schedule : ME := (eN 7)
def lt1__law_is_schedule : MT := (tOrM (tNotM (tE (eOp (oIsiB "list") [.s 7, .v (eC (.ty "list"))]))) (tE (eOp (f2 pEq) [.s 7, .v (eLst aNil)])))
def st2__law_is_schedule : MS := (sRet (eC (.bl false)))
def st3__law_is_schedule : MS := (sIf (tOrM (tNotM (tE (eOp (oIsiB "list") [.s 1, .v (eC (.ty "list"))]))) (tE (eOp (f2 pNe) [.v (eLc (iE (eN 1) lstItems) lg1__law_is_schedule lt1__law_is_schedule le1__law_is_schedule [7]), .v (eLst aNil)]))) st2__law_is_schedule sNext)
def st4__law_is_schedule : MS := (sAsg (eOp oSumL [.s 1]) (gN 2))
def lg5__law_is_schedule : MG := (gN 4)
def le5__law_is_schedule : ME := (eN 4)
def lt5__law_is_schedule : MT := (tOrM (tNotM (tE (eOp (oIsiB "int") [.s 4, .v (eC (.ty "int"))]))) (tE (eOp (oIsiB "bool") [.s 4, .v (eC (.ty "bool"))])))
def st6__law_is_schedule : MS := (sRet (eC (.bl false)))
def st7__law_is_schedule : MS := (sIf (tE (eOp (f2 pNe) [.v (eLc (iE (eN 2) lstItems) lg5__law_is_schedule lt5__law_is_schedule le5__law_is_schedule [4]), .v (eLst aNil)])) st6__law_is_schedule sNext)
def st8__law_is_schedule : MS := (sRet (eC (.bl false)))
def st9__law_is_schedule : MS := (sIf (tE (eOp (f2 pNe) [.v (eOp oSorted [.s 2]), .v (eOp oLRg1 [.v (eOp oLen [.s 0])])])) st8__law_is_schedule sNext)
def lg10__law_is_schedule : MG := (gT [(gN 8), (gN 7)])
def le10__law_is_schedule : ME := (eN 8)
def lt10__law_is_schedule : MT := (tE (eOp (oIn false) [.s 4, .s 7]))
def lg11__law_is_schedule : MG := (gN 4)
def le11__law_is_schedule : ME := (eTup (aCons (eN 4) (aCons (eOp oIx [.v (eLc (iEn (eN 1)) lg10__law_is_schedule lt10__law_is_schedule le10__law_is_schedule [8, 7]), .v (eC (.int 0))]) aNil)))
def st12__law_is_schedule : MS := (sAsg (eDctI (eLc (iE (eN 2) lstItems) lg11__law_is_schedule tYesM le11__law_is_schedule [4])) (gN 3))
def lg13__law_is_schedule : MG := (gN 9)
def le13__law_is_schedule : ME := (eN 9)
def lt13__law_is_schedule : MT := (tE (eOp (f2 pLt) [.v (eOp oAbs [.v (eOp oSub [.v (eOp oIx [.s 0, .s 9]), .s 5])]), .v (eC (.int 2))]))
def st14__law_is_schedule : MS := (sAsg (eLc (iR1 (eN 4)) lg13__law_is_schedule lt13__law_is_schedule le13__law_is_schedule [9]) (gN 6))
def lg15__law_is_schedule : MG := (gN 9)
def le15__law_is_schedule : ME := (eN 9)
def lt15__law_is_schedule : MT := (tE (eOp (f2 pGe) [.v (eOp oDx [.s 3, .s 9]), .v (eOp oDx [.s 3, .s 4])]))
def st16__law_is_schedule : MS := (sRet (eC (.bl false)))
def st17__law_is_schedule : MS := (sIf (tE (eOp (f2 pNe) [.v (eLc (iE (eN 6) lstItems) lg15__law_is_schedule lt15__law_is_schedule le15__law_is_schedule [9]), .v (eLst aNil)])) st16__law_is_schedule sNext)
def fg18__law_is_schedule : MG := (gT [(gN 4), (gN 5)])
def fb18__law_is_schedule : MS := (sSeq st14__law_is_schedule st17__law_is_schedule)
def st20__law_is_schedule : MS := (sRet (eC (.bl true)))
def b__law_is_schedule : MS := (sSeq st3__law_is_schedule (sSeq st4__law_is_schedule (sSeq st7__law_is_schedule (sSeq st9__law_is_schedule (sSeq st12__law_is_schedule (sSeq (sFor (iEn (eN 0)) fg18__law_is_schedule fb18__law_is_schedule) st20__law_is_schedule))))))
def m__law_is_schedule : MF := fn 2 10 [0, 1] b__law_is_schedule
def b_Network_empty : MS := (sRet (eMakeV 0 0 m_Network___init__ (aCons (eN 1) (aCons (eLst aNil) aNil))))
def m_Network_empty : MF := fn 2 2 [0, 1] b_Network_empty
def st1_law : MS := (sAsg (eCall m__law_source (aCons (eN 0) (aCons (eN 1) aNil))) (gN 2))
def st2_law : MS := (sAsg (eOp oAdd [.v (eC (.int 1)), .v (eCallL m__law_draw aNil 2 (aCons (eC (.int 8)) aNil))]) (gN 3))
def st3_law : MS := (sAsg (eCallL m__law_steps aNil 2 (aCons (eN 3) (aCons (eC (.int 12)) aNil))) (gN 4))
def st4_law : MS := (sAsg (eMake 0 m_Network___init__ (aCons (eN 3) (aCons (eN 4) aNil))) (gN 5))
def st5_law : MS := (sAsg (eCallL m__law_late aNil 2 (aCons (eN 4) aNil)) (gN 6))
def lg6_law : MG := (gN 10)
def le6_law : ME := (eLst (aCons (eN 10) aNil))
def st7_law : MS := (sAsg (eFz (eLst (aCons (eN 6) (aCons (eLc (iR1 (eOp oLen [.s 4])) lg6_law tYesM le6_law [10]) (aCons (eLst aNil) (aCons (eLst (aCons (eLst aNil) aNil)) aNil)))))) (gN 7))
def lg8_law : MG := (gN 11)
def le8_law : ME := (eFz (eCallL m__law_changed aNil 2 (aCons (eN 6) aNil)))
def st9_law : MS := (sAsg (eOp oReprV [.s 8]) (gN 9))
def st10_law : MS := (sRet (eC (.bl false)))
def st11_law : MS := (sIf (tOrM (tE (eOp (f2 pNe) [.v (eOp oReprV [.v (eCall m_is_schedule (aCons (eN 5) (aCons (eN 8) aNil)))]), .v (eOp oReprV [.v (eCall m__law_is_schedule (aCons (eN 4) (aCons (eN 8) aNil)))])])) (tE (eOp (f2 pNe) [.v (eOp oReprV [.s 8]), .s 9]))) st10_law sNext)
def fg12_law : MG := (gN 8)
def fb12_law : MS := (sSeq st9_law st11_law)
def fg14_law : MG := (gN 1)
def fb14_law : MS := (sSeq st1_law (sSeq st2_law (sSeq st3_law (sSeq st4_law (sSeq st5_law (sSeq st7_law (sFor (iE (eOp oAdd [.s 7, .v (eLc (iR1 (eC (.int 12))) lg8_law tYesM le8_law [11])]) lstItems) fg12_law fb12_law)))))))
def st16_law : MS := (sRet (eAnd (eOp oIsB [.v (eCall m_is_schedule (aCons (eCall m_Network_empty (aCons (eC (.cls 0)) (aCons (eC (.int 3)) aNil))) (aCons (eLst aNil) aNil))), .v (eC (.bl true))]) (eOp oIsB [.v (eCall m_is_schedule (aCons (eCall m_Network_empty (aCons (eC (.cls 0)) (aCons (eC (.int 3)) aNil))) (aCons (eLst (aCons (eLst aNil) aNil)) aNil))), .v (eC (.bl false))])))
def b_law : MS := (sSeq (sFor (iR1 (eOp oMax2 [.v (eC (.int 1)), .v (eOp oMin2 [.v (eOp oLen [.s 0]), .v (eC (.int 8))])])) fg14_law fb14_law) st16_law)
def m_law : MF := fn 1 12 [0] b_law
end Lw54

set_option maxHeartbeats 0
namespace Lw54
open PySem PySem.Spec PyProof.Rows L2 DL
theorem bt_abs : bootBuiltins "abs" = some (.builtin "abs") := by decide +kernel
theorem bt_any : bootBuiltins "any" = some (.builtin "any") := by decide +kernel
theorem bt_bool : bootBuiltins "bool" = some (.type "bool") := by decide +kernel
theorem bt_dict : bootBuiltins "dict" = some (.type "dict") := by decide +kernel
theorem bt_int : bootBuiltins "int" = some (.type "int") := by decide +kernel
theorem bt_isinstance : bootBuiltins "isinstance" = some (.builtin "isinstance") := by decide +kernel
theorem bt_len : bootBuiltins "len" = some (.builtin "len") := by decide +kernel
theorem bt_list : bootBuiltins "list" = some (.type "list") := by decide +kernel
theorem bt_max : bootBuiltins "max" = some (.builtin "max") := by decide +kernel
theorem bt_min : bootBuiltins "min" = some (.builtin "min") := by decide +kernel
theorem bt_repr : bootBuiltins "repr" = some (.builtin "repr") := by decide +kernel
theorem bt_sorted : bootBuiltins "sorted" = some (.builtin "sorted") := by decide +kernel
theorem bt_sum : bootBuiltins "sum" = some (.builtin "sum") := by decide +kernel
theorem bt_tuple : bootBuiltins "tuple" = some (.type "tuple") := by decide +kernel
/-! ### what the written part says -/
structure Tx (K : PySem.W.Frag) (mg : Str → Option Value) where
  f__law_source : Addr
  d__law_source : FuncData
  F__law_source : Fun K "_law_source" "_law_source" s__law_source f__law_source d__law_source
  B__law_source : Binds K d__law_source ["_law_script", "_law_k"] []
  g__law_source : mg "_law_source" = some (.ref f__law_source)
  f__law_draw : Addr
  d__law_draw : FuncData
  F__law_draw : Fun K "_law_draw" "_law_draw" s__law_draw f__law_draw d__law_draw
  B__law_draw : Binds K d__law_draw ["_law_source_here", "_law_count"] []
  g__law_draw : mg "_law_draw" = some (.ref f__law_draw)
  f__law_steps : Addr
  d__law_steps : FuncData
  F__law_steps : Fun K "_law_steps" "_law_steps" s__law_steps f__law_steps d__law_steps
  B__law_steps : Binds K d__law_steps ["_law_source_here", "_law_width", "_law_most"] []
  g__law_steps : mg "_law_steps" = some (.ref f__law_steps)
  f_is_integer : Addr
  d_is_integer : FuncData
  F_is_integer : Fun K "is_integer" "is_integer" s_is_integer f_is_integer d_is_integer
  B_is_integer : Binds K d_is_integer ["value", "low", "high"] []
  g_is_integer : mg "is_integer" = some (.ref f_is_integer)
  f_check_width : Addr
  d_check_width : FuncData
  F_check_width : Fun K "check_width" "check_width" s_check_width f_check_width d_check_width
  B_check_width : Binds K d_check_width ["width"] []
  g_check_width : mg "check_width" = some (.ref f_check_width)
  f_check_steps : Addr
  d_check_steps : FuncData
  F_check_steps : Fun K "check_steps" "check_steps" s_check_steps f_check_steps d_check_steps
  B_check_steps : Binds K d_check_steps ["width", "steps"] []
  g_check_steps : mg "check_steps" = some (.ref f_check_steps)
  f_Network___init__ : Addr
  d_Network___init__ : FuncData
  F_Network___init__ : Fun K "__init__" "Network.__init__" s_Network___init__ f_Network___init__ d_Network___init__
  B_Network___init__ : Binds K d_Network___init__ ["self", "width", "steps"] []
  f__law_late : Addr
  d__law_late : FuncData
  F__law_late : Fun K "_law_late" "_law_late" s__law_late f__law_late d__law_late
  B__law_late : Binds K d__law_late ["_law_source_here", "_law_steps_here"] []
  g__law_late : mg "_law_late" = some (.ref f__law_late)
  f__law_changed : Addr
  d__law_changed : FuncData
  F__law_changed : Fun K "_law_changed" "_law_changed" s__law_changed f__law_changed d__law_changed
  B__law_changed : Binds K d__law_changed ["_law_source_here", "_law_rows"] []
  g__law_changed : mg "_law_changed" = some (.ref f__law_changed)
  f_Network___len__ : Addr
  d_Network___len__ : FuncData
  F_Network___len__ : Fun K "__len__" "Network.__len__" s_Network___len__ f_Network___len__ d_Network___len__
  B_Network___len__ : Binds K d_Network___len__ ["self"] []
  f_round_by_index : Addr
  d_round_by_index : FuncData
  F_round_by_index : Fun K "round_by_index" "round_by_index" s_round_by_index f_round_by_index d_round_by_index
  B_round_by_index : Binds K d_round_by_index ["network", "value"] []
  g_round_by_index : mg "round_by_index" = some (.ref f_round_by_index)
  f_is_schedule : Addr
  d_is_schedule : FuncData
  F_is_schedule : Fun K "is_schedule" "is_schedule" s_is_schedule f_is_schedule d_is_schedule
  B_is_schedule : Binds K d_is_schedule ["network", "value"] []
  g_is_schedule : mg "is_schedule" = some (.ref f_is_schedule)
  f__law_is_schedule : Addr
  d__law_is_schedule : FuncData
  F__law_is_schedule : Fun K "_law_is_schedule" "_law_is_schedule" s__law_is_schedule f__law_is_schedule d__law_is_schedule
  B__law_is_schedule : Binds K d__law_is_schedule ["_law_steps_here", "_law_value"] []
  g__law_is_schedule : mg "_law_is_schedule" = some (.ref f__law_is_schedule)
  f_Network_empty : Addr
  d_Network_empty : FuncData
  F_Network_empty : Fun K "empty" "Network.empty" s_Network_empty f_Network_empty d_Network_empty
  B_Network_empty : Binds K d_Network_empty ["cls", "width"] []
  f_law : Addr
  d_law : FuncData
  F_law : Fun K "law" "law" s_law f_law d_law
  B_law : Binds K d_law ["_law_script"] []
  g_law : mg "law" = some (.ref f_law)
  c_Network : Addr
  g_Network : mg "Network" = some (.ref c_Network)
  cl_Network : Cls K c_Network
  mk_Network : Mk K c_Network f_Network___init__
  ol_Network : OwnSpC K c_Network f_Network___len__ "__len__"
  p_Network_steps : Addr
  f_Network_steps : Addr
  d_Network_steps : FuncData
  F_Network_steps : Fun K "steps" "Network.steps" s_Network_steps f_Network_steps d_Network_steps
  B_Network_steps : Binds K d_Network_steps ["self"] []
  pr_Network_steps : PropOf K c_Network "steps" p_Network_steps f_Network_steps
  na_Network_own_steps : NoAttr K c_Network "own_steps"
  na_Network_own_width : NoAttr K c_Network "own_width"
  mc_Network : Value
  rd_Network : ClX.CRead K c_Network mc_Network
  p_Network_empty : Addr
  cm_Network_empty : ClX.CMet K c_Network mc_Network "empty" p_Network_empty f_Network_empty
  v_Network_MAX_STEPS : Value
  cv_Network_MAX_STEPS : ClX.CVal K c_Network mc_Network "MAX_STEPS" (.int 1000) v_Network_MAX_STEPS
  v_Network_MAX_WIDTH : Value
  cv_Network_MAX_WIDTH : ClX.CVal K c_Network mc_Network "MAX_WIDTH" (.int 40) v_Network_MAX_WIDTH
  z_abs : mg "abs" = none
  z_any : mg "any" = none
  z_bool : mg "bool" = none
  z_dict : mg "dict" = none
  z_enumerate : mg "enumerate" = none
  z_int : mg "int" = none
  z_isinstance : mg "isinstance" = none
  z_len : mg "len" = none
  z_list : mg "list" = none
  z_max : mg "max" = none
  z_min : mg "min" = none
  z_range : mg "range" = none
  z_repr : mg "repr" = none
  z_sorted : mg "sorted" = none
  z_sum : mg "sum" = none
  z_tuple : mg "tuple" = none
section
variable {w : World} {P : Program} {base : Heap} {mg : Str → Option Value} {K : PySem.W.Frag}
def Tx.ca (T : Tx K mg) : Nat → Addr
  | 0 => T.c_Network
  | _ => 0
theorem ok_Network_steps (T : Tx K mg) : FnOk P w K mg base (L2.CX P w) 1 T.f_Network_steps T.d_Network_steps ["self"] (getSp (T.ca 0) "own_steps") := getter_ok T.F_Network_steps sc_Network_steps rfl rfl T.cl_Network T.na_Network_own_steps
theorem ok__law_source (T : Tx K mg) : FnG P w K mg base (L2.CX P w) 1 T.f__law_source (spM T.ca K m__law_source) := fn_okG (N := ["_law_script", "_law_k", "_law_cell", "_law_size", "_law_mixed"]) (n := 2) (L := [0, 1]) (mb := b__law_source) T.F__law_source T.B__law_source sc__law_source rfl fun cdv A outer s H E hr =>
  show CSs _ _ _ _ b__law_source from (css_cons (cs_set 2 sc__law_source.nd (ce_bin op_addA os_add (co_v (ce_bin op_mulA os_mul (co_v ce_int) (co_v (ce_callB (cr_sum rfl) (by rfl) T.z_sum bt_sum os_sum (.cons (co_v (ce_s01 (es 0) (co_v ce_int))) .nil) (hst := ⟨fun _ => rfl, trivial⟩))))) (es 1)))
    (css_cons (cs_if (ct_cmp (ce_cmp op_lt os_lt (es 1) (co_v (ce_callB call_len_seq (by rfl) T.z_len bt_len os_len (.cons (es 0) .nil) (hst := ⟨fun _ => rfl, trivial⟩))) (nomark _))) (css_one (cs_set 2 sc__law_source.nd (ce_ix ix_A os_ix (es 0) (es 1) (fun _ _ => rfl)))) css_nil)
    (css_cons (cs_set 3 sc__law_source.nd (ce_callB call_abs (by rfl) T.z_abs bt_abs os_abs (.cons (es 2) .nil) (hst := ⟨fun _ => rfl, trivial⟩)))
    (css_cons (cs_set 4 sc__law_source.nd (ce_bin op_mod os_mod (co_v (ce_bin op_mulA os_mul (co_v (ce_bin op_addA os_add (co_v (ce_bin op_addA os_add (co_v (ce_bin op_addA os_add (co_v (ce_bin op_mod os_mod (es 3) (co_v ce_int))) (co_v (ce_bin op_mulA os_mul (co_v (ce_bin op_mulA os_mul (co_v ce_int) (es 1))) (es 1))))) (co_v (ce_bin op_mulA os_mul (co_v ce_int) (es 1))))) (co_v ce_int))) (co_v ce_int))) (co_v ce_int)))
    (css_one (cs_ret (ce_lst (cl_cons (ce_bin op_mulA os_mul (es 3) (co_v (ce_callTy call_int1 (by rfl) T.z_int bt_int os_int (.cons (co_v (ce_cmp op_ge os_ge (es 3) (co_v (ce_bin op_pow os_pow (co_v ce_int) (co_v ce_int))) (nomark _))) .nil) (hst := ⟨fun _ => rfl, trivial⟩)))) (cl_cons (ce_bin op_mod os_mod (co_v (ce_bin op_mulA os_mul (es 4) (es 4))) (co_v ce_int)) cl_nil)) ⟨fun _ => rfl, ⟨fun _ => rfl, trivial⟩⟩)))))))
theorem ok__law_draw (T : Tx K mg) : FnG P w K mg base (L2.CX P w) 1 T.f__law_draw (spM T.ca K m__law_draw) := fn_okG (N := ["_law_source_here", "_law_count", "_law_result"]) (n := 2) (L := [0, 1]) (mb := b__law_draw) T.F__law_draw T.B__law_draw sc__law_draw rfl fun cdv A outer s H E hr =>
  show CSs _ _ _ _ b__law_draw from (css_cons (cs_if (ct_cmp (ce_cmp op_gt os_gt (co_v (ce_ix ix_A os_ix (es 0) (co_v ce_int) (fun _ _ => rfl))) (co_v ce_int) (nomark _))) (css_cons (cs_set 2 sc__law_draw.nd (ce_bin op_mod os_mod (co_v (ce_ix ix_A os_ix (es 0) (co_v ce_int) (fun _ _ => rfl))) (es 1)))
    (css_cons (cs_asgT (ce_bin op_fdivW os_div (co_v (ce_ix ix_A os_ix (es 0) (co_v ce_int) (fun _ _ => rfl))) (es 1)) (cg_ix (pv 0) ce_int (fun _ => rfl)))
    (css_one (cs_ret (emv 2))))) css_nil)
    (css_cons (cs_asgT (ce_bin op_mod os_mod (co_v (ce_bin op_addA os_add (co_v (ce_bin op_mulA os_mul (co_v (ce_ix ix_A os_ix (es 0) (co_v ce_int) (fun _ _ => rfl))) (co_v ce_int))) (co_v ce_int))) (co_v ce_int)) (cg_ix (pv 0) ce_int (fun _ => rfl)))
    (css_one (cs_ret (ce_bin op_mod os_mod (co_v (ce_bin op_fdivW os_div (co_v (ce_bin op_mod os_mod (co_v (ce_bin op_mulA os_mul (co_v (ce_ix ix_A os_ix (es 0) (co_v ce_int) (fun _ _ => rfl))) (co_v (ce_ix ix_A os_ix (es 0) (co_v ce_int) (fun _ _ => rfl))))) (co_v ce_int))) (co_v ce_int))) (es 1))))))
theorem os1__law_steps (T : Tx K mg) {cdv : Value} {A : Around} {outer : List Env} {s : Shared} {H : Hp} {E : XK} (hr : RoomG 1 (A.deeper (envOfC "_law_steps" (defScope s__law_steps) s.heap.objs.size T.f__law_steps cdv))) : CS T.ca (cxOf (L2.CX P w) P w K mg base ["_law_source_here", "_law_width", "_law_most", "_law_way", "_law_result", "_law_turn", "_law_step"] "_law_steps" (defScope s__law_steps) T.f__law_steps cdv A outer s H E) [0, 1, 2] (nthS (ifB (nthS (defBody s__law_steps) 0)) 0) st1__law_steps :=
  (cs_ret (ce_lst cl_nil trivial))
theorem os2__law_steps (T : Tx K mg) {cdv : Value} {A : Around} {outer : List Env} {s : Shared} {H : Hp} {E : XK} (hr : RoomG 1 (A.deeper (envOfC "_law_steps" (defScope s__law_steps) s.heap.objs.size T.f__law_steps cdv))) : CS T.ca (cxOf (L2.CX P w) P w K mg base ["_law_source_here", "_law_width", "_law_most", "_law_way", "_law_result", "_law_turn", "_law_step"] "_law_steps" (defScope s__law_steps) T.f__law_steps cdv A outer s H E) [0, 1, 2] (nthS (defBody s__law_steps) 0) st2__law_steps :=
  (cs_if (ct_cmp (ce_cmp (op_eqD hr.2.units) os_eq (es 1) (co_v ce_int) (nomark _))) (css_one (os1__law_steps T hr)) css_nil)
theorem os3__law_steps (T : Tx K mg) {cdv : Value} {A : Around} {outer : List Env} {s : Shared} {H : Hp} {E : XK} (hr : RoomG 1 (A.deeper (envOfC "_law_steps" (defScope s__law_steps) s.heap.objs.size T.f__law_steps cdv))) : CS T.ca (cxOf (L2.CX P w) P w K mg base ["_law_source_here", "_law_width", "_law_most", "_law_way", "_law_result", "_law_turn", "_law_step"] "_law_steps" (defScope s__law_steps) T.f__law_steps cdv A outer s H E) [0, 1, 2] (nthS (defBody s__law_steps) 1) st3__law_steps :=
  (cs_set 3 sc__law_steps.nd (ce_callLG _ _ _ (ok__law_draw T) (hr.mono (by decide)) (by rfl) T.g__law_draw T.F__law_draw.kp cl_nil (pv 0) (cl_cons ce_int cl_nil) rfl ⟨fun _ => rfl, ⟨fun _ => rfl, trivial⟩⟩))
theorem os4__law_steps (T : Tx K mg) {cdv : Value} {A : Around} {outer : List Env} {s : Shared} {H : Hp} {E : XK} (hr : RoomG 1 (A.deeper (envOfC "_law_steps" (defScope s__law_steps) s.heap.objs.size T.f__law_steps cdv))) : CS T.ca (cxOf (L2.CX P w) P w K mg base ["_law_source_here", "_law_width", "_law_most", "_law_way", "_law_result", "_law_turn", "_law_step"] "_law_steps" (defScope s__law_steps) T.f__law_steps cdv A outer s H E) [0, 1, 2] (nthS (defBody s__law_steps) 2) st4__law_steps :=
  (cs_set 4 sc__law_steps.nd (ce_lst cl_nil trivial))
theorem os5__law_steps (T : Tx K mg) {cdv : Value} {A : Around} {outer : List Env} {s : Shared} {H : Hp} {E : XK} (hr : RoomG 1 (A.deeper (envOfC "_law_steps" (defScope s__law_steps) s.heap.objs.size T.f__law_steps cdv))) : CS T.ca (cxOf (L2.CX P w) P w K mg base ["_law_source_here", "_law_width", "_law_most", "_law_way", "_law_result", "_law_turn", "_law_step"] "_law_steps" (defScope s__law_steps) T.f__law_steps cdv A outer s H E) [0, 1, 2] (nthS (forB (nthS (defBody s__law_steps) 3)) 0) st5__law_steps :=
  (cs_set 6 sc__law_steps.nd (ce_bin op_addA os_add (co_v ce_int) (co_v (ce_callLG _ _ _ (ok__law_draw T) (hr.mono (by decide)) (by rfl) T.g__law_draw T.F__law_draw.kp cl_nil (pv 0) (cl_cons (ce_bin op_sub os_sub (es 1) (co_v ce_int)) cl_nil) rfl ⟨fun _ => rfl, ⟨fun _ => rfl, trivial⟩⟩))))
theorem os6__law_steps (T : Tx K mg) {cdv : Value} {A : Around} {outer : List Env} {s : Shared} {H : Hp} {E : XK} (hr : RoomG 1 (A.deeper (envOfC "_law_steps" (defScope s__law_steps) s.heap.objs.size T.f__law_steps cdv))) : CS T.ca (cxOf (L2.CX P w) P w K mg base ["_law_source_here", "_law_width", "_law_most", "_law_way", "_law_result", "_law_turn", "_law_step"] "_law_steps" (defScope s__law_steps) T.f__law_steps cdv A outer s H E) [0, 1, 2] (nthS (ifB (nthS (forB (nthS (defBody s__law_steps) 3)) 1)) 0) st6__law_steps :=
  (cs_set 6 sc__law_steps.nd (ce_callB (call_min2 rfl) (by rfl) T.z_min bt_min os_min2 (.cons (co_v (ce_bin op_sub os_sub (es 1) (co_v ce_int))) (.cons (co_v (ce_callB (call_max2 rfl) (by rfl) T.z_max bt_max os_max2 (.cons (co_v ce_int) (.cons (co_v (ce_bin op_addA os_add (co_v (ce_ix ix_A os_ix (es 4) (co_v (ce_un un_neg os_neg (co_v ce_int))) (fun _ _ => rfl))) (co_v (ce_ix ix_A os_ix (co_v (ce_lst (cl_cons ce_int (cl_cons ce_int (cl_cons (ce_un un_neg os_neg (co_v ce_int)) (cl_cons ce_int cl_nil)))) ⟨fun _ => rfl, ⟨fun _ => rfl, ⟨fun _ => rfl, ⟨fun _ => rfl, trivial⟩⟩⟩⟩)) (co_v (ce_callLG _ _ _ (ok__law_draw T) (hr.mono (by decide)) (by rfl) T.g__law_draw T.F__law_draw.kp cl_nil (pv 0) (cl_cons ce_int cl_nil) rfl ⟨fun _ => rfl, ⟨fun _ => rfl, trivial⟩⟩)) (fun _ _ => rfl))))) .nil)) (hst := ⟨fun _ => rfl, ⟨fun _ => rfl, trivial⟩⟩))) .nil)) (hst := ⟨fun _ => rfl, ⟨fun _ => rfl, trivial⟩⟩)))
theorem os7__law_steps (T : Tx K mg) {cdv : Value} {A : Around} {outer : List Env} {s : Shared} {H : Hp} {E : XK} (hr : RoomG 1 (A.deeper (envOfC "_law_steps" (defScope s__law_steps) s.heap.objs.size T.f__law_steps cdv))) : CS T.ca (cxOf (L2.CX P w) P w K mg base ["_law_source_here", "_law_width", "_law_most", "_law_way", "_law_result", "_law_turn", "_law_step"] "_law_steps" (defScope s__law_steps) T.f__law_steps cdv A outer s H E) [0, 1, 2] (nthS (forB (nthS (defBody s__law_steps) 3)) 1) st7__law_steps :=
  (cs_if (ct_w (cw_and (ct_cmp (ce_cmp (op_eqD hr.2.units) os_eq (es 3) (co_v ce_int) (nomark _))) (cw_and1 (ct_cmp (ce_cmp (op_neD hr.2.units) os_ne (es 4) (co_v (ce_lst cl_nil trivial)) (nomark _)))))) (css_one (os6__law_steps T hr)) css_nil)
theorem os8__law_steps (T : Tx K mg) {cdv : Value} {A : Around} {outer : List Env} {s : Shared} {H : Hp} {E : XK} (hr : RoomG 1 (A.deeper (envOfC "_law_steps" (defScope s__law_steps) s.heap.objs.size T.f__law_steps cdv))) : CS T.ca (cxOf (L2.CX P w) P w K mg base ["_law_source_here", "_law_width", "_law_most", "_law_way", "_law_result", "_law_turn", "_law_step"] "_law_steps" (defScope s__law_steps) T.f__law_steps cdv A outer s H E) [0, 1, 2] (nthS (ifB (nthS (forB (nthS (defBody s__law_steps) 3)) 2)) 0) st8__law_steps :=
  (cs_set 6 sc__law_steps.nd (ce_bin op_addA os_add (co_v ce_int) (co_v (ce_bin op_mod os_mod (es 5) (co_v (ce_bin op_sub os_sub (es 1) (co_v ce_int)))))))
theorem os9__law_steps (T : Tx K mg) {cdv : Value} {A : Around} {outer : List Env} {s : Shared} {H : Hp} {E : XK} (hr : RoomG 1 (A.deeper (envOfC "_law_steps" (defScope s__law_steps) s.heap.objs.size T.f__law_steps cdv))) : CS T.ca (cxOf (L2.CX P w) P w K mg base ["_law_source_here", "_law_width", "_law_most", "_law_way", "_law_result", "_law_turn", "_law_step"] "_law_steps" (defScope s__law_steps) T.f__law_steps cdv A outer s H E) [0, 1, 2] (nthS (forB (nthS (defBody s__law_steps) 3)) 2) st9__law_steps :=
  (cs_if (ct_cmp (ce_cmp (op_eqD hr.2.units) os_eq (es 3) (co_v ce_int) (nomark _))) (css_one (os8__law_steps T hr)) css_nil)
theorem os10__law_steps (T : Tx K mg) {cdv : Value} {A : Around} {outer : List Env} {s : Shared} {H : Hp} {E : XK} (hr : RoomG 1 (A.deeper (envOfC "_law_steps" (defScope s__law_steps) s.heap.objs.size T.f__law_steps cdv))) : CS T.ca (cxOf (L2.CX P w) P w K mg base ["_law_source_here", "_law_width", "_law_most", "_law_way", "_law_result", "_law_turn", "_law_step"] "_law_steps" (defScope s__law_steps) T.f__law_steps cdv A outer s H E) [0, 1, 2] (nthS (forB (nthS (defBody s__law_steps) 3)) 3) st10__law_steps :=
  (cs_expr (ce_app (pv 4) (en 6)))
theorem os12__law_steps (T : Tx K mg) {cdv : Value} {A : Around} {outer : List Env} {s : Shared} {H : Hp} {E : XK} (hr : RoomG 1 (A.deeper (envOfC "_law_steps" (defScope s__law_steps) s.heap.objs.size T.f__law_steps cdv))) : CS T.ca (cxOf (L2.CX P w) P w K mg base ["_law_source_here", "_law_width", "_law_most", "_law_way", "_law_result", "_law_turn", "_law_step"] "_law_steps" (defScope s__law_steps) T.f__law_steps cdv A outer s H E) [0, 1, 2] (nthS (defBody s__law_steps) 3) (sFor (iR1 (eCallL m__law_draw aNil 0 (aCons (eOp oAdd [.s 2, .v (eC (.int 1))]) aNil))) fg11__law_steps fb11__law_steps) :=
  (cs_for (ci_range1 (by rfl) T.z_range (ce_callLG _ _ _ (ok__law_draw T) (hr.mono (by decide)) (by rfl) T.g__law_draw T.F__law_draw.kp cl_nil (pv 0) (cl_cons (ce_bin op_addA os_add (es 2) (co_v ce_int)) cl_nil) rfl ⟨fun _ => rfl, ⟨fun _ => rfl, trivial⟩⟩)) (gn 5 sc__law_steps.nd) (css_cons (os5__law_steps T hr)
    (css_cons (os7__law_steps T hr)
    (css_cons (os9__law_steps T hr)
    (css_one (os10__law_steps T hr))))) (passes_of rfl) rfl)
theorem os13__law_steps (T : Tx K mg) {cdv : Value} {A : Around} {outer : List Env} {s : Shared} {H : Hp} {E : XK} (hr : RoomG 1 (A.deeper (envOfC "_law_steps" (defScope s__law_steps) s.heap.objs.size T.f__law_steps cdv))) : CS T.ca (cxOf (L2.CX P w) P w K mg base ["_law_source_here", "_law_width", "_law_most", "_law_way", "_law_result", "_law_turn", "_law_step"] "_law_steps" (defScope s__law_steps) T.f__law_steps cdv A outer s H E) [0, 1, 2] (nthS (defBody s__law_steps) 4) st13__law_steps :=
  (cs_ret (emv 4))
theorem ok__law_steps (T : Tx K mg) : FnG P w K mg base (L2.CX P w) 2 T.f__law_steps (spM T.ca K m__law_steps) := fn_okG (N := ["_law_source_here", "_law_width", "_law_most", "_law_way", "_law_result", "_law_turn", "_law_step"]) (n := 3) (L := [0, 1, 2]) (mb := b__law_steps) T.F__law_steps T.B__law_steps sc__law_steps rfl fun cdv A outer s H E hr =>
  show CSs _ _ _ _ b__law_steps from (css_cons (os2__law_steps T hr)
    (css_cons (os3__law_steps T hr)
    (css_cons (os4__law_steps T hr)
    (css_cons (os12__law_steps T hr)
    (css_one (os13__law_steps T hr))))))
theorem ok_is_integer (T : Tx K mg) : FnG P w K mg base (L2.CX P w) 1 T.f_is_integer (spM T.ca K m_is_integer) := fn_okG (N := ["value", "low", "high"]) (n := 3) (L := [0, 1, 2]) (mb := b_is_integer) T.F_is_integer T.B_is_integer sc_is_integer rfl fun cdv A outer s H E hr =>
  show CSs _ _ _ _ b_is_integer from (css_one (cs_ret (ce_and' (ce_callB call_isi (by rfl) T.z_isinstance bt_isinstance (os_isiB (T := "int")) (.cons (es 0) (.cons (co_v (ce_ty (by rfl) T.z_int bt_int)) .nil)) (hst := ⟨fun _ => rfl, ⟨fun _ => rfl, trivial⟩⟩)) (ce_and (ce_not (ce_callB call_isi (by rfl) T.z_isinstance bt_isinstance (os_isiB (T := "bool")) (.cons (es 0) (.cons (co_v (ce_ty (by rfl) T.z_bool bt_bool)) .nil)) (hst := ⟨fun _ => rfl, ⟨fun _ => rfl, trivial⟩⟩))) (ce_chain op_le op_le os_le os_le (en 1) (en 0) (en 2))))))
theorem ok_check_width (T : Tx K mg) : FnG P w K mg base (L2.CX P w) 2 T.f_check_width (spM T.ca K m_check_width) := fn_okG (N := ["width"]) (n := 1) (L := [0]) (mb := b_check_width) T.F_check_width T.B_check_width sc_check_width rfl fun cdv A outer s H E hr =>
  show CSs _ _ _ _ b_check_width from (css_one (cs_if (ct_not (ct_val (ce_callR (ok_is_integer T) (hr.mono (by decide)) (by rfl) T.g_is_integer T.F_is_integer.kp (cl_cons (en 0) (cl_cons ce_int (cl_cons (ce_cval (by rfl) T.g_Network T.rd_Network T.cv_Network_MAX_WIDTH fun _ _ => .int) cl_nil))) ⟨fun _ => rfl, ⟨fun _ => rfl, ⟨fun _ => rfl, trivial⟩⟩⟩))) css_fail css_nil))
theorem ok_check_steps (T : Tx K mg) : FnG P w K mg base (L2.CX P w) 2 T.f_check_steps (spM T.ca K m_check_steps) := fn_okG (N := ["width", "steps", "index", "step"]) (n := 2) (L := [0, 1]) (mb := b_check_steps) T.F_check_steps T.B_check_steps sc_check_steps rfl fun cdv A outer s H E hr =>
  show CSs _ _ _ _ b_check_steps from (css_cons (cs_if (ct_w (cw_or (ct_not (ct_val (ce_callB call_isiT (by rfl) T.z_isinstance bt_isinstance os_isi2 (.cons (es 1) (.cons (co_v (ce_tup (cl_cons (ce_ty (by rfl) T.z_list bt_list) (cl_cons (ce_ty (by rfl) T.z_tuple bt_tuple) cl_nil)) ⟨fun _ => rfl, ⟨fun _ => rfl, trivial⟩⟩)) .nil)) (hst := ⟨fun _ => rfl, ⟨fun _ => rfl, trivial⟩⟩)))) (cw_or1 (ct_cmp (ce_cmp op_gt os_gt (co_v (ce_callB call_len_seq (by rfl) T.z_len bt_len os_len (.cons (es 1) .nil) (hst := ⟨fun _ => rfl, trivial⟩))) (co_v (ce_cval (by rfl) T.g_Network T.rd_Network T.cv_Network_MAX_STEPS fun _ _ => .int)) (nomark _)))))) css_fail css_nil)
    (css_one (cs_for (ci_or (ci_enum (by rfl) T.z_enumerate (en 1)) (ci_enumT (by rfl) T.z_enumerate (en 1)) (iEnA_or _)) (cg_tup rfl (cgs_cons (gn 2 sc_check_steps.nd) (cgs_cons (gn 3 sc_check_steps.nd) cgs_nil (by rfl)) (by rfl)) rfl) (css_one (cs_if (ct_not (ct_val (ce_callR (ok_is_integer T) (hr.mono (by decide)) (by rfl) T.g_is_integer T.F_is_integer.kp (cl_cons (en 3) (cl_cons ce_int (cl_cons (ce_bin op_sub os_sub (es 0) (co_v ce_int)) cl_nil))) ⟨fun _ => rfl, ⟨fun _ => rfl, ⟨fun _ => rfl, trivial⟩⟩⟩))) css_fail css_nil)) (passes_of rfl) rfl)))
theorem ok_Network___init__ (T : Tx K mg) : FnG P w K mg base (L2.CX P w) 3 T.f_Network___init__ (spM T.ca K m_Network___init__) := fn_okG (N := ["self", "width", "steps"]) (n := 3) (L := [0, 1, 2]) (mb := b_Network___init__) T.F_Network___init__ T.B_Network___init__ sc_Network___init__ rfl fun cdv A outer s H E hr =>
  show CSs _ _ _ _ b_Network___init__ from (css_cons (cs_expr (ce_callR (ok_check_width T) (hr.mono (by decide)) (by rfl) T.g_check_width T.F_check_width.kp (cl_cons (en 1) cl_nil) ⟨fun _ => rfl, trivial⟩))
    (css_cons (cs_expr (ce_callR (ok_check_steps T) (hr.mono (by decide)) (by rfl) T.g_check_steps T.F_check_steps.kp (cl_cons (en 1) (cl_cons (en 2) cl_nil)) ⟨fun _ => rfl, ⟨fun _ => rfl, trivial⟩⟩))
    (css_cons (cs_fld (C := 0) T.cl_Network T.na_Network_own_width (pv 0) (en 1))
    (css_one (cs_fld (C := 0) T.cl_Network T.na_Network_own_steps (pv 0) (ce_callTy call_tuple_of (by rfl) T.z_tuple bt_tuple os_tuple (.cons (es 2) .nil) (hst := ⟨fun _ => rfl, trivial⟩)))))))
theorem ok__law_late (T : Tx K mg) : FnG P w K mg base (L2.CX P w) 2 T.f__law_late (spM T.ca K m__law_late) := fn_okG (N := ["_law_source_here", "_law_steps_here", "_law_rows", "_law_index", "_law_step", "_law_ahead", "_law_at", "_law_row", "_law_one"]) (n := 2) (L := [0, 1]) (mb := b__law_late) T.F__law_late T.B__law_late sc__law_late rfl fun cdv A outer s H E hr =>
  show CSs _ _ _ _ b__law_late from (css_cons (cs_set 2 sc__law_late.nd (ce_lst cl_nil trivial))
    (css_cons (cs_for (ci_enum (by rfl) T.z_enumerate (en 1)) (cg_tup rfl (cgs_cons (gn 3 sc__law_late.nd) (cgs_cons (gn 4 sc__law_late.nd (hx := .inr rfl)) cgs_nil (by rfl)) (by rfl)) rfl) (css_cons (cs_setLcRo (own := [("_law_at", 6), ("_law_row", 7)]) (i := 5) rfl sc__law_late.nd rfl rfl (by decide) (gn (ca := T.ca) (L := []) 5 sc__law_late.nd).1 (by rfl) (ci_enum (by rfl) T.z_enumerate (en 2)) (blk_of rfl (by kernel_rfl)) (fun _ _ _ _ _ _ => (cg_tupB rfl (cgs_cons (gb 6 sc__law_late.nd) (cgs_cons (gb 7 sc__law_late.nd) cgs_nil (by rfl)) (by rfl)) rfl)) (fun _ _ _ _ _ => (ct_cmp (ce_cmp (op_neD hr.2.units) os_ne (co_v (ce_lcIf (own := [("_law_one", 8)]) rfl sc__law_late.nd (ci_list (pi_list (we_pe _ _)) (en 7)) (blk_of rfl (by kernel_rfl)) (fun _ _ _ _ _ _ => (gb 8 sc__law_late.nd)) (fun _ _ _ _ _ => (ct_cmp (ce_cmp op_lt os_lt (co_v (ce_callB call_abs (by rfl) T.z_abs bt_abs os_abs (.cons (co_v (ce_bin op_sub os_sub (co_v (ce_ix ix_A os_ix (es 1) (es 8) (fun _ _ => rfl))) (es 4))) .nil) (hst := ⟨fun _ => rfl, trivial⟩))) (co_v ce_int) (nomark _)))) (fun _ _ _ _ _ => (en 8)))) (co_v (ce_lst cl_nil trivial)) (nomark _)))) (fun _ _ _ _ _ => (en 6)))
    (css_cons (cs_set 6 sc__law_late.nd (ce_bin op_addA os_add (co_v (ce_bin op_addA os_add (co_v (ce_callB (call_maxL rfl hr.2.units) (by rfl) T.z_max bt_max os_maxL (.cons (co_v (ce_bin op_addA os_add (es 5) (co_v (ce_lst (cl_cons (ce_un un_neg os_neg (co_v ce_int)) cl_nil) ⟨fun _ => rfl, trivial⟩)))) .nil) (hst := ⟨fun _ => rfl, trivial⟩))) (co_v ce_int))) (co_v (ce_bin op_mulA os_mul (co_v (ce_callLG _ _ _ (ok__law_draw T) (hr.mono (by decide)) (by rfl) T.g__law_draw T.F__law_draw.kp cl_nil (pv 0) (cl_cons ce_int cl_nil) rfl ⟨fun _ => rfl, ⟨fun _ => rfl, trivial⟩⟩)) (co_v (ce_callLG _ _ _ (ok__law_draw T) (hr.mono (by decide)) (by rfl) T.g__law_draw T.F__law_draw.kp cl_nil (pv 0) (cl_cons ce_int cl_nil) rfl ⟨fun _ => rfl, ⟨fun _ => rfl, trivial⟩⟩))))))
    (css_cons (cs_while 100 (ct_cmp (ce_cmp op_le os_le (co_v (ce_callB call_len_seq (by rfl) T.z_len bt_len os_len (.cons (es 2) .nil) (hst := ⟨fun _ => rfl, trivial⟩))) (es 6) (nomark _))) (css_one (cs_expr (ce_app (pv 2) (ce_lst cl_nil trivial)))) (passes_of rfl))
    (css_one (cs_expr (ce_insR (pv 2) (en 6) (fun _ _ => rfl) (ce_callLG _ _ _ (ok__law_draw T) (hr.mono (by decide)) (by rfl) T.g__law_draw T.F__law_draw.kp cl_nil (pv 0) (cl_cons (ce_bin op_addA os_add (co_v (ce_callB call_len_seq (by rfl) T.z_len bt_len os_len (.cons (co_v (ce_ix ix_A os_ix (es 2) (es 6) (fun _ _ => rfl))) .nil) (hst := ⟨fun _ => rfl, trivial⟩))) (co_v ce_int)) cl_nil) rfl ⟨fun _ => rfl, ⟨fun _ => rfl, trivial⟩⟩) (en 3))))))) (passes_of rfl) rfl)
    (css_one (cs_ret (ce_lcIf (own := [("_law_row", 7)]) rfl sc__law_late.nd (ci_list (pi_list (we_pe _ _)) (en 2)) (blk_of rfl (by kernel_rfl)) (fun _ _ _ _ _ _ => (gb 7 sc__law_late.nd)) (fun _ _ _ _ _ => (ct_cmp (ce_cmp (op_neD hr.2.units) os_ne (es 7) (co_v (ce_lst cl_nil trivial)) (nomark _)))) (fun _ _ _ _ _ => (en 7)))))))
theorem os1__law_changed (T : Tx K mg) {cdv : Value} {A : Around} {outer : List Env} {s : Shared} {H : Hp} {E : XK} (hr : RoomG 1 (A.deeper (envOfC "_law_changed" (defScope s__law_changed) s.heap.objs.size T.f__law_changed cdv))) : CS T.ca (cxOf (L2.CX P w) P w K mg base ["_law_source_here", "_law_rows", "_law_at", "_law_other", "_law_row", "_law_invalid", "_law_some", "_law_way", "_law_joined_rows", "_law_split", "_law_more"] "_law_changed" (defScope s__law_changed) T.f__law_changed cdv A outer s H E) [0, 1] (nthS (ifB (nthS (defBody s__law_changed) 0)) 0) st1__law_changed :=
  (cs_ret (ce_ix ix_A os_ix (co_v (ce_fz (ce_lst (cl_cons (ce_lst (cl_cons (ce_lst cl_nil trivial) cl_nil) ⟨fun _ => rfl, trivial⟩) (cl_cons (ce_lst (cl_cons (ce_lst (cl_cons ce_int cl_nil) ⟨fun _ => rfl, trivial⟩) cl_nil) ⟨fun _ => rfl, trivial⟩) (cl_cons ce_non (cl_cons (ce_tup cl_nil trivial) (cl_cons (ce_lst (cl_cons ce_int cl_nil) ⟨fun _ => rfl, trivial⟩) (cl_cons ce_dn (cl_cons ce_str cl_nil))))))) ⟨fun _ => rfl, ⟨fun _ => rfl, ⟨fun _ => rfl, ⟨fun _ => rfl, ⟨fun _ => rfl, ⟨fun _ => rfl, ⟨fun _ => rfl, trivial⟩⟩⟩⟩⟩⟩⟩))) (co_v (ce_callLG _ _ _ (ok__law_draw T) (hr.mono (by decide)) (by rfl) T.g__law_draw T.F__law_draw.kp cl_nil (pv 0) (cl_cons ce_int cl_nil) rfl ⟨fun _ => rfl, ⟨fun _ => rfl, trivial⟩⟩)) (fun _ _ => rfl)))
theorem os2__law_changed (T : Tx K mg) {cdv : Value} {A : Around} {outer : List Env} {s : Shared} {H : Hp} {E : XK} (hr : RoomG 1 (A.deeper (envOfC "_law_changed" (defScope s__law_changed) s.heap.objs.size T.f__law_changed cdv))) : CS T.ca (cxOf (L2.CX P w) P w K mg base ["_law_source_here", "_law_rows", "_law_at", "_law_other", "_law_row", "_law_invalid", "_law_some", "_law_way", "_law_joined_rows", "_law_split", "_law_more"] "_law_changed" (defScope s__law_changed) T.f__law_changed cdv A outer s H E) [0, 1] (nthS (defBody s__law_changed) 0) st2__law_changed :=
  (cs_if (ct_cmp (ce_cmp (op_eqD hr.2.units) os_eq (es 1) (co_v (ce_lst cl_nil trivial)) (nomark _))) (css_one (os1__law_changed T hr)) css_nil)
theorem os3__law_changed (T : Tx K mg) {cdv : Value} {A : Around} {outer : List Env} {s : Shared} {H : Hp} {E : XK} (hr : RoomG 1 (A.deeper (envOfC "_law_changed" (defScope s__law_changed) s.heap.objs.size T.f__law_changed cdv))) : CS T.ca (cxOf (L2.CX P w) P w K mg base ["_law_source_here", "_law_rows", "_law_at", "_law_other", "_law_row", "_law_invalid", "_law_some", "_law_way", "_law_joined_rows", "_law_split", "_law_more"] "_law_changed" (defScope s__law_changed) T.f__law_changed cdv A outer s H E) [0, 1] (nthS (defBody s__law_changed) 1) st3__law_changed :=
  (cs_par (i := 2) (j := 3) rfl sc__law_changed.nd rfl rfl (by decide) rfl rfl (by decide) (by decide) (cl_cons (ce_callLG _ _ _ (ok__law_draw T) (hr.mono (by decide)) (by rfl) T.g__law_draw T.F__law_draw.kp cl_nil (pv 0) (cl_cons (ce_callB call_len_seq (by rfl) T.z_len bt_len os_len (.cons (es 1) .nil) (hst := ⟨fun _ => rfl, trivial⟩)) cl_nil) rfl ⟨fun _ => rfl, ⟨fun _ => rfl, trivial⟩⟩) (cl_cons (ce_callLG _ _ _ (ok__law_draw T) (hr.mono (by decide)) (by rfl) T.g__law_draw T.F__law_draw.kp cl_nil (pv 0) (cl_cons (ce_callB call_len_seq (by rfl) T.z_len bt_len os_len (.cons (es 1) .nil) (hst := ⟨fun _ => rfl, trivial⟩)) cl_nil) rfl ⟨fun _ => rfl, ⟨fun _ => rfl, trivial⟩⟩) cl_nil)) ⟨fun _ => rfl, ⟨fun _ => rfl, trivial⟩⟩ (by rfl))
theorem os4__law_changed (T : Tx K mg) {cdv : Value} {A : Around} {outer : List Env} {s : Shared} {H : Hp} {E : XK} (hr : RoomG 1 (A.deeper (envOfC "_law_changed" (defScope s__law_changed) s.heap.objs.size T.f__law_changed cdv))) : CS T.ca (cxOf (L2.CX P w) P w K mg base ["_law_source_here", "_law_rows", "_law_at", "_law_other", "_law_row", "_law_invalid", "_law_some", "_law_way", "_law_joined_rows", "_law_split", "_law_more"] "_law_changed" (defScope s__law_changed) T.f__law_changed cdv A outer s H E) [0, 1] (nthS (defBody s__law_changed) 2) st4__law_changed :=
  (cs_set 4 sc__law_changed.nd (ce_ix ix_A os_ix (es 1) (es 2) (fun _ _ => rfl)))
theorem os5__law_changed (T : Tx K mg) {cdv : Value} {A : Around} {outer : List Env} {s : Shared} {H : Hp} {E : XK} (hr : RoomG 1 (A.deeper (envOfC "_law_changed" (defScope s__law_changed) s.heap.objs.size T.f__law_changed cdv))) : CS T.ca (cxOf (L2.CX P w) P w K mg base ["_law_source_here", "_law_rows", "_law_at", "_law_other", "_law_row", "_law_invalid", "_law_some", "_law_way", "_law_joined_rows", "_law_split", "_law_more"] "_law_changed" (defScope s__law_changed) T.f__law_changed cdv A outer s H E) [0, 1] (nthS (defBody s__law_changed) 3) st5__law_changed :=
  (cs_set 5 sc__law_changed.nd (ce_ix ix_A os_ix (co_v (ce_fz (ce_lst (cl_cons (ce_un un_neg os_neg (co_v ce_int)) (cl_cons ce_int (cl_cons ce_non (cl_cons ce_bl (cl_cons ce_bl (cl_cons ce_str (cl_cons (ce_lst (cl_cons ce_int cl_nil) ⟨fun _ => rfl, trivial⟩) (cl_cons (ce_bin op_pow os_pow (co_v ce_int) (co_v ce_int)) cl_nil)))))))) ⟨fun _ => rfl, ⟨fun _ => rfl, ⟨fun _ => rfl, ⟨fun _ => rfl, ⟨fun _ => rfl, ⟨fun _ => rfl, ⟨fun _ => rfl, ⟨fun _ => rfl, trivial⟩⟩⟩⟩⟩⟩⟩⟩))) (co_v (ce_callLG _ _ _ (ok__law_draw T) (hr.mono (by decide)) (by rfl) T.g__law_draw T.F__law_draw.kp cl_nil (pv 0) (cl_cons ce_int cl_nil) rfl ⟨fun _ => rfl, ⟨fun _ => rfl, trivial⟩⟩)) (fun _ _ => rfl)) (hs := by kernel_rfl))
theorem os6__law_changed (T : Tx K mg) {cdv : Value} {A : Around} {outer : List Env} {s : Shared} {H : Hp} {E : XK} (hr : RoomG 1 (A.deeper (envOfC "_law_changed" (defScope s__law_changed) s.heap.objs.size T.f__law_changed cdv))) : CS T.ca (cxOf (L2.CX P w) P w K mg base ["_law_source_here", "_law_rows", "_law_at", "_law_other", "_law_row", "_law_invalid", "_law_some", "_law_way", "_law_joined_rows", "_law_split", "_law_more"] "_law_changed" (defScope s__law_changed) T.f__law_changed cdv A outer s H E) [0, 1] (nthS (defBody s__law_changed) 4) st6__law_changed :=
  (cs_set 6 sc__law_changed.nd (ce_fz (ce_lst (cl_cons (ce_fz (ce_s10 (es 4) (co_v ce_int))) (cl_cons (ce_bin op_addA os_add (es 4) (co_v (ce_fz (ce_s01 (es 4) (co_v ce_int))))) (cl_cons (ce_bin op_addA os_add (es 4) (co_v (ce_lst (cl_cons (en 5) cl_nil) ⟨fun _ => rfl, trivial⟩))) (cl_cons (ce_bin op_addA os_add (co_v (ce_lst (cl_cons (en 5) cl_nil) ⟨fun _ => rfl, trivial⟩)) (co_v (ce_fz (ce_s10 (es 4) (co_v ce_int))))) (cl_cons (ce_callTy call_tuple_of (by rfl) T.z_tuple bt_tuple os_tuple (.cons (es 4) .nil) (hst := ⟨fun _ => rfl, trivial⟩)) (cl_cons ce_non (cl_cons (ce_lst cl_nil trivial) (cl_cons (ce_bin op_addA os_add (es 4) (co_v (ce_ix ix_A os_ix (es 1) (es 3) (fun _ _ => rfl)))) cl_nil)))))))) ⟨fun _ => rfl, ⟨fun _ => rfl, ⟨fun _ => rfl, ⟨fun _ => rfl, ⟨fun _ => rfl, ⟨fun _ => rfl, ⟨fun _ => rfl, ⟨fun _ => rfl, trivial⟩⟩⟩⟩⟩⟩⟩⟩)))
theorem os7__law_changed (T : Tx K mg) {cdv : Value} {A : Around} {outer : List Env} {s : Shared} {H : Hp} {E : XK} (hr : RoomG 1 (A.deeper (envOfC "_law_changed" (defScope s__law_changed) s.heap.objs.size T.f__law_changed cdv))) : CS T.ca (cxOf (L2.CX P w) P w K mg base ["_law_source_here", "_law_rows", "_law_at", "_law_other", "_law_row", "_law_invalid", "_law_some", "_law_way", "_law_joined_rows", "_law_split", "_law_more"] "_law_changed" (defScope s__law_changed) T.f__law_changed cdv A outer s H E) [0, 1] (nthS (defBody s__law_changed) 5) st7__law_changed :=
  (cs_set 7 sc__law_changed.nd (ce_callLG _ _ _ (ok__law_draw T) (hr.mono (by decide)) (by rfl) T.g__law_draw T.F__law_draw.kp cl_nil (pv 0) (cl_cons ce_int cl_nil) rfl ⟨fun _ => rfl, ⟨fun _ => rfl, trivial⟩⟩))
theorem os8__law_changed (T : Tx K mg) {cdv : Value} {A : Around} {outer : List Env} {s : Shared} {H : Hp} {E : XK} (hr : RoomG 1 (A.deeper (envOfC "_law_changed" (defScope s__law_changed) s.heap.objs.size T.f__law_changed cdv))) : CS T.ca (cxOf (L2.CX P w) P w K mg base ["_law_source_here", "_law_rows", "_law_at", "_law_other", "_law_row", "_law_invalid", "_law_some", "_law_way", "_law_joined_rows", "_law_split", "_law_more"] "_law_changed" (defScope s__law_changed) T.f__law_changed cdv A outer s H E) [0, 1] (nthS (ifB (nthS (defBody s__law_changed) 6)) 0) st8__law_changed :=
  (cs_ret (ce_bin op_addA os_add (co_v (ce_bin op_addA os_add (co_v (ce_s01 (es 1) (es 2))) (co_v (ce_lst (cl_cons (ce_ix ix_A os_ix (es 6) (es 7) (fun _ _ => rfl)) cl_nil) ⟨fun _ => rfl, trivial⟩)))) (co_v (ce_s10 (es 1) (co_v (ce_bin op_addA os_add (es 2) (co_v ce_int)))))))
theorem os9__law_changed (T : Tx K mg) {cdv : Value} {A : Around} {outer : List Env} {s : Shared} {H : Hp} {E : XK} (hr : RoomG 1 (A.deeper (envOfC "_law_changed" (defScope s__law_changed) s.heap.objs.size T.f__law_changed cdv))) : CS T.ca (cxOf (L2.CX P w) P w K mg base ["_law_source_here", "_law_rows", "_law_at", "_law_other", "_law_row", "_law_invalid", "_law_some", "_law_way", "_law_joined_rows", "_law_split", "_law_more"] "_law_changed" (defScope s__law_changed) T.f__law_changed cdv A outer s H E) [0, 1] (nthS (defBody s__law_changed) 6) st9__law_changed :=
  (cs_if (ct_cmp (ce_cmp op_lt os_lt (es 7) (co_v ce_int) (nomark _))) (css_one (os8__law_changed T hr)) css_nil)
theorem os10__law_changed (T : Tx K mg) {cdv : Value} {A : Around} {outer : List Env} {s : Shared} {H : Hp} {E : XK} (hr : RoomG 1 (A.deeper (envOfC "_law_changed" (defScope s__law_changed) s.heap.objs.size T.f__law_changed cdv))) : CS T.ca (cxOf (L2.CX P w) P w K mg base ["_law_source_here", "_law_rows", "_law_at", "_law_other", "_law_row", "_law_invalid", "_law_some", "_law_way", "_law_joined_rows", "_law_split", "_law_more"] "_law_changed" (defScope s__law_changed) T.f__law_changed cdv A outer s H E) [0, 1] (nthS (defBody s__law_changed) 7) st10__law_changed :=
  (cs_set 8 sc__law_changed.nd (ce_bin op_addA os_add (co_v (ce_bin op_addA os_add (co_v (ce_s01 (es 1) (es 2))) (co_v (ce_lst (cl_cons (ce_fz (ce_sumL rfl (by rfl) T.z_sum (co_v (ce_s11 (pv 1) (en 2) (ce_bin op_addA os_add (es 2) (co_v ce_int)))))) cl_nil) ⟨fun _ => rfl, trivial⟩)))) (co_v (ce_s10 (es 1) (co_v (ce_bin op_addA os_add (es 2) (co_v ce_int)))))))
theorem os11__law_changed (T : Tx K mg) {cdv : Value} {A : Around} {outer : List Env} {s : Shared} {H : Hp} {E : XK} (hr : RoomG 1 (A.deeper (envOfC "_law_changed" (defScope s__law_changed) s.heap.objs.size T.f__law_changed cdv))) : CS T.ca (cxOf (L2.CX P w) P w K mg base ["_law_source_here", "_law_rows", "_law_at", "_law_other", "_law_row", "_law_invalid", "_law_some", "_law_way", "_law_joined_rows", "_law_split", "_law_more"] "_law_changed" (defScope s__law_changed) T.f__law_changed cdv A outer s H E) [0, 1] (nthS (defBody s__law_changed) 8) st11__law_changed :=
  (cs_set 9 sc__law_changed.nd (ce_bin op_addA os_add (co_v (ce_bin op_addA os_add (co_v (ce_s01 (es 1) (es 2))) (co_v (ce_lst (cl_cons (ce_fz (ce_s01 (es 4) (co_v ce_int))) (cl_cons (ce_fz (ce_s10 (es 4) (co_v ce_int))) cl_nil)) ⟨fun _ => rfl, ⟨fun _ => rfl, trivial⟩⟩)))) (co_v (ce_s10 (es 1) (co_v (ce_bin op_addA os_add (es 2) (co_v ce_int)))))))
theorem os12__law_changed (T : Tx K mg) {cdv : Value} {A : Around} {outer : List Env} {s : Shared} {H : Hp} {E : XK} (hr : RoomG 1 (A.deeper (envOfC "_law_changed" (defScope s__law_changed) s.heap.objs.size T.f__law_changed cdv))) : CS T.ca (cxOf (L2.CX P w) P w K mg base ["_law_source_here", "_law_rows", "_law_at", "_law_other", "_law_row", "_law_invalid", "_law_some", "_law_way", "_law_joined_rows", "_law_split", "_law_more"] "_law_changed" (defScope s__law_changed) T.f__law_changed cdv A outer s H E) [0, 1] (nthS (defBody s__law_changed) 9) st12__law_changed :=
  (cs_set 10 sc__law_changed.nd (ce_fz (ce_lst (cl_cons (en 8) (cl_cons (en 9) (cl_cons (ce_revA (es 1)) (cl_cons (ce_bin op_addA os_add (co_v (ce_s01 (es 1) (es 2))) (co_v (ce_s10 (es 1) (co_v (ce_bin op_addA os_add (es 2) (co_v ce_int)))))) (cl_cons (ce_callTy call_tuple_of (by rfl) T.z_tuple bt_tuple os_tuple (.cons (es 1) .nil) (hst := ⟨fun _ => rfl, trivial⟩)) (cl_cons (ce_bin op_addA os_add (co_v (ce_s10 (es 1) (es 2))) (co_v (ce_s01 (es 1) (es 2)))) cl_nil)))))) ⟨fun _ => rfl, ⟨fun _ => rfl, ⟨fun _ => rfl, ⟨fun _ => rfl, ⟨fun _ => rfl, ⟨fun _ => rfl, trivial⟩⟩⟩⟩⟩⟩)))
theorem os13__law_changed (T : Tx K mg) {cdv : Value} {A : Around} {outer : List Env} {s : Shared} {H : Hp} {E : XK} (hr : RoomG 1 (A.deeper (envOfC "_law_changed" (defScope s__law_changed) s.heap.objs.size T.f__law_changed cdv))) : CS T.ca (cxOf (L2.CX P w) P w K mg base ["_law_source_here", "_law_rows", "_law_at", "_law_other", "_law_row", "_law_invalid", "_law_some", "_law_way", "_law_joined_rows", "_law_split", "_law_more"] "_law_changed" (defScope s__law_changed) T.f__law_changed cdv A outer s H E) [0, 1] (nthS (defBody s__law_changed) 10) st13__law_changed :=
  (cs_ret (ce_ix ix_A os_ix (es 10) (co_v (ce_bin op_sub os_sub (es 7) (co_v ce_int))) (fun _ _ => rfl)))
theorem ok__law_changed (T : Tx K mg) : FnG P w K mg base (L2.CX P w) 2 T.f__law_changed (spM T.ca K m__law_changed) := fn_okG (N := ["_law_source_here", "_law_rows", "_law_at", "_law_other", "_law_row", "_law_invalid", "_law_some", "_law_way", "_law_joined_rows", "_law_split", "_law_more"]) (n := 2) (L := [0, 1]) (mb := b__law_changed) T.F__law_changed T.B__law_changed sc__law_changed rfl fun cdv A outer s H E hr =>
  show CSs _ _ _ _ b__law_changed from (css_cons (os2__law_changed T hr)
    (css_cons (os3__law_changed T hr)
    (css_cons (os4__law_changed T hr)
    (css_cons (os5__law_changed T hr)
    (css_cons (os6__law_changed T hr)
    (css_cons (os7__law_changed T hr)
    (css_cons (os9__law_changed T hr)
    (css_cons (os10__law_changed T hr)
    (css_cons (os11__law_changed T hr)
    (css_cons (os12__law_changed T hr)
    (css_one (os13__law_changed T hr))))))))))))
theorem ok_Network___len__ (T : Tx K mg) : FnG P w K mg base (L2.CX P w) 1 T.f_Network___len__ (spM T.ca K m_Network___len__) := fn_okG (N := ["self"]) (n := 1) (L := [0]) (mb := b_Network___len__) T.F_Network___len__ T.B_Network___len__ sc_Network___len__ rfl fun cdv A outer s H E hr =>
  show CSs _ _ _ _ b_Network___len__ from (css_one (cs_ret (ce_callB call_len_seq (by rfl) T.z_len bt_len os_len (.cons (co_v (ce_fld (C := 0) T.cl_Network T.na_Network_own_steps (es 0))) .nil) (hst := ⟨fun _ => rfl, trivial⟩))))
theorem ok_round_by_index (T : Tx K mg) : FnG P w K mg base (L2.CX P w) 3 T.f_round_by_index (spM T.ca K m_round_by_index) := fn_okG (N := ["network", "value", "result", "number", "indices", "index", "one"]) (n := 2) (L := [0, 1]) (mb := b_round_by_index) T.F_round_by_index T.B_round_by_index sc_round_by_index rfl fun cdv A outer s H E hr =>
  show CSs _ _ _ _ b_round_by_index from (css_cons (cs_if (ct_w (cw_or (ct_not (ct_val (ce_callB call_isi (by rfl) T.z_isinstance bt_isinstance (os_isiB (T := "list")) (.cons (es 1) (.cons (co_v (ce_ty (by rfl) T.z_list bt_list)) .nil)) (hst := ⟨fun _ => rfl, ⟨fun _ => rfl, trivial⟩⟩)))) (cw_or1 (ct_val (ce_callB (cr_any rfl) (by rfl) T.z_any bt_any os_any (.cons (co_v (ce_lc (own := [("one", 6)]) rfl sc_round_by_index.nd (ci_list (pi_list (we_pe _ _)) (en 1)) (blk_of rfl (by kernel_rfl)) (fun _ _ _ _ _ _ => (gb 6 sc_round_by_index.nd)) (fun _ _ _ _ _ => (ce_or (ce_not (ce_callB call_isi (by rfl) T.z_isinstance bt_isinstance (os_isiB (T := "list")) (.cons (es 6) (.cons (co_v (ce_ty (by rfl) T.z_list bt_list)) .nil)) (hst := ⟨fun _ => rfl, ⟨fun _ => rfl, trivial⟩⟩))) (ce_cmp (op_eqD hr.2.units) os_eq (es 6) (co_v (ce_lst cl_nil trivial)) (nomark _)))))) .nil) (hst := ⟨fun _ => rfl, trivial⟩)))))) (css_one (cs_ret ce_non)) css_nil)
    (css_cons (cs_set 2 sc_round_by_index.nd ce_dn)
    (css_cons (cs_for (ci_enum (by rfl) T.z_enumerate (en 1)) (cg_tup rfl (cgs_cons (gn 3 sc_round_by_index.nd) (cgs_cons (gn 4 sc_round_by_index.nd) cgs_nil (by rfl)) (by rfl)) rfl) (css_one (cs_for (ci_list (pi_list (we_pe _ _)) (en 4)) (gn 5 sc_round_by_index.nd) (css_cons (cs_if (ct_w (cw_or (ct_not (ct_val (ce_callR (ok_is_integer T) (hr.mono (by decide)) (by rfl) T.g_is_integer T.F_is_integer.kp (cl_cons (en 5) (cl_cons ce_int (cl_cons (ce_bin op_sub os_sub (co_v (ce_lenIG (ok_Network___len__ T) T.ol_Network (hr.mono (by decide)) (by rfl) T.z_len (co_v (ce_fz (en 0))))) (co_v ce_int)) cl_nil))) ⟨fun _ => rfl, ⟨fun _ => rfl, ⟨fun _ => rfl, trivial⟩⟩⟩))) (cw_or1 (ct_cmp (ce_din (units1 hr) (es 5) (es 2) (by rfl)))))) (css_one (cs_ret ce_non)) css_nil)
    (css_one (cs_asgT (en 3) (cg_dx (units1 hr) (pv 2) (en 5) (fun _ => rfl))))) (passes_of rfl) rfl)) (passes_of rfl) rfl)
    (css_one (cs_ret (ce_if (ct_cmp (ce_cmp (op_eqD hr.2.units) os_eq (co_v (ce_callB call_lenD (by rfl) T.z_len bt_len os_lenD (.cons (es 2) .nil) (hst := ⟨fun _ => rfl, trivial⟩))) (co_v (ce_lenIG (ok_Network___len__ T) T.ol_Network (hr.mono (by decide)) (by rfl) T.z_len (co_v (ce_fz (en 0))))) (nomark _))) (en 2) ce_non))))))
theorem ok_is_schedule (T : Tx K mg) : FnG P w K mg base (L2.CX P w) 4 T.f_is_schedule (spM T.ca K m_is_schedule) := fn_okG (N := ["network", "value", "rounds", "latest", "index", "step", "near"]) (n := 2) (L := [0, 1]) (mb := b_is_schedule) T.F_is_schedule T.B_is_schedule sc_is_schedule rfl fun cdv A outer s H E hr =>
  show CSs _ _ _ _ b_is_schedule from (css_cons (cs_par (i := 2) (j := 3) rfl sc_is_schedule.nd rfl rfl (by decide) rfl rfl (by decide) (by decide) (cl_cons (ce_callR (ok_round_by_index T) (hr.mono (by decide)) (by rfl) T.g_round_by_index T.F_round_by_index.kp (cl_cons (en 0) (cl_cons (en 1) cl_nil)) ⟨fun _ => rfl, ⟨fun _ => rfl, trivial⟩⟩) (cl_cons ce_dn cl_nil)) ⟨fun _ => rfl, ⟨fun _ => rfl, trivial⟩⟩ (by rfl))
    (css_cons (cs_if (ct_cmp (ce_cmp op_isN os_isN (es 2) (co_v ce_non) (nomark _))) (css_one (cs_ret ce_bl)) css_nil)
    (css_cons (cs_for (ci_enumT (by rfl) T.z_enumerate (ce_prop (C := 0) T.cl_Network T.pr_Network_steps (ok_Network_steps T) (hr.2.mono (by decide)) T.B_Network_steps (es 0))) (cg_tup rfl (cgs_cons (gn 4 sc_is_schedule.nd) (cgs_cons (gn 5 sc_is_schedule.nd) cgs_nil (by rfl)) (by rfl)) rfl) (css_cons (cs_for (ci_tup (pi_tup (we_pe _ _)) (ce_tup (cl_cons (ce_bin op_sub os_sub (es 5) (co_v ce_int)) (cl_cons (en 5) (cl_cons (ce_bin op_addA os_add (es 5) (co_v ce_int)) cl_nil))) ⟨fun _ => rfl, ⟨fun _ => rfl, ⟨fun _ => rfl, trivial⟩⟩⟩)) (gn 6 sc_is_schedule.nd) (css_one (cs_if (ct_w (cw_and (ct_cmp (ce_din (units1 hr) (es 6) (es 3) (by rfl))) (cw_and1 (ct_cmp (ce_cmp op_ge os_ge (co_v (ce_dx (units1 hr) (es 2) (co_v (ce_dx (units1 hr) (es 3) (es 6))))) (co_v (ce_dx (units1 hr) (es 2) (es 4))) (nomark _)))))) (css_one (cs_ret ce_bl)) css_nil)) (passes_of rfl) rfl)
    (css_one (cs_asgT (en 4) (cg_dx (units1 hr) (pv 3) (en 5) (fun _ => rfl))))) (passes_of rfl) rfl)
    (css_one (cs_ret ce_bl)))))
theorem os2__law_is_schedule (T : Tx K mg) {cdv : Value} {A : Around} {outer : List Env} {s : Shared} {H : Hp} {E : XK} (hr : RoomG 0 (A.deeper (envOfC "_law_is_schedule" (defScope s__law_is_schedule) s.heap.objs.size T.f__law_is_schedule cdv))) : CS T.ca (cxOf (L2.CX P w) P w K mg base ["_law_steps_here", "_law_value", "_law_indices", "_law_number", "_law_index", "_law_step", "_law_near", "_law_row", "_law_at", "_law_other"] "_law_is_schedule" (defScope s__law_is_schedule) T.f__law_is_schedule cdv A outer s H E) [0, 1] (nthS (ifB (nthS (defBody s__law_is_schedule) 0)) 0) st2__law_is_schedule :=
  (cs_ret ce_bl)
theorem os3__law_is_schedule (T : Tx K mg) {cdv : Value} {A : Around} {outer : List Env} {s : Shared} {H : Hp} {E : XK} (hr : RoomG 0 (A.deeper (envOfC "_law_is_schedule" (defScope s__law_is_schedule) s.heap.objs.size T.f__law_is_schedule cdv))) : CS T.ca (cxOf (L2.CX P w) P w K mg base ["_law_steps_here", "_law_value", "_law_indices", "_law_number", "_law_index", "_law_step", "_law_near", "_law_row", "_law_at", "_law_other"] "_law_is_schedule" (defScope s__law_is_schedule) T.f__law_is_schedule cdv A outer s H E) [0, 1] (nthS (defBody s__law_is_schedule) 0) st3__law_is_schedule :=
  (cs_if (ct_w (cw_or (ct_not (ct_val (ce_callB call_isi (by rfl) T.z_isinstance bt_isinstance (os_isiB (T := "list")) (.cons (es 1) (.cons (co_v (ce_ty (by rfl) T.z_list bt_list)) .nil)) (hst := ⟨fun _ => rfl, ⟨fun _ => rfl, trivial⟩⟩)))) (cw_or1 (ct_cmp (ce_cmp (op_neD hr.2.units) os_ne (co_v (ce_lcIf (own := [("_law_row", 7)]) rfl sc__law_is_schedule.nd (ci_list (pi_list (we_pe _ _)) (en 1)) (blk_of rfl (by kernel_rfl)) (fun _ _ _ _ _ _ => (gb 7 sc__law_is_schedule.nd)) (fun _ _ _ _ _ => (ct_w (cw_or (ct_not (ct_val (ce_callB call_isi (by rfl) T.z_isinstance bt_isinstance (os_isiB (T := "list")) (.cons (es 7) (.cons (co_v (ce_ty (by rfl) T.z_list bt_list)) .nil)) (hst := ⟨fun _ => rfl, ⟨fun _ => rfl, trivial⟩⟩)))) (cw_or1 (ct_cmp (ce_cmp (op_eqD hr.2.units) os_eq (es 7) (co_v (ce_lst cl_nil trivial)) (nomark _))))))) (fun _ _ _ _ _ => (en 7)))) (co_v (ce_lst cl_nil trivial)) (nomark _)))))) (css_one (os2__law_is_schedule T hr)) css_nil)
theorem os4__law_is_schedule (T : Tx K mg) {cdv : Value} {A : Around} {outer : List Env} {s : Shared} {H : Hp} {E : XK} (hr : RoomG 0 (A.deeper (envOfC "_law_is_schedule" (defScope s__law_is_schedule) s.heap.objs.size T.f__law_is_schedule cdv))) : CS T.ca (cxOf (L2.CX P w) P w K mg base ["_law_steps_here", "_law_value", "_law_indices", "_law_number", "_law_index", "_law_step", "_law_near", "_law_row", "_law_at", "_law_other"] "_law_is_schedule" (defScope s__law_is_schedule) T.f__law_is_schedule cdv A outer s H E) [0, 1] (nthS (defBody s__law_is_schedule) 1) st4__law_is_schedule :=
  (cs_set 2 sc__law_is_schedule.nd (ce_sumL rfl (by rfl) T.z_sum (es 1)))
theorem os6__law_is_schedule (T : Tx K mg) {cdv : Value} {A : Around} {outer : List Env} {s : Shared} {H : Hp} {E : XK} (hr : RoomG 0 (A.deeper (envOfC "_law_is_schedule" (defScope s__law_is_schedule) s.heap.objs.size T.f__law_is_schedule cdv))) : CS T.ca (cxOf (L2.CX P w) P w K mg base ["_law_steps_here", "_law_value", "_law_indices", "_law_number", "_law_index", "_law_step", "_law_near", "_law_row", "_law_at", "_law_other"] "_law_is_schedule" (defScope s__law_is_schedule) T.f__law_is_schedule cdv A outer s H E) [0, 1] (nthS (ifB (nthS (defBody s__law_is_schedule) 2)) 0) st6__law_is_schedule :=
  (cs_ret ce_bl)
theorem os7__law_is_schedule (T : Tx K mg) {cdv : Value} {A : Around} {outer : List Env} {s : Shared} {H : Hp} {E : XK} (hr : RoomG 0 (A.deeper (envOfC "_law_is_schedule" (defScope s__law_is_schedule) s.heap.objs.size T.f__law_is_schedule cdv))) : CS T.ca (cxOf (L2.CX P w) P w K mg base ["_law_steps_here", "_law_value", "_law_indices", "_law_number", "_law_index", "_law_step", "_law_near", "_law_row", "_law_at", "_law_other"] "_law_is_schedule" (defScope s__law_is_schedule) T.f__law_is_schedule cdv A outer s H E) [0, 1] (nthS (defBody s__law_is_schedule) 2) st7__law_is_schedule :=
  (cs_if (ct_cmp (ce_cmp (op_neD hr.2.units) os_ne (co_v (ce_lcIf (own := [("_law_index", 4)]) rfl sc__law_is_schedule.nd (ci_list (pi_list (we_pe _ _)) (en 2)) (blk_of rfl (by kernel_rfl)) (fun _ _ _ _ _ _ => (gb 4 sc__law_is_schedule.nd)) (fun _ _ _ _ _ => (ct_w (cw_or (ct_not (ct_val (ce_callB call_isi (by rfl) T.z_isinstance bt_isinstance (os_isiB (T := "int")) (.cons (es 4) (.cons (co_v (ce_ty (by rfl) T.z_int bt_int)) .nil)) (hst := ⟨fun _ => rfl, ⟨fun _ => rfl, trivial⟩⟩)))) (cw_or1 (ct_val (ce_callB call_isi (by rfl) T.z_isinstance bt_isinstance (os_isiB (T := "bool")) (.cons (es 4) (.cons (co_v (ce_ty (by rfl) T.z_bool bt_bool)) .nil)) (hst := ⟨fun _ => rfl, ⟨fun _ => rfl, trivial⟩⟩))))))) (fun _ _ _ _ _ => (en 4)))) (co_v (ce_lst cl_nil trivial)) (nomark _))) (css_one (os6__law_is_schedule T hr)) css_nil)
theorem os8__law_is_schedule (T : Tx K mg) {cdv : Value} {A : Around} {outer : List Env} {s : Shared} {H : Hp} {E : XK} (hr : RoomG 0 (A.deeper (envOfC "_law_is_schedule" (defScope s__law_is_schedule) s.heap.objs.size T.f__law_is_schedule cdv))) : CS T.ca (cxOf (L2.CX P w) P w K mg base ["_law_steps_here", "_law_value", "_law_indices", "_law_number", "_law_index", "_law_step", "_law_near", "_law_row", "_law_at", "_law_other"] "_law_is_schedule" (defScope s__law_is_schedule) T.f__law_is_schedule cdv A outer s H E) [0, 1] (nthS (ifB (nthS (defBody s__law_is_schedule) 3)) 0) st8__law_is_schedule :=
  (cs_ret ce_bl)
theorem os9__law_is_schedule (T : Tx K mg) {cdv : Value} {A : Around} {outer : List Env} {s : Shared} {H : Hp} {E : XK} (hr : RoomG 0 (A.deeper (envOfC "_law_is_schedule" (defScope s__law_is_schedule) s.heap.objs.size T.f__law_is_schedule cdv))) : CS T.ca (cxOf (L2.CX P w) P w K mg base ["_law_steps_here", "_law_value", "_law_indices", "_law_number", "_law_index", "_law_step", "_law_near", "_law_row", "_law_at", "_law_other"] "_law_is_schedule" (defScope s__law_is_schedule) T.f__law_is_schedule cdv A outer s H E) [0, 1] (nthS (defBody s__law_is_schedule) 3) st9__law_is_schedule :=
  (cs_if (ct_cmp (ce_cmp (op_neD hr.2.units) os_ne (co_v (ce_callB cr_sortedI (by rfl) T.z_sorted bt_sorted os_sorted (.cons (es 2) .nil) (hst := ⟨fun _ => rfl, trivial⟩))) (co_v (ce_listRg1 rfl (by rfl) T.z_list (by rfl) T.z_range (co_v (ce_callB call_len_seq (by rfl) T.z_len bt_len os_len (.cons (es 0) .nil) (hst := ⟨fun _ => rfl, trivial⟩))))) (nomark _))) (css_one (os8__law_is_schedule T hr)) css_nil)
theorem os12__law_is_schedule (T : Tx K mg) {cdv : Value} {A : Around} {outer : List Env} {s : Shared} {H : Hp} {E : XK} (hr : RoomG 0 (A.deeper (envOfC "_law_is_schedule" (defScope s__law_is_schedule) s.heap.objs.size T.f__law_is_schedule cdv))) : CS T.ca (cxOf (L2.CX P w) P w K mg base ["_law_steps_here", "_law_value", "_law_indices", "_law_number", "_law_index", "_law_step", "_law_near", "_law_row", "_law_at", "_law_other"] "_law_is_schedule" (defScope s__law_is_schedule) T.f__law_is_schedule cdv A outer s H E) [0, 1] (nthS (defBody s__law_is_schedule) 4) st12__law_is_schedule :=
  (cs_set 3 sc__law_is_schedule.nd (ce_dctI rfl (ce_lc (own := [("_law_index", 4)]) rfl sc__law_is_schedule.nd (ci_list (pi_list (we_pe _ _)) (en 2)) (blk_of rfl (by kernel_rfl)) (fun _ _ _ _ _ _ => (gb 4 sc__law_is_schedule.nd)) (fun _ _ _ _ _ => (ce_tup (cl_cons (en 4) (cl_cons (ce_ix ix_A os_ix (co_v (ce_lcIf (own := [("_law_at", 8), ("_law_row", 7)]) rfl sc__law_is_schedule.nd (ci_enum (by rfl) T.z_enumerate (en 1)) (blk_of rfl (by kernel_rfl)) (fun _ _ _ _ _ _ => (cg_tupB rfl (cgs_cons (gb 8 sc__law_is_schedule.nd) (cgs_cons (gb 7 sc__law_is_schedule.nd) cgs_nil (by rfl)) (by rfl)) rfl)) (fun _ _ _ _ _ => (ct_cmp (ce_cmp op_in_seq (os_in (neg := false)) (es 4) (es 7) (by rfl)))) (fun _ _ _ _ _ => (en 8)))) (co_v ce_int) (fun _ _ => rfl)) cl_nil)) ⟨fun _ => rfl, ⟨fun _ => rfl, trivial⟩⟩))) (by rfl) T.z_dict bt_dict) (hx := .inr rfl))
theorem os14__law_is_schedule (T : Tx K mg) {cdv : Value} {A : Around} {outer : List Env} {s : Shared} {H : Hp} {E : XK} (hr : RoomG 0 (A.deeper (envOfC "_law_is_schedule" (defScope s__law_is_schedule) s.heap.objs.size T.f__law_is_schedule cdv))) : CS T.ca (cxOf (L2.CX P w) P w K mg base ["_law_steps_here", "_law_value", "_law_indices", "_law_number", "_law_index", "_law_step", "_law_near", "_law_row", "_law_at", "_law_other"] "_law_is_schedule" (defScope s__law_is_schedule) T.f__law_is_schedule cdv A outer s H E) [0, 1] (nthS (forB (nthS (defBody s__law_is_schedule) 5)) 0) st14__law_is_schedule :=
  (cs_setLcIf (own := [("_law_other", 9)]) (i := 6) rfl sc__law_is_schedule.nd rfl rfl (by decide) (gn (ca := T.ca) (L := []) 6 sc__law_is_schedule.nd).1 (by rfl) (ci_range1 (by rfl) T.z_range (en 4)) (blk_of rfl (by kernel_rfl)) (fun _ _ _ _ _ _ => (gb 9 sc__law_is_schedule.nd)) (fun _ _ _ _ _ => (ct_cmp (ce_cmp op_lt os_lt (co_v (ce_callB call_abs (by rfl) T.z_abs bt_abs os_abs (.cons (co_v (ce_bin op_sub os_sub (co_v (ce_ix ix_A os_ix (es 0) (es 9) (fun _ _ => rfl))) (es 5))) .nil) (hst := ⟨fun _ => rfl, trivial⟩))) (co_v ce_int) (nomark _)))) (fun _ _ _ _ _ => (en 9)))
theorem os16__law_is_schedule (T : Tx K mg) {cdv : Value} {A : Around} {outer : List Env} {s : Shared} {H : Hp} {E : XK} (hr : RoomG 0 (A.deeper (envOfC "_law_is_schedule" (defScope s__law_is_schedule) s.heap.objs.size T.f__law_is_schedule cdv))) : CS T.ca (cxOf (L2.CX P w) P w K mg base ["_law_steps_here", "_law_value", "_law_indices", "_law_number", "_law_index", "_law_step", "_law_near", "_law_row", "_law_at", "_law_other"] "_law_is_schedule" (defScope s__law_is_schedule) T.f__law_is_schedule cdv A outer s H E) [0, 1] (nthS (ifB (nthS (forB (nthS (defBody s__law_is_schedule) 5)) 1)) 0) st16__law_is_schedule :=
  (cs_ret ce_bl)
theorem os17__law_is_schedule (T : Tx K mg) {cdv : Value} {A : Around} {outer : List Env} {s : Shared} {H : Hp} {E : XK} (hr : RoomG 0 (A.deeper (envOfC "_law_is_schedule" (defScope s__law_is_schedule) s.heap.objs.size T.f__law_is_schedule cdv))) : CS T.ca (cxOf (L2.CX P w) P w K mg base ["_law_steps_here", "_law_value", "_law_indices", "_law_number", "_law_index", "_law_step", "_law_near", "_law_row", "_law_at", "_law_other"] "_law_is_schedule" (defScope s__law_is_schedule) T.f__law_is_schedule cdv A outer s H E) [0, 1] (nthS (forB (nthS (defBody s__law_is_schedule) 5)) 1) st17__law_is_schedule :=
  (cs_if (ct_cmp (ce_cmp (op_neD hr.2.units) os_ne (co_v (ce_lcIf (own := [("_law_other", 9)]) rfl sc__law_is_schedule.nd (ci_list (pi_list (we_pe _ _)) (en 6)) (blk_of rfl (by kernel_rfl)) (fun _ _ _ _ _ _ => (gb 9 sc__law_is_schedule.nd)) (fun _ _ _ _ _ => (ct_cmp (ce_cmp op_ge os_ge (co_v (ce_dx (units1 hr) (es 3) (es 9))) (co_v (ce_dx (units1 hr) (es 3) (es 4))) (nomark _)))) (fun _ _ _ _ _ => (en 9)))) (co_v (ce_lst cl_nil trivial)) (nomark _))) (css_one (os16__law_is_schedule T hr)) css_nil)
theorem os19__law_is_schedule (T : Tx K mg) {cdv : Value} {A : Around} {outer : List Env} {s : Shared} {H : Hp} {E : XK} (hr : RoomG 0 (A.deeper (envOfC "_law_is_schedule" (defScope s__law_is_schedule) s.heap.objs.size T.f__law_is_schedule cdv))) : CS T.ca (cxOf (L2.CX P w) P w K mg base ["_law_steps_here", "_law_value", "_law_indices", "_law_number", "_law_index", "_law_step", "_law_near", "_law_row", "_law_at", "_law_other"] "_law_is_schedule" (defScope s__law_is_schedule) T.f__law_is_schedule cdv A outer s H E) [0, 1] (nthS (defBody s__law_is_schedule) 5) (sFor (iEn (eN 0)) fg18__law_is_schedule fb18__law_is_schedule) :=
  (cs_for (ci_enum (by rfl) T.z_enumerate (en 0)) (cg_tup rfl (cgs_cons (gn 4 sc__law_is_schedule.nd (hx := .inr rfl)) (cgs_cons (gn 5 sc__law_is_schedule.nd (hx := .inr rfl)) cgs_nil (by rfl)) (by rfl)) rfl) (css_cons (os14__law_is_schedule T hr)
    (css_one (os17__law_is_schedule T hr))) (passes_of rfl) rfl)
theorem os20__law_is_schedule (T : Tx K mg) {cdv : Value} {A : Around} {outer : List Env} {s : Shared} {H : Hp} {E : XK} (hr : RoomG 0 (A.deeper (envOfC "_law_is_schedule" (defScope s__law_is_schedule) s.heap.objs.size T.f__law_is_schedule cdv))) : CS T.ca (cxOf (L2.CX P w) P w K mg base ["_law_steps_here", "_law_value", "_law_indices", "_law_number", "_law_index", "_law_step", "_law_near", "_law_row", "_law_at", "_law_other"] "_law_is_schedule" (defScope s__law_is_schedule) T.f__law_is_schedule cdv A outer s H E) [0, 1] (nthS (defBody s__law_is_schedule) 6) st20__law_is_schedule :=
  (cs_ret ce_bl)
theorem ok__law_is_schedule (T : Tx K mg) : FnG P w K mg base (L2.CX P w) 1 T.f__law_is_schedule (spM T.ca K m__law_is_schedule) := fn_okG (N := ["_law_steps_here", "_law_value", "_law_indices", "_law_number", "_law_index", "_law_step", "_law_near", "_law_row", "_law_at", "_law_other"]) (n := 2) (L := [0, 1]) (mb := b__law_is_schedule) T.F__law_is_schedule T.B__law_is_schedule sc__law_is_schedule rfl fun cdv A outer s H E hr =>
  show CSs _ _ _ _ b__law_is_schedule from (css_cons (os3__law_is_schedule T hr)
    (css_cons (os4__law_is_schedule T hr)
    (css_cons (os7__law_is_schedule T hr)
    (css_cons (os9__law_is_schedule T hr)
    (css_cons (os12__law_is_schedule T hr)
    (css_cons (os19__law_is_schedule T hr)
    (css_one (os20__law_is_schedule T hr))))))))
theorem ok_Network_empty (T : Tx K mg) : FnG P w K mg base (L2.CX P w) 5 T.f_Network_empty (spM T.ca K m_Network_empty) := fn_okG (N := ["cls", "width"]) (n := 2) (L := [0, 1]) (mb := b_Network_empty) T.F_Network_empty T.B_Network_empty sc_Network_empty rfl fun cdv A outer s H E hr =>
  show CSs _ _ _ _ b_Network_empty from (css_one (cs_ret (ce_makeV (C := 0) T.mk_Network (ok_Network___init__ T) (hr.mono (by decide)) rfl (.inl rfl) (cl_cons (en 1) (cl_cons (ce_lst cl_nil trivial) cl_nil)) ⟨fun _ => rfl, ⟨fun _ => rfl, trivial⟩⟩)))
theorem os1_law (T : Tx K mg) {cdv : Value} {A : Around} {outer : List Env} {s : Shared} {H : Hp} {E : XK} (hr : RoomG 5 (A.deeper (envOfC "law" (defScope s_law) s.heap.objs.size T.f_law cdv))) : CS T.ca (cxOf (L2.CX P w) P w K mg base ["_law_script", "_law_k", "_law_source_here", "_law_width", "_law_steps_here", "_law_network", "_law_rows", "_law_values", "_law_value", "_law_before", "_law_index", "_law_turn"] "law" (defScope s_law) T.f_law cdv A outer s H E) [0] (nthS (forB (nthS (defBody s_law) 0)) 0) st1_law :=
  (cs_set 2 sc_law.nd (ce_callR (ok__law_source T) (hr.mono (by decide)) (by rfl) T.g__law_source T.F__law_source.kp (cl_cons (en 0) (cl_cons (en 1) cl_nil)) ⟨fun _ => rfl, ⟨fun _ => rfl, trivial⟩⟩) (hx := .inr rfl))
theorem os2_law (T : Tx K mg) {cdv : Value} {A : Around} {outer : List Env} {s : Shared} {H : Hp} {E : XK} (hr : RoomG 5 (A.deeper (envOfC "law" (defScope s_law) s.heap.objs.size T.f_law cdv))) : CS T.ca (cxOf (L2.CX P w) P w K mg base ["_law_script", "_law_k", "_law_source_here", "_law_width", "_law_steps_here", "_law_network", "_law_rows", "_law_values", "_law_value", "_law_before", "_law_index", "_law_turn"] "law" (defScope s_law) T.f_law cdv A outer s H E) [0] (nthS (forB (nthS (defBody s_law) 0)) 1) st2_law :=
  (cs_set 3 sc_law.nd (ce_bin op_addA os_add (co_v ce_int) (co_v (ce_callLG _ _ _ (ok__law_draw T) (hr.mono (by decide)) (by rfl) T.g__law_draw T.F__law_draw.kp cl_nil (pv 2) (cl_cons ce_int cl_nil) rfl ⟨fun _ => rfl, ⟨fun _ => rfl, trivial⟩⟩))))
theorem os3_law (T : Tx K mg) {cdv : Value} {A : Around} {outer : List Env} {s : Shared} {H : Hp} {E : XK} (hr : RoomG 5 (A.deeper (envOfC "law" (defScope s_law) s.heap.objs.size T.f_law cdv))) : CS T.ca (cxOf (L2.CX P w) P w K mg base ["_law_script", "_law_k", "_law_source_here", "_law_width", "_law_steps_here", "_law_network", "_law_rows", "_law_values", "_law_value", "_law_before", "_law_index", "_law_turn"] "law" (defScope s_law) T.f_law cdv A outer s H E) [0] (nthS (forB (nthS (defBody s_law) 0)) 2) st3_law :=
  (cs_set 4 sc_law.nd (ce_callLG _ _ _ (ok__law_steps T) (hr.mono (by decide)) (by rfl) T.g__law_steps T.F__law_steps.kp cl_nil (pv 2) (cl_cons (en 3) (cl_cons ce_int cl_nil)) rfl ⟨fun _ => rfl, ⟨fun _ => rfl, ⟨fun _ => rfl, trivial⟩⟩⟩))
theorem os4_law (T : Tx K mg) {cdv : Value} {A : Around} {outer : List Env} {s : Shared} {H : Hp} {E : XK} (hr : RoomG 5 (A.deeper (envOfC "law" (defScope s_law) s.heap.objs.size T.f_law cdv))) : CS T.ca (cxOf (L2.CX P w) P w K mg base ["_law_script", "_law_k", "_law_source_here", "_law_width", "_law_steps_here", "_law_network", "_law_rows", "_law_values", "_law_value", "_law_before", "_law_index", "_law_turn"] "law" (defScope s_law) T.f_law cdv A outer s H E) [0] (nthS (forB (nthS (defBody s_law) 0)) 3) st4_law :=
  (cs_set 5 sc_law.nd (ce_makeG (C := 0) T.mk_Network (ok_Network___init__ T) (hr.mono (by decide)) (by rfl) T.g_Network (cl_cons (en 3) (cl_cons (en 4) cl_nil)) ⟨fun _ => rfl, ⟨fun _ => rfl, trivial⟩⟩))
theorem os5_law (T : Tx K mg) {cdv : Value} {A : Around} {outer : List Env} {s : Shared} {H : Hp} {E : XK} (hr : RoomG 5 (A.deeper (envOfC "law" (defScope s_law) s.heap.objs.size T.f_law cdv))) : CS T.ca (cxOf (L2.CX P w) P w K mg base ["_law_script", "_law_k", "_law_source_here", "_law_width", "_law_steps_here", "_law_network", "_law_rows", "_law_values", "_law_value", "_law_before", "_law_index", "_law_turn"] "law" (defScope s_law) T.f_law cdv A outer s H E) [0] (nthS (forB (nthS (defBody s_law) 0)) 4) st5_law :=
  (cs_set 6 sc_law.nd (ce_callLG _ _ _ (ok__law_late T) (hr.mono (by decide)) (by rfl) T.g__law_late T.F__law_late.kp cl_nil (pv 2) (cl_cons (en 4) cl_nil) rfl ⟨fun _ => rfl, ⟨fun _ => rfl, trivial⟩⟩) (hx := .inr rfl))
theorem os7_law (T : Tx K mg) {cdv : Value} {A : Around} {outer : List Env} {s : Shared} {H : Hp} {E : XK} (hr : RoomG 5 (A.deeper (envOfC "law" (defScope s_law) s.heap.objs.size T.f_law cdv))) : CS T.ca (cxOf (L2.CX P w) P w K mg base ["_law_script", "_law_k", "_law_source_here", "_law_width", "_law_steps_here", "_law_network", "_law_rows", "_law_values", "_law_value", "_law_before", "_law_index", "_law_turn"] "law" (defScope s_law) T.f_law cdv A outer s H E) [0] (nthS (forB (nthS (defBody s_law) 0)) 5) st7_law :=
  (cs_set 7 sc_law.nd (ce_fz (ce_lst (cl_cons (en 6) (cl_cons (ce_lc (own := [("_law_index", 10)]) rfl sc_law.nd (ci_range1 (by rfl) T.z_range (ce_callB call_len_seq (by rfl) T.z_len bt_len os_len (.cons (es 4) .nil) (hst := ⟨fun _ => rfl, trivial⟩))) (blk_of rfl (by kernel_rfl)) (fun _ _ _ _ _ _ => (gb 10 sc_law.nd)) (fun _ _ _ _ _ => (ce_lst (cl_cons (en 10) cl_nil) ⟨fun _ => rfl, trivial⟩))) (cl_cons (ce_lst cl_nil trivial) (cl_cons (ce_lst (cl_cons (ce_lst cl_nil trivial) cl_nil) ⟨fun _ => rfl, trivial⟩) cl_nil)))) ⟨fun _ => rfl, ⟨fun _ => rfl, ⟨fun _ => rfl, ⟨fun _ => rfl, trivial⟩⟩⟩⟩)))
theorem os9_law (T : Tx K mg) {cdv : Value} {A : Around} {outer : List Env} {s : Shared} {H : Hp} {E : XK} (hr : RoomG 5 (A.deeper (envOfC "law" (defScope s_law) s.heap.objs.size T.f_law cdv))) : CS T.ca (cxOf (L2.CX P w) P w K mg base ["_law_script", "_law_k", "_law_source_here", "_law_width", "_law_steps_here", "_law_network", "_law_rows", "_law_values", "_law_value", "_law_before", "_law_index", "_law_turn"] "law" (defScope s_law) T.f_law cdv A outer s H E) [0] (nthS (forB (nthS (forB (nthS (defBody s_law) 0)) 6)) 0) st9_law :=
  (cs_set 9 sc_law.nd (ce_callB (call_reprV hr) (by rfl) T.z_repr bt_repr os_reprV (.cons (es 8) .nil) (hst := ⟨fun _ => rfl, trivial⟩)))
theorem os10_law (T : Tx K mg) {cdv : Value} {A : Around} {outer : List Env} {s : Shared} {H : Hp} {E : XK} (hr : RoomG 5 (A.deeper (envOfC "law" (defScope s_law) s.heap.objs.size T.f_law cdv))) : CS T.ca (cxOf (L2.CX P w) P w K mg base ["_law_script", "_law_k", "_law_source_here", "_law_width", "_law_steps_here", "_law_network", "_law_rows", "_law_values", "_law_value", "_law_before", "_law_index", "_law_turn"] "law" (defScope s_law) T.f_law cdv A outer s H E) [0] (nthS (ifB (nthS (forB (nthS (forB (nthS (defBody s_law) 0)) 6)) 1)) 0) st10_law :=
  (cs_ret ce_bl)
theorem os11_law (T : Tx K mg) {cdv : Value} {A : Around} {outer : List Env} {s : Shared} {H : Hp} {E : XK} (hr : RoomG 5 (A.deeper (envOfC "law" (defScope s_law) s.heap.objs.size T.f_law cdv))) : CS T.ca (cxOf (L2.CX P w) P w K mg base ["_law_script", "_law_k", "_law_source_here", "_law_width", "_law_steps_here", "_law_network", "_law_rows", "_law_values", "_law_value", "_law_before", "_law_index", "_law_turn"] "law" (defScope s_law) T.f_law cdv A outer s H E) [0] (nthS (forB (nthS (forB (nthS (defBody s_law) 0)) 6)) 1) st11_law :=
  (cs_if (ct_w (cw_or (ct_cmp (ce_cmp (op_neD hr.2.units) os_ne (co_v (ce_callB (call_reprV hr) (by rfl) T.z_repr bt_repr os_reprV (.cons (co_v (ce_callR (ok_is_schedule T) (hr.mono (by decide)) (by rfl) T.g_is_schedule T.F_is_schedule.kp (cl_cons (en 5) (cl_cons (en 8) cl_nil)) ⟨fun _ => rfl, ⟨fun _ => rfl, trivial⟩⟩)) .nil) (hst := ⟨fun _ => rfl, trivial⟩))) (co_v (ce_callB (call_reprV hr) (by rfl) T.z_repr bt_repr os_reprV (.cons (co_v (ce_callR (ok__law_is_schedule T) (hr.mono (by decide)) (by rfl) T.g__law_is_schedule T.F__law_is_schedule.kp (cl_cons (en 4) (cl_cons (en 8) cl_nil)) ⟨fun _ => rfl, ⟨fun _ => rfl, trivial⟩⟩)) .nil) (hst := ⟨fun _ => rfl, trivial⟩))) (nomark _))) (cw_or1 (ct_cmp (ce_cmp (op_neD hr.2.units) os_ne (co_v (ce_callB (call_reprV hr) (by rfl) T.z_repr bt_repr os_reprV (.cons (es 8) .nil) (hst := ⟨fun _ => rfl, trivial⟩))) (es 9) (nomark _)))))) (css_one (os10_law T hr)) css_nil)
theorem os13_law (T : Tx K mg) {cdv : Value} {A : Around} {outer : List Env} {s : Shared} {H : Hp} {E : XK} (hr : RoomG 5 (A.deeper (envOfC "law" (defScope s_law) s.heap.objs.size T.f_law cdv))) : CS T.ca (cxOf (L2.CX P w) P w K mg base ["_law_script", "_law_k", "_law_source_here", "_law_width", "_law_steps_here", "_law_network", "_law_rows", "_law_values", "_law_value", "_law_before", "_law_index", "_law_turn"] "law" (defScope s_law) T.f_law cdv A outer s H E) [0] (nthS (forB (nthS (defBody s_law) 0)) 6) (sFor (iE (eOp oAdd [.s 7, .v (eLc (iR1 (eC (.int 12))) lg8_law tYesM le8_law [11])]) lstItems) fg12_law fb12_law) :=
  (cs_for (ci_list (pi_list (we_pe _ _)) (ce_bin op_addA os_add (es 7) (co_v (ce_lc (own := [("_law_turn", 11)]) rfl sc_law.nd (ci_range1 (by rfl) T.z_range ce_int) (blk_of rfl (by kernel_rfl)) (fun _ _ _ _ _ _ => (gb 11 sc_law.nd)) (fun _ _ _ _ _ => (ce_fz (ce_callLG _ _ _ (ok__law_changed T) (hr.mono (by decide)) (by rfl) T.g__law_changed T.F__law_changed.kp cl_nil (pv 2) (cl_cons (en 6) cl_nil) rfl ⟨fun _ => rfl, ⟨fun _ => rfl, trivial⟩⟩))))))) (gn 8 sc_law.nd) (css_cons (os9_law T hr)
    (css_one (os11_law T hr))) (passes_of rfl) rfl)
theorem os15_law (T : Tx K mg) {cdv : Value} {A : Around} {outer : List Env} {s : Shared} {H : Hp} {E : XK} (hr : RoomG 5 (A.deeper (envOfC "law" (defScope s_law) s.heap.objs.size T.f_law cdv))) : CS T.ca (cxOf (L2.CX P w) P w K mg base ["_law_script", "_law_k", "_law_source_here", "_law_width", "_law_steps_here", "_law_network", "_law_rows", "_law_values", "_law_value", "_law_before", "_law_index", "_law_turn"] "law" (defScope s_law) T.f_law cdv A outer s H E) [0] (nthS (defBody s_law) 0) (sFor (iR1 (eOp oMax2 [.v (eC (.int 1)), .v (eOp oMin2 [.v (eOp oLen [.s 0]), .v (eC (.int 8))])])) fg14_law fb14_law) :=
  (cs_for (ci_range1 (by rfl) T.z_range (ce_callB (call_max2 rfl) (by rfl) T.z_max bt_max os_max2 (.cons (co_v ce_int) (.cons (co_v (ce_callB (call_min2 rfl) (by rfl) T.z_min bt_min os_min2 (.cons (co_v (ce_callB call_len_seq (by rfl) T.z_len bt_len os_len (.cons (es 0) .nil) (hst := ⟨fun _ => rfl, trivial⟩))) (.cons (co_v ce_int) .nil)) (hst := ⟨fun _ => rfl, ⟨fun _ => rfl, trivial⟩⟩))) .nil)) (hst := ⟨fun _ => rfl, ⟨fun _ => rfl, trivial⟩⟩))) (gn 1 sc_law.nd) (css_cons (os1_law T hr)
    (css_cons (os2_law T hr)
    (css_cons (os3_law T hr)
    (css_cons (os4_law T hr)
    (css_cons (os5_law T hr)
    (css_cons (os7_law T hr)
    (css_one (os13_law T hr)))))))) (passes_of rfl) rfl)
theorem os16_law (T : Tx K mg) {cdv : Value} {A : Around} {outer : List Env} {s : Shared} {H : Hp} {E : XK} (hr : RoomG 5 (A.deeper (envOfC "law" (defScope s_law) s.heap.objs.size T.f_law cdv))) : CS T.ca (cxOf (L2.CX P w) P w K mg base ["_law_script", "_law_k", "_law_source_here", "_law_width", "_law_steps_here", "_law_network", "_law_rows", "_law_values", "_law_value", "_law_before", "_law_index", "_law_turn"] "law" (defScope s_law) T.f_law cdv A outer s H E) [0] (nthS (defBody s_law) 1) st16_law :=
  (cs_ret (ce_and (ce_cmp op_isBl os_isB (co_v (ce_callR (ok_is_schedule T) (hr.mono (by decide)) (by rfl) T.g_is_schedule T.F_is_schedule.kp (cl_cons (ce_cmth (C := 0) (pl := _) (by rfl) T.g_Network T.rd_Network T.cm_Network_empty (ok_Network_empty T) (hr.mono (by decide)) (cl_cons ce_int cl_nil) ⟨fun _ => rfl, trivial⟩) (cl_cons (ce_lst cl_nil trivial) cl_nil)) ⟨fun _ => rfl, ⟨fun _ => rfl, trivial⟩⟩)) (co_v ce_bl) (nomark _)) (ce_cmp op_isBl os_isB (co_v (ce_callR (ok_is_schedule T) (hr.mono (by decide)) (by rfl) T.g_is_schedule T.F_is_schedule.kp (cl_cons (ce_cmth (C := 0) (pl := _) (by rfl) T.g_Network T.rd_Network T.cm_Network_empty (ok_Network_empty T) (hr.mono (by decide)) (cl_cons ce_int cl_nil) ⟨fun _ => rfl, trivial⟩) (cl_cons (ce_lst (cl_cons (ce_lst cl_nil trivial) cl_nil) ⟨fun _ => rfl, trivial⟩) cl_nil)) ⟨fun _ => rfl, ⟨fun _ => rfl, trivial⟩⟩)) (co_v ce_bl) (nomark _))))
theorem ok_law (T : Tx K mg) : FnG P w K mg base (L2.CX P w) 6 T.f_law (spM T.ca K m_law) := fn_okG (N := ["_law_script", "_law_k", "_law_source_here", "_law_width", "_law_steps_here", "_law_network", "_law_rows", "_law_values", "_law_value", "_law_before", "_law_index", "_law_turn"]) (n := 1) (L := [0]) (mb := b_law) T.F_law T.B_law sc_law rfl fun cdv A outer s H E hr =>
  show CSs _ _ _ _ b_law from (css_cons (os15_law T hr)
    (css_one (os16_law T hr)))
end
theorem all_mk {l : PySem.W.OpenLaw} {w : World} {K : PySem.W.Frag} {h : Heap} {mg : Str → Option Value} {fa : Addr} (X : K.In h) (G : h.Ns mainGlobals mg) (hfa : mg "law" = some (.ref fa))
    {c_Network : Addr} (a_Network : PySem.W.nsIn K mainGlobals "Network" = some (some (.ref c_Network)))
    {f__law_source : Addr} (a__law_source : PySem.W.nsIn K mainGlobals "_law_source" = some (some (.ref f__law_source)))
    {od__law_source an__law_source : Option Addr} {sl__law_source : Array (Option Value)} {oc__law_source kV__law_source dc__law_source pm__law_source cd__law_source ct__law_source : Value}
    (l__law_source : K.lookup f__law_source = some ⟨oc__law_source, od__law_source, .func (PySem.W.fnOf "_law_source" "_law_source" (defArgs s__law_source) (defBody s__law_source) (defScope s__law_source) .none kV__law_source dc__law_source pm__law_source an__law_source cd__law_source ct__law_source), sl__law_source⟩) (q__law_source : PySem.W.codeIn K cd__law_source "_law_source" = true) (k__law_source : PySem.W.keepIn K (.ref f__law_source) = true)
    {f__law_draw : Addr} (a__law_draw : PySem.W.nsIn K mainGlobals "_law_draw" = some (some (.ref f__law_draw)))
    {od__law_draw an__law_draw : Option Addr} {sl__law_draw : Array (Option Value)} {oc__law_draw kV__law_draw dc__law_draw pm__law_draw cd__law_draw ct__law_draw : Value}
    (l__law_draw : K.lookup f__law_draw = some ⟨oc__law_draw, od__law_draw, .func (PySem.W.fnOf "_law_draw" "_law_draw" (defArgs s__law_draw) (defBody s__law_draw) (defScope s__law_draw) .none kV__law_draw dc__law_draw pm__law_draw an__law_draw cd__law_draw ct__law_draw), sl__law_draw⟩) (q__law_draw : PySem.W.codeIn K cd__law_draw "_law_draw" = true) (k__law_draw : PySem.W.keepIn K (.ref f__law_draw) = true)
    {f__law_steps : Addr} (a__law_steps : PySem.W.nsIn K mainGlobals "_law_steps" = some (some (.ref f__law_steps)))
    {od__law_steps an__law_steps : Option Addr} {sl__law_steps : Array (Option Value)} {oc__law_steps kV__law_steps dc__law_steps pm__law_steps cd__law_steps ct__law_steps : Value}
    (l__law_steps : K.lookup f__law_steps = some ⟨oc__law_steps, od__law_steps, .func (PySem.W.fnOf "_law_steps" "_law_steps" (defArgs s__law_steps) (defBody s__law_steps) (defScope s__law_steps) .none kV__law_steps dc__law_steps pm__law_steps an__law_steps cd__law_steps ct__law_steps), sl__law_steps⟩) (q__law_steps : PySem.W.codeIn K cd__law_steps "_law_steps" = true) (k__law_steps : PySem.W.keepIn K (.ref f__law_steps) = true)
    {f_is_integer : Addr} (a_is_integer : PySem.W.nsIn K mainGlobals "is_integer" = some (some (.ref f_is_integer)))
    {od_is_integer an_is_integer : Option Addr} {sl_is_integer : Array (Option Value)} {oc_is_integer kV_is_integer dc_is_integer pm_is_integer cd_is_integer ct_is_integer : Value}
    (l_is_integer : K.lookup f_is_integer = some ⟨oc_is_integer, od_is_integer, .func (PySem.W.fnOf "is_integer" "is_integer" (defArgs s_is_integer) (defBody s_is_integer) (defScope s_is_integer) .none kV_is_integer dc_is_integer pm_is_integer an_is_integer cd_is_integer ct_is_integer), sl_is_integer⟩) (q_is_integer : PySem.W.codeIn K cd_is_integer "is_integer" = true) (k_is_integer : PySem.W.keepIn K (.ref f_is_integer) = true)
    {f_check_width : Addr} (a_check_width : PySem.W.nsIn K mainGlobals "check_width" = some (some (.ref f_check_width)))
    {od_check_width an_check_width : Option Addr} {sl_check_width : Array (Option Value)} {oc_check_width kV_check_width dc_check_width pm_check_width cd_check_width ct_check_width : Value}
    (l_check_width : K.lookup f_check_width = some ⟨oc_check_width, od_check_width, .func (PySem.W.fnOf "check_width" "check_width" (defArgs s_check_width) (defBody s_check_width) (defScope s_check_width) .none kV_check_width dc_check_width pm_check_width an_check_width cd_check_width ct_check_width), sl_check_width⟩) (q_check_width : PySem.W.codeIn K cd_check_width "check_width" = true) (k_check_width : PySem.W.keepIn K (.ref f_check_width) = true)
    {f_check_steps : Addr} (a_check_steps : PySem.W.nsIn K mainGlobals "check_steps" = some (some (.ref f_check_steps)))
    {od_check_steps an_check_steps : Option Addr} {sl_check_steps : Array (Option Value)} {oc_check_steps kV_check_steps dc_check_steps pm_check_steps cd_check_steps ct_check_steps : Value}
    (l_check_steps : K.lookup f_check_steps = some ⟨oc_check_steps, od_check_steps, .func (PySem.W.fnOf "check_steps" "check_steps" (defArgs s_check_steps) (defBody s_check_steps) (defScope s_check_steps) .none kV_check_steps dc_check_steps pm_check_steps an_check_steps cd_check_steps ct_check_steps), sl_check_steps⟩) (q_check_steps : PySem.W.codeIn K cd_check_steps "check_steps" = true) (k_check_steps : PySem.W.keepIn K (.ref f_check_steps) = true)
    {f_Network___init__ : Addr} (a_Network___init__ : PySem.W.findIn K (.ref c_Network) "__init__" = some (some (.ref f_Network___init__))) (i_Network___init__ : PySem.W.isFn K (.ref f_Network___init__) = true)
    {od_Network___init__ an_Network___init__ : Option Addr} {sl_Network___init__ : Array (Option Value)} {kV_Network___init__ dc_Network___init__ pm_Network___init__ cd_Network___init__ ct_Network___init__ : Value}
    (l_Network___init__ : K.lookup f_Network___init__ = some ⟨(.type "function"), od_Network___init__, .func (PySem.W.fnOf "__init__" "Network.__init__" (defArgs s_Network___init__) (defBody s_Network___init__) (defScope s_Network___init__) .none kV_Network___init__ dc_Network___init__ pm_Network___init__ an_Network___init__ cd_Network___init__ ct_Network___init__), sl_Network___init__⟩) (q_Network___init__ : PySem.W.codeIn K cd_Network___init__ "Network.__init__" = true) (k_Network___init__ : PySem.W.keepIn K (.ref f_Network___init__) = true)
    {f__law_late : Addr} (a__law_late : PySem.W.nsIn K mainGlobals "_law_late" = some (some (.ref f__law_late)))
    {od__law_late an__law_late : Option Addr} {sl__law_late : Array (Option Value)} {oc__law_late kV__law_late dc__law_late pm__law_late cd__law_late ct__law_late : Value}
    (l__law_late : K.lookup f__law_late = some ⟨oc__law_late, od__law_late, .func (PySem.W.fnOf "_law_late" "_law_late" (defArgs s__law_late) (defBody s__law_late) (defScope s__law_late) .none kV__law_late dc__law_late pm__law_late an__law_late cd__law_late ct__law_late), sl__law_late⟩) (q__law_late : PySem.W.codeIn K cd__law_late "_law_late" = true) (k__law_late : PySem.W.keepIn K (.ref f__law_late) = true)
    {f__law_changed : Addr} (a__law_changed : PySem.W.nsIn K mainGlobals "_law_changed" = some (some (.ref f__law_changed)))
    {od__law_changed an__law_changed : Option Addr} {sl__law_changed : Array (Option Value)} {oc__law_changed kV__law_changed dc__law_changed pm__law_changed cd__law_changed ct__law_changed : Value}
    (l__law_changed : K.lookup f__law_changed = some ⟨oc__law_changed, od__law_changed, .func (PySem.W.fnOf "_law_changed" "_law_changed" (defArgs s__law_changed) (defBody s__law_changed) (defScope s__law_changed) .none kV__law_changed dc__law_changed pm__law_changed an__law_changed cd__law_changed ct__law_changed), sl__law_changed⟩) (q__law_changed : PySem.W.codeIn K cd__law_changed "_law_changed" = true) (k__law_changed : PySem.W.keepIn K (.ref f__law_changed) = true)
    {f_Network___len__ : Addr} (a_Network___len__ : PySem.W.findIn K (.ref c_Network) "__len__" = some (some (.ref f_Network___len__))) (i_Network___len__ : PySem.W.isFn K (.ref f_Network___len__) = true)
    {od_Network___len__ an_Network___len__ : Option Addr} {sl_Network___len__ : Array (Option Value)} {kV_Network___len__ dc_Network___len__ pm_Network___len__ cd_Network___len__ ct_Network___len__ : Value}
    (l_Network___len__ : K.lookup f_Network___len__ = some ⟨(.type "function"), od_Network___len__, .func (PySem.W.fnOf "__len__" "Network.__len__" (defArgs s_Network___len__) (defBody s_Network___len__) (defScope s_Network___len__) .none kV_Network___len__ dc_Network___len__ pm_Network___len__ an_Network___len__ cd_Network___len__ ct_Network___len__), sl_Network___len__⟩) (q_Network___len__ : PySem.W.codeIn K cd_Network___len__ "Network.__len__" = true) (k_Network___len__ : PySem.W.keepIn K (.ref f_Network___len__) = true)
    {f_round_by_index : Addr} (a_round_by_index : PySem.W.nsIn K mainGlobals "round_by_index" = some (some (.ref f_round_by_index)))
    {od_round_by_index an_round_by_index : Option Addr} {sl_round_by_index : Array (Option Value)} {oc_round_by_index kV_round_by_index dc_round_by_index pm_round_by_index cd_round_by_index ct_round_by_index : Value}
    (l_round_by_index : K.lookup f_round_by_index = some ⟨oc_round_by_index, od_round_by_index, .func (PySem.W.fnOf "round_by_index" "round_by_index" (defArgs s_round_by_index) (defBody s_round_by_index) (defScope s_round_by_index) .none kV_round_by_index dc_round_by_index pm_round_by_index an_round_by_index cd_round_by_index ct_round_by_index), sl_round_by_index⟩) (q_round_by_index : PySem.W.codeIn K cd_round_by_index "round_by_index" = true) (k_round_by_index : PySem.W.keepIn K (.ref f_round_by_index) = true)
    {f_is_schedule : Addr} (a_is_schedule : PySem.W.nsIn K mainGlobals "is_schedule" = some (some (.ref f_is_schedule)))
    {od_is_schedule an_is_schedule : Option Addr} {sl_is_schedule : Array (Option Value)} {oc_is_schedule kV_is_schedule dc_is_schedule pm_is_schedule cd_is_schedule ct_is_schedule : Value}
    (l_is_schedule : K.lookup f_is_schedule = some ⟨oc_is_schedule, od_is_schedule, .func (PySem.W.fnOf "is_schedule" "is_schedule" (defArgs s_is_schedule) (defBody s_is_schedule) (defScope s_is_schedule) .none kV_is_schedule dc_is_schedule pm_is_schedule an_is_schedule cd_is_schedule ct_is_schedule), sl_is_schedule⟩) (q_is_schedule : PySem.W.codeIn K cd_is_schedule "is_schedule" = true) (k_is_schedule : PySem.W.keepIn K (.ref f_is_schedule) = true)
    {f__law_is_schedule : Addr} (a__law_is_schedule : PySem.W.nsIn K mainGlobals "_law_is_schedule" = some (some (.ref f__law_is_schedule)))
    {od__law_is_schedule an__law_is_schedule : Option Addr} {sl__law_is_schedule : Array (Option Value)} {oc__law_is_schedule kV__law_is_schedule dc__law_is_schedule pm__law_is_schedule cd__law_is_schedule ct__law_is_schedule : Value}
    (l__law_is_schedule : K.lookup f__law_is_schedule = some ⟨oc__law_is_schedule, od__law_is_schedule, .func (PySem.W.fnOf "_law_is_schedule" "_law_is_schedule" (defArgs s__law_is_schedule) (defBody s__law_is_schedule) (defScope s__law_is_schedule) .none kV__law_is_schedule dc__law_is_schedule pm__law_is_schedule an__law_is_schedule cd__law_is_schedule ct__law_is_schedule), sl__law_is_schedule⟩) (q__law_is_schedule : PySem.W.codeIn K cd__law_is_schedule "_law_is_schedule" = true) (k__law_is_schedule : PySem.W.keepIn K (.ref f__law_is_schedule) = true)
    {p_Network_empty f_Network_empty : Addr} {rs_Network_empty : List Value} (a_Network_empty : PySem.W.findCls K (.ref c_Network) (.type "type") "empty" = some (.get (.builtin "classmethod.__get__") (.ref p_Network_empty) .none (.ref c_Network))) (rc_Network_empty : PySem.W.recIn K p_Network_empty "classmethod" = some (.ref f_Network_empty :: rs_Network_empty)) (i_Network_empty : PySem.W.fnIn K f_Network_empty = true)
    {od_Network_empty an_Network_empty : Option Addr} {sl_Network_empty : Array (Option Value)} {kV_Network_empty dc_Network_empty pm_Network_empty cd_Network_empty ct_Network_empty : Value}
    (l_Network_empty : K.lookup f_Network_empty = some ⟨(.type "function"), od_Network_empty, .func (PySem.W.fnOf "empty" "Network.empty" (defArgs s_Network_empty) (defBody s_Network_empty) (defScope s_Network_empty) .none kV_Network_empty dc_Network_empty pm_Network_empty an_Network_empty cd_Network_empty ct_Network_empty), sl_Network_empty⟩) (q_Network_empty : PySem.W.codeIn K cd_Network_empty "Network.empty" = true) (k_Network_empty : PySem.W.keepIn K (.ref f_Network_empty) = true)
    {f_law : Addr} (a_law : PySem.W.nsIn K mainGlobals "law" = some (some (.ref f_law)))
    {od_law an_law : Option Addr} {sl_law : Array (Option Value)} {oc_law kV_law dc_law pm_law cd_law ct_law : Value}
    (l_law : K.lookup f_law = some ⟨oc_law, od_law, .func (PySem.W.fnOf "law" "law" (defArgs s_law) (defBody s_law) (defScope s_law) .none kV_law dc_law pm_law an_law cd_law ct_law), sl_law⟩) (q_law : PySem.W.codeIn K cd_law "law" = true) (k_law : PySem.W.keepIn K (.ref f_law) = true)
    {p_Network_steps f_Network_steps : Addr} {rs_Network_steps : List Value} (a_Network_steps : PySem.W.findIn K (.ref c_Network) "steps" = some (some (.ref p_Network_steps))) (ge_Network_steps : PySem.W.specialIn K (.ref p_Network_steps) "__get__" = some (some (.builtin "property.__get__"))) (ta_Network_steps : PySem.W.takesIn K (.ref p_Network_steps) = some true) (rc_Network_steps : PySem.W.recIn K p_Network_steps "property" = some (.ref f_Network_steps :: rs_Network_steps))
    {od_Network_steps an_Network_steps : Option Addr} {sl_Network_steps : Array (Option Value)} {oc_Network_steps kV_Network_steps dc_Network_steps pm_Network_steps cd_Network_steps ct_Network_steps : Value}
    (l_Network_steps : K.lookup f_Network_steps = some ⟨oc_Network_steps, od_Network_steps, .func (PySem.W.fnOf "steps" "Network.steps" (defArgs s_Network_steps) (defBody s_Network_steps) (defScope s_Network_steps) .none kV_Network_steps dc_Network_steps pm_Network_steps an_Network_steps cd_Network_steps ct_Network_steps), sl_Network_steps⟩) (q_Network_steps : PySem.W.codeIn K cd_Network_steps "Network.steps" = true) (k_Network_steps : PySem.W.keepIn K (.ref f_Network_steps) = true)
    (pg_Network : PySem.W.plainGet K c_Network Str.empty = true) (hd_Network : PySem.W.hasDictIn K c_Network = true) (po_Network : PySem.W.plainOver K c_Network = true) (sa_Network : PySem.W.findIn K (.ref c_Network) "__setattr__" = some (some (.builtin "object.__setattr__"))) (mk_Network : PySem.W.makesIn K c_Network = true) (kc_Network : PySem.W.keepIn K (.ref c_Network) = true)
    {nm_Network qn_Network : Str} {N_Network : Addr} {bs_Network : List Value} {hdc_Network : Bool} {sn_Network : List Str} {sub_Network : List Value} {ab_Network : Bool} {col_Network : Option Bool} {dd_Network : Option Addr} {m0_Network m1_Network m2_Network m3_Network m5_Network : Option Value} {ni_Network : String}
    (xl_Network : K.lookup c_Network = some (excClassObj nm_Network qn_Network c_Network N_Network bs_Network [.type "object"] hdc_Network sn_Network sub_Network ab_Network col_Network dd_Network m0_Network m1_Network m2_Network m3_Network m5_Network ni_Network))
    {ec_Network : Value} {ed_Network : Option Addr} {es_Network : Array DictEntry} {en_Network : Nat} {el_Network : Array (Option Value)} (xn_Network : K.lookup N_Network = some ⟨ec_Network, ed_Network, .dict es_Network en_Network, el_Network⟩) (ss_Network : strKeys es_Network = true)
    (nl_Network : PySem.W.nsIn K N_Network "__len__" = some (some (.ref f_Network___len__)))
    (na_Network_own_steps : PySem.W.findIn K (.ref c_Network) "own_steps" = some none)
    (na_Network_own_width : PySem.W.findIn K (.ref c_Network) "own_width" = some none)
    (rd_Network : PySem.W.readsIn K c_Network (.type "type") = true) (ga_Network : PySem.W.specialIn K (.ref c_Network) "__getattribute__" = some (some (.builtin "type.__getattribute__")))
    {t_Network_MAX_STEPS : Tok} (cv_Network_MAX_STEPS : PySem.W.findCls K (.ref c_Network) (.type "type") "MAX_STEPS" = some (.val (.int 1000 t_Network_MAX_STEPS)))
    {t_Network_MAX_WIDTH : Tok} (cv_Network_MAX_WIDTH : PySem.W.findCls K (.ref c_Network) (.type "type") "MAX_WIDTH" = some (.val (.int 40 t_Network_MAX_WIDTH)))
    (z_abs : PySem.W.nsIn K mainGlobals "abs" = some none)
    (z_any : PySem.W.nsIn K mainGlobals "any" = some none)
    (z_bool : PySem.W.nsIn K mainGlobals "bool" = some none)
    (z_dict : PySem.W.nsIn K mainGlobals "dict" = some none)
    (z_enumerate : PySem.W.nsIn K mainGlobals "enumerate" = some none)
    (z_int : PySem.W.nsIn K mainGlobals "int" = some none)
    (z_isinstance : PySem.W.nsIn K mainGlobals "isinstance" = some none)
    (z_len : PySem.W.nsIn K mainGlobals "len" = some none)
    (z_list : PySem.W.nsIn K mainGlobals "list" = some none)
    (z_max : PySem.W.nsIn K mainGlobals "max" = some none)
    (z_min : PySem.W.nsIn K mainGlobals "min" = some none)
    (z_range : PySem.W.nsIn K mainGlobals "range" = some none)
    (z_repr : PySem.W.nsIn K mainGlobals "repr" = some none)
    (z_sorted : PySem.W.nsIn K mainGlobals "sorted" = some none)
    (z_sum : PySem.W.nsIn K mainGlobals "sum" = some none)
    (z_tuple : PySem.W.nsIn K mainGlobals "tuple" = some none) :
    ∃ (T : Tx K mg), ∀ base : Heap, K.In base → base.Ns mainGlobals mg → FnG l.prog w K mg base (L2.CX l.prog w) 6 fa (spM T.ca K m_law) := by
  have e : fa = f_law := by
    have := hfa.symm.trans (PySem.W.mg_of X G a_law)
    cases this
    rfl
  rw [e]
  let T : Tx K mg := {
    c_Network := c_Network
    g_Network := PySem.W.mg_of X G a_Network
    f__law_source := f__law_source
    d__law_source := PySem.W.fnOf "_law_source" "_law_source" (defArgs s__law_source) (defBody s__law_source) (defScope s__law_source) .none kV__law_source dc__law_source pm__law_source an__law_source cd__law_source ct__law_source
    F__law_source := fun_mk (st := s__law_source) l__law_source q__law_source k__law_source
    B__law_source := (fun_mk (st := s__law_source) l__law_source q__law_source k__law_source).binds (ps := ["_law_script", "_law_k"]) fun _ _ _ _ _ _ us hl => match us, hl with | [_, _], _ => rfl
    g__law_source := PySem.W.mg_of X G a__law_source
    f__law_draw := f__law_draw
    d__law_draw := PySem.W.fnOf "_law_draw" "_law_draw" (defArgs s__law_draw) (defBody s__law_draw) (defScope s__law_draw) .none kV__law_draw dc__law_draw pm__law_draw an__law_draw cd__law_draw ct__law_draw
    F__law_draw := fun_mk (st := s__law_draw) l__law_draw q__law_draw k__law_draw
    B__law_draw := (fun_mk (st := s__law_draw) l__law_draw q__law_draw k__law_draw).binds (ps := ["_law_source_here", "_law_count"]) fun _ _ _ _ _ _ us hl => match us, hl with | [_, _], _ => rfl
    g__law_draw := PySem.W.mg_of X G a__law_draw
    f__law_steps := f__law_steps
    d__law_steps := PySem.W.fnOf "_law_steps" "_law_steps" (defArgs s__law_steps) (defBody s__law_steps) (defScope s__law_steps) .none kV__law_steps dc__law_steps pm__law_steps an__law_steps cd__law_steps ct__law_steps
    F__law_steps := fun_mk (st := s__law_steps) l__law_steps q__law_steps k__law_steps
    B__law_steps := (fun_mk (st := s__law_steps) l__law_steps q__law_steps k__law_steps).binds (ps := ["_law_source_here", "_law_width", "_law_most"]) fun _ _ _ _ _ _ us hl => match us, hl with | [_, _, _], _ => rfl
    g__law_steps := PySem.W.mg_of X G a__law_steps
    f_is_integer := f_is_integer
    d_is_integer := PySem.W.fnOf "is_integer" "is_integer" (defArgs s_is_integer) (defBody s_is_integer) (defScope s_is_integer) .none kV_is_integer dc_is_integer pm_is_integer an_is_integer cd_is_integer ct_is_integer
    F_is_integer := fun_mk (st := s_is_integer) l_is_integer q_is_integer k_is_integer
    B_is_integer := (fun_mk (st := s_is_integer) l_is_integer q_is_integer k_is_integer).binds (ps := ["value", "low", "high"]) fun _ _ _ _ _ _ us hl => match us, hl with | [_, _, _], _ => rfl
    g_is_integer := PySem.W.mg_of X G a_is_integer
    f_check_width := f_check_width
    d_check_width := PySem.W.fnOf "check_width" "check_width" (defArgs s_check_width) (defBody s_check_width) (defScope s_check_width) .none kV_check_width dc_check_width pm_check_width an_check_width cd_check_width ct_check_width
    F_check_width := fun_mk (st := s_check_width) l_check_width q_check_width k_check_width
    B_check_width := (fun_mk (st := s_check_width) l_check_width q_check_width k_check_width).binds (ps := ["width"]) fun _ _ _ _ _ _ us hl => match us, hl with | [_], _ => rfl
    g_check_width := PySem.W.mg_of X G a_check_width
    f_check_steps := f_check_steps
    d_check_steps := PySem.W.fnOf "check_steps" "check_steps" (defArgs s_check_steps) (defBody s_check_steps) (defScope s_check_steps) .none kV_check_steps dc_check_steps pm_check_steps an_check_steps cd_check_steps ct_check_steps
    F_check_steps := fun_mk (st := s_check_steps) l_check_steps q_check_steps k_check_steps
    B_check_steps := (fun_mk (st := s_check_steps) l_check_steps q_check_steps k_check_steps).binds (ps := ["width", "steps"]) fun _ _ _ _ _ _ us hl => match us, hl with | [_, _], _ => rfl
    g_check_steps := PySem.W.mg_of X G a_check_steps
    f_Network___init__ := f_Network___init__
    d_Network___init__ := PySem.W.fnOf "__init__" "Network.__init__" (defArgs s_Network___init__) (defBody s_Network___init__) (defScope s_Network___init__) .none kV_Network___init__ dc_Network___init__ pm_Network___init__ an_Network___init__ cd_Network___init__ ct_Network___init__
    F_Network___init__ := fun_mk (st := s_Network___init__) l_Network___init__ q_Network___init__ k_Network___init__
    B_Network___init__ := (fun_mk (st := s_Network___init__) l_Network___init__ q_Network___init__ k_Network___init__).binds (ps := ["self", "width", "steps"]) fun _ _ _ _ _ _ us hl => match us, hl with | [_, _, _], _ => rfl
    f__law_late := f__law_late
    d__law_late := PySem.W.fnOf "_law_late" "_law_late" (defArgs s__law_late) (defBody s__law_late) (defScope s__law_late) .none kV__law_late dc__law_late pm__law_late an__law_late cd__law_late ct__law_late
    F__law_late := fun_mk (st := s__law_late) l__law_late q__law_late k__law_late
    B__law_late := (fun_mk (st := s__law_late) l__law_late q__law_late k__law_late).binds (ps := ["_law_source_here", "_law_steps_here"]) fun _ _ _ _ _ _ us hl => match us, hl with | [_, _], _ => rfl
    g__law_late := PySem.W.mg_of X G a__law_late
    f__law_changed := f__law_changed
    d__law_changed := PySem.W.fnOf "_law_changed" "_law_changed" (defArgs s__law_changed) (defBody s__law_changed) (defScope s__law_changed) .none kV__law_changed dc__law_changed pm__law_changed an__law_changed cd__law_changed ct__law_changed
    F__law_changed := fun_mk (st := s__law_changed) l__law_changed q__law_changed k__law_changed
    B__law_changed := (fun_mk (st := s__law_changed) l__law_changed q__law_changed k__law_changed).binds (ps := ["_law_source_here", "_law_rows"]) fun _ _ _ _ _ _ us hl => match us, hl with | [_, _], _ => rfl
    g__law_changed := PySem.W.mg_of X G a__law_changed
    f_Network___len__ := f_Network___len__
    d_Network___len__ := PySem.W.fnOf "__len__" "Network.__len__" (defArgs s_Network___len__) (defBody s_Network___len__) (defScope s_Network___len__) .none kV_Network___len__ dc_Network___len__ pm_Network___len__ an_Network___len__ cd_Network___len__ ct_Network___len__
    F_Network___len__ := fun_mk (st := s_Network___len__) l_Network___len__ q_Network___len__ k_Network___len__
    B_Network___len__ := (fun_mk (st := s_Network___len__) l_Network___len__ q_Network___len__ k_Network___len__).binds (ps := ["self"]) fun _ _ _ _ _ _ us hl => match us, hl with | [_], _ => rfl
    f_round_by_index := f_round_by_index
    d_round_by_index := PySem.W.fnOf "round_by_index" "round_by_index" (defArgs s_round_by_index) (defBody s_round_by_index) (defScope s_round_by_index) .none kV_round_by_index dc_round_by_index pm_round_by_index an_round_by_index cd_round_by_index ct_round_by_index
    F_round_by_index := fun_mk (st := s_round_by_index) l_round_by_index q_round_by_index k_round_by_index
    B_round_by_index := (fun_mk (st := s_round_by_index) l_round_by_index q_round_by_index k_round_by_index).binds (ps := ["network", "value"]) fun _ _ _ _ _ _ us hl => match us, hl with | [_, _], _ => rfl
    g_round_by_index := PySem.W.mg_of X G a_round_by_index
    f_is_schedule := f_is_schedule
    d_is_schedule := PySem.W.fnOf "is_schedule" "is_schedule" (defArgs s_is_schedule) (defBody s_is_schedule) (defScope s_is_schedule) .none kV_is_schedule dc_is_schedule pm_is_schedule an_is_schedule cd_is_schedule ct_is_schedule
    F_is_schedule := fun_mk (st := s_is_schedule) l_is_schedule q_is_schedule k_is_schedule
    B_is_schedule := (fun_mk (st := s_is_schedule) l_is_schedule q_is_schedule k_is_schedule).binds (ps := ["network", "value"]) fun _ _ _ _ _ _ us hl => match us, hl with | [_, _], _ => rfl
    g_is_schedule := PySem.W.mg_of X G a_is_schedule
    f__law_is_schedule := f__law_is_schedule
    d__law_is_schedule := PySem.W.fnOf "_law_is_schedule" "_law_is_schedule" (defArgs s__law_is_schedule) (defBody s__law_is_schedule) (defScope s__law_is_schedule) .none kV__law_is_schedule dc__law_is_schedule pm__law_is_schedule an__law_is_schedule cd__law_is_schedule ct__law_is_schedule
    F__law_is_schedule := fun_mk (st := s__law_is_schedule) l__law_is_schedule q__law_is_schedule k__law_is_schedule
    B__law_is_schedule := (fun_mk (st := s__law_is_schedule) l__law_is_schedule q__law_is_schedule k__law_is_schedule).binds (ps := ["_law_steps_here", "_law_value"]) fun _ _ _ _ _ _ us hl => match us, hl with | [_, _], _ => rfl
    g__law_is_schedule := PySem.W.mg_of X G a__law_is_schedule
    f_Network_empty := f_Network_empty
    d_Network_empty := PySem.W.fnOf "empty" "Network.empty" (defArgs s_Network_empty) (defBody s_Network_empty) (defScope s_Network_empty) .none kV_Network_empty dc_Network_empty pm_Network_empty an_Network_empty cd_Network_empty ct_Network_empty
    F_Network_empty := fun_mk (st := s_Network_empty) l_Network_empty q_Network_empty k_Network_empty
    B_Network_empty := (fun_mk (st := s_Network_empty) l_Network_empty q_Network_empty k_Network_empty).binds (ps := ["cls", "width"]) fun _ _ _ _ _ _ us hl => match us, hl with | [_, _], _ => rfl
    p_Network_empty := p_Network_empty
    cm_Network_empty := ⟨a_Network_empty, ⟨rs_Network_empty, rc_Network_empty⟩, i_Network_empty⟩
    f_law := f_law
    d_law := PySem.W.fnOf "law" "law" (defArgs s_law) (defBody s_law) (defScope s_law) .none kV_law dc_law pm_law an_law cd_law ct_law
    F_law := fun_mk (st := s_law) l_law q_law k_law
    B_law := (fun_mk (st := s_law) l_law q_law k_law).binds (ps := ["_law_script"]) fun _ _ _ _ _ _ us hl => match us, hl with | [_], _ => rfl
    g_law := PySem.W.mg_of X G a_law
    f_Network_steps := f_Network_steps
    d_Network_steps := PySem.W.fnOf "steps" "Network.steps" (defArgs s_Network_steps) (defBody s_Network_steps) (defScope s_Network_steps) .none kV_Network_steps dc_Network_steps pm_Network_steps an_Network_steps cd_Network_steps ct_Network_steps
    F_Network_steps := fun_mk (st := s_Network_steps) l_Network_steps q_Network_steps k_Network_steps
    B_Network_steps := (fun_mk (st := s_Network_steps) l_Network_steps q_Network_steps k_Network_steps).binds (ps := ["self"]) fun _ _ _ _ _ _ us hl => match us, hl with | [_], _ => rfl
    p_Network_steps := p_Network_steps
    pr_Network_steps := ⟨a_Network_steps, ge_Network_steps, ta_Network_steps, rs_Network_steps, rc_Network_steps⟩
    cl_Network := ⟨pg_Network, hd_Network, po_Network, sa_Network⟩
    mk_Network := ⟨mk_Network, a_Network___init__, i_Network___init__, kc_Network⟩
    ol_Network := ⟨_, nm_Network, qn_Network, N_Network, bs_Network, hdc_Network, sn_Network, sub_Network, ab_Network, col_Network, dd_Network, m0_Network, m1_Network, m2_Network, m3_Network, m5_Network, ni_Network, xl_Network, nsOk_of xn_Network ss_Network, nl_Network, l_Network___len__, rfl⟩
    na_Network_own_steps := na_Network_own_steps
    na_Network_own_width := na_Network_own_width
    mc_Network := .type "type"
    rd_Network := ⟨rd_Network, ga_Network⟩
    v_Network_MAX_STEPS := .int 1000 t_Network_MAX_STEPS
    cv_Network_MAX_STEPS := ⟨cv_Network_MAX_STEPS, _, rfl⟩
    v_Network_MAX_WIDTH := .int 40 t_Network_MAX_WIDTH
    cv_Network_MAX_WIDTH := ⟨cv_Network_MAX_WIDTH, _, rfl⟩
    z_abs := PySem.W.mg_none_of X G z_abs
    z_any := PySem.W.mg_none_of X G z_any
    z_bool := PySem.W.mg_none_of X G z_bool
    z_dict := PySem.W.mg_none_of X G z_dict
    z_enumerate := PySem.W.mg_none_of X G z_enumerate
    z_int := PySem.W.mg_none_of X G z_int
    z_isinstance := PySem.W.mg_none_of X G z_isinstance
    z_len := PySem.W.mg_none_of X G z_len
    z_list := PySem.W.mg_none_of X G z_list
    z_max := PySem.W.mg_none_of X G z_max
    z_min := PySem.W.mg_none_of X G z_min
    z_range := PySem.W.mg_none_of X G z_range
    z_repr := PySem.W.mg_none_of X G z_repr
    z_sorted := PySem.W.mg_none_of X G z_sorted
    z_sum := PySem.W.mg_none_of X G z_sum
    z_tuple := PySem.W.mg_none_of X G z_tuple }
  exact ⟨T, fun base _ _ => ok_law T⟩
theorem walk_fact {P : Program} {w : World} {K : PySem.W.Frag} {mg : Str → Option Value} {fa : Addr} (h : ∃ (T : Tx K mg), ∀ base : Heap, K.In base → base.Ns mainGlobals mg → FnG P w K mg base (L2.CX P w) 6 fa (spM T.ca K m_law)) :
    ∃ (ca : Nat → Addr), ∀ base : Heap, K.In base → base.Ns mainGlobals mg → FnG P w K mg base (L2.CX P w) 6 fa (spM ca K m_law) :=
  let ⟨T, h1⟩ := h
  ⟨T.ca, h1⟩
end Lw54

namespace Lw54
open PySem (Str)
open DL Nw
local macro_rules | `(tactic| walk_at "g") => `(tactic| first | exact rfl | (with_reducible assumption))
local macro_rules | `(tactic| walk_at "s") => `(tactic| first | (with_reducible exact set_0) | ((with_reducible apply set_s); walk_at "s") | (with_reducible assumption) | exact rfl)
local macro_rules | `(tactic| walk_at "fl") => `(tactic| first | (with_reducible exact nums_frz _) | (with_reducible exact fzL_n) | ((with_reducible apply fzL_c); walk_at "f"; walk_at "fl") | (with_reducible assumption))
local macro_rules | `(tactic| walk_at "f") => `(tactic| first | (with_reducible exact fz_i) | (with_reducible exact fz_b) | (with_reducible exact fz_n) | (with_reducible exact fz_s) | (with_reducible exact fz_l) | (with_reducible exact fz_t) | ((with_reducible apply fz_lst); walk_at "fl") | ((with_reducible apply fz_tup); walk_at "fl") | (with_reducible assumption) | exact rfl)
local macro_rules | `(tactic| walk_at "k") => `(tactic| first | (with_reducible assumption) | (with_reducible exact rfl) | omega | (intro z; omega) | decide)
local macro_rules | `(tactic| walk_at "d") => `(tactic| first | (with_reducible exact od_val) | (with_reducible exact od_newL) | (with_reducible exact od_newT) | ((with_reducible apply od_eq); first | (with_reducible exact rfl) | ((with_reducible apply nbl_n); walk_at "k") | ((with_reducible apply bl_n); walk_at "k") | ((with_reducible apply bl_y); walk_at "k") | ((with_reducible apply nbl_y); walk_at "k")))
local macro_rules | `(tactic| walk_at "h") => `(tactic| first | (with_reducible assumption) | (simp only [List.nil_append, List.cons_append]; with_reducible assumption))
local macro_rules | `(tactic| walk_at "o") => `(tactic| first | (with_reducible assumption) | (with_reducible exact add_i) | (with_reducible exact sub_i) | (with_reducible exact lt_i) | (with_reducible exact le_i) | (with_reducible exact gt_i) | (with_reducible exact ge_i) | (with_reducible exact int_i) | (with_reducible exact int_b) | (with_reducible exact abs_i) | (with_reducible exact neg_i) | (with_reducible exact oLen_l) | (with_reducible exact oLen_scr _) | (with_reducible exact len_t) | (with_reducible exact tup_t) | (with_reducible exact oSorted_l) | (with_reducible exact oSum_nums _ _) | (with_reducible exact eq_of (pEq_int _ _)) | (with_reducible exact ne_of (pNe_int _ _)) | (with_reducible exact eq_of (pEq_lst _ _ _ _)) | (with_reducible exact ne_of (pNe_lst _ _ _ _)) | (with_reducible exact eq_of (pEq_tup _ _)) | (with_reducible exact ne_of (pNe_tup _ _)) | (with_reducible exact eq_of (pEq_bl _ _)) | (with_reducible exact ne_of (pNe_bl _ _)) | ((with_reducible apply lst_o); omega) | ((with_reducible apply lst_t); omega) | ((with_reducible apply tup_l); omega) | ((with_reducible apply oMod_v); omega) | ((with_reducible apply oDiv_v); omega; omega) | ((with_reducible apply oDiv_w); omega; omega) | ((with_reducible apply oMul_v); omega) | ((with_reducible apply oMul_l); omega) | ((with_reducible apply oIx_nums); omega; omega) | ((with_reducible apply oIx_tup); omega; omega))
local macro_rules | `(tactic| walk_at "a") => `(tactic| first | (with_reducible exact xANil) | ((with_reducible apply xACons); walk_at "e"; walk_at "a"))
local macro_rules | `(tactic| walk_at "it") => `(tactic| first | (with_reducible exact lst_it) | (with_reducible exact tup_it) | exact rfl)
local macro_rules | `(tactic| walk_at "cd") => `(tactic| first | (with_reducible exact nums_colds _) | (with_reducible exact colds_range _ _) | (with_reducible assumption) | exact rfl)
local macro_rules | `(tactic| walk_at "w") => `(tactic| first | ((with_reducible apply wE); walk_at "e"; walk_at "it"; walk_at "cd") | (with_reducible assumption))
local macro_rules | `(tactic| walk_at "e") => `(tactic| first | (with_reducible assumption) | (with_reducible exact xC) | ((with_reducible apply xN); walk_at "g"; exact rfl) | ((with_reducible apply xNf); walk_at "g"; exact rfl; walk_at "f"; walk_at "s") | ((with_reducible apply xMv); walk_at "g"; walk_at "s") | ((with_reducible apply xOvv); walk_at "e"; walk_at "e"; walk_at "o"; walk_at "d") | ((with_reducible apply xOvs); walk_at "e"; walk_at "g"; walk_at "o"; walk_at "d") | ((with_reducible apply xOsv); walk_at "g"; walk_at "e"; walk_at "g"; walk_at "o"; walk_at "d") | ((with_reducible apply xOss); walk_at "g"; walk_at "g"; walk_at "o"; walk_at "d") | ((with_reducible apply xOv); walk_at "e"; walk_at "o"; walk_at "d") | ((with_reducible apply xOs); walk_at "g"; walk_at "o"; walk_at "d") | ((with_reducible apply xCall); walk_at "a"; walk_at "h") | ((with_reducible apply xCallL); walk_at "a"; walk_at "g"; walk_at "a"; walk_at "g"; exact rfl; walk_at "h"; exact rfl; walk_at "s") | ((with_reducible apply xCallLc); walk_at "a"; walk_at "g"; walk_at "a"; walk_at "g"; exact rfl; walk_at "h") | ((with_reducible apply xMake); walk_at "a"; walk_at "h") | ((with_reducible apply xFz); walk_at "e"; walk_at "f") | ((with_reducible apply xMth); walk_at "e"; walk_at "m"; walk_at "a"; walk_at "h") | ((with_reducible apply xLst); walk_at "a"; exact rfl) | ((with_reducible apply xTup); walk_at "a"; exact rfl; walk_at "fl") | ((with_reducible apply xNot); walk_at "e") | ((with_reducible apply xAndB); walk_at "e"; walk_at "e") | ((with_reducible apply xOrB); walk_at "e"; walk_at "e") | ((with_reducible apply xIfT); walk_at "c"; walk_at "e") | ((with_reducible apply xIfF); walk_at "c"; walk_at "e") | ((with_reducible apply xApp); walk_at "g"; exact rfl; walk_at "e"; walk_at "g"; walk_at "n"; walk_at "s") | ((with_reducible apply xExt); walk_at "g"; exact rfl; walk_at "e"; walk_at "g"; walk_at "n"; walk_at "s") | ((with_reducible apply xExtT); walk_at "g"; exact rfl; walk_at "e"; walk_at "g"; walk_at "n"; walk_at "s") | ((with_reducible apply xMtS); walk_at "g"; exact rfl; walk_at "g"; walk_at "o"; walk_at "d") | ((with_reducible apply xEqI); walk_at "e"; walk_at "e"; exact rfl; exact rfl; walk_at "h"; walk_at "i") | ((with_reducible apply xLenI); walk_at "e"; exact rfl; walk_at "h"; walk_at "n"))
local macro_rules | `(tactic| walk_at "i") => `(tactic| first | exact rfl | (show D.bl (decide _) = _; apply bl_y; walk_at "k") | (show D.bl (!decide _) = _; apply nbl_n; walk_at "k"))
local macro_rules | `(tactic| walk_at "n") => `(tactic| first | (simp only [nums_len, List.length_append, List.length_cons, List.length_nil]; omega) | omega | exact rfl)
local macro_rules | `(tactic| walk_at "c") => `(tactic| first | ((with_reducible apply cE); walk_at "e") | ((with_reducible apply cNotF); walk_at "c") | ((with_reducible apply cNotT); walk_at "c") | ((with_reducible apply cOrT); walk_at "c") | ((with_reducible apply cAndF); walk_at "c") | ((with_reducible apply cOrF); walk_at "c"; walk_at "c") | ((with_reducible apply cAndT); walk_at "c"; walk_at "c"))
local macro_rules | `(tactic| walk_at "t") => `(tactic| first | ((with_reducible apply gN_r); walk_at "s") | ((with_reducible apply gIx_r); exact rfl; walk_at "g"; walk_at "e"; walk_at "g"; walk_at "j"; walk_at "s"))
local macro_rules | `(tactic| walk_at "j") => `(tactic| first | exact rfl | (simp only [nums_len]; apply ixN_nat <;> omega))
local macro_rules | `(tactic| walk_at "z") => `(tactic| first | ((with_reducible apply zAsg); walk_at "e"; walk_at "t") | ((with_reducible apply zExpr); walk_at "e") | ((with_reducible apply zRet); walk_at "e") | ((with_reducible apply zPar); walk_at "a"; walk_at "s"; walk_at "s") | ((with_reducible apply zAug); walk_at "g"; exact rfl; walk_at "e"; walk_at "o"; walk_at "s") | (with_reducible exact zSkip) | ((with_reducible apply zNo); walk_at "c"; walk_at "z") | ((with_reducible apply zYes); walk_at "c"; walk_at "z") | ((with_reducible apply zSeq); walk_at "z"; walk_at "z") | ((with_reducible apply zSeqR); walk_at "z"))
local macro_rules | `(tactic| walk_at "m") => `(tactic| first | (with_reducible assumption) | exact rfl)
theorem fw_ne : (("own_width" : Str) = "own_steps") = False := eq_false (by decide +kernel)
theorem fs_ne : (("own_steps" : Str) = "own_width") = False := eq_false (by decide +kernel)
theorem fs_beq : (("own_steps" : Str) == "own_width") = false := by decide +kernel
abbrev net (o : Bool) (w : Int) (ss : List Int) : D := .ins o 0 [("own_width", .int w), ("own_steps", .tup (nums ss))]
theorem is_integer_ok (a lo hi : Int) : m_is_integer [.int a, .int lo, .int hi] = .ok (.bl (decide (lo ≤ a ∧ a ≤ hi))) [some (.int a), some (.int lo), some (.int hi)] := by
  by_cases h1 : lo ≤ a <;> by_cases h2 : a ≤ hi <;> simp [m_is_integer, b_is_integer, h1, h2, fn, sSeq, SR.thn, sAsg, sExpr, sRet, sRetN, sIf, sNext, sFail, sBrk, sCont, Res.toS, Res.toN, Res.bind, tE, tNotM, tOrM, tAndM, tYesM, eC, eN, eMv, eOp, opds, eAnd, eOr, eNot, eIf, eChain, aNil, aCons, eLst, eTup, eCall, eCallL, eFz, eLc, eLc2, eApp, isLst, wipeS, eMake, eEqI, insC, keepL, getS, gN, gIx, gT, gTupM, sPar, sFor, iR1, iR2, iRD, iE, iEn, iEnT, iEnA, iEA, oIsiB, noScr, tyName, f2, pLe, pLt, pGe, pGt, oAdd, oSub, oMul, oMod, oDiv, oPow, oNeg, oAbs, oInt, oMax2, oMin2, oLen, items, lstItems, tupItems, hot, cold, Out.d, frz, frzL, frzF, List.range, List.range.loop, isN, oIsN, oNotN, oIsB, oNotB, pEq_int, pNe_int, pEq_bl, pNe_bl, pEq_lst, pNe_lst, pEq_tup, pNe_tup, kb_NoneType_int, kb_NoneType_bool, kb_NoneType_list, kb_NoneType_tuple, kb_NoneType_str, kb_bool_int, kb_bool_bool, kb_bool_list, kb_bool_tuple, kb_bool_str, kb_int_int, kb_int_bool, kb_int_list, kb_int_tuple, kb_int_str, kb_str_int, kb_str_bool, kb_str_list, kb_str_tuple, kb_str_str, kb_list_int, kb_list_bool, kb_list_list, kb_list_tuple, kb_list_str, kb_tuple_int, kb_tuple_bool, kb_tuple_list, kb_tuple_tuple, kb_tuple_str, kb_dict_int, kb_dict_bool, kb_dict_list, kb_dict_tuple, kb_dict_str]
theorem check_width_ok {w : Int} (h1 : 1 ≤ w) (h2 : w ≤ 40) : m_check_width [.int w] = .ok .non [some (.int w)] := by
  simp [m_check_width, b_check_width, is_integer_ok, h1, h2, fn, sSeq, SR.thn, sAsg, sExpr, sRet, sRetN, sIf, sNext, sFail, sBrk, sCont, Res.toS, Res.toN, Res.bind, tE, tNotM, tOrM, tAndM, tYesM, eC, eN, eMv, eOp, opds, eAnd, eOr, eNot, eIf, eChain, aNil, aCons, eLst, eTup, eCall, eCallL, eFz, eLc, eLc2, eApp, isLst, wipeS, eMake, eEqI, insC, keepL, getS, gN, gIx, gT, gTupM, sPar, sFor, iR1, iR2, iRD, iE, iEn, iEnT, iEnA, iEA, oIsiB, noScr, tyName, f2, pLe, pLt, pGe, pGt, oAdd, oSub, oMul, oMod, oDiv, oPow, oNeg, oAbs, oInt, oMax2, oMin2, oLen, items, lstItems, tupItems, hot, cold, Out.d, frz, frzL, frzF, List.range, List.range.loop, isN, oIsN, oNotN, oIsB, oNotB, pEq_int, pNe_int, pEq_bl, pNe_bl, pEq_lst, pNe_lst, pEq_tup, pNe_tup, kb_NoneType_int, kb_NoneType_bool, kb_NoneType_list, kb_NoneType_tuple, kb_NoneType_str, kb_bool_int, kb_bool_bool, kb_bool_list, kb_bool_tuple, kb_bool_str, kb_int_int, kb_int_bool, kb_int_list, kb_int_tuple, kb_int_str, kb_str_int, kb_str_bool, kb_str_list, kb_str_tuple, kb_str_str, kb_list_int, kb_list_bool, kb_list_list, kb_list_tuple, kb_list_str, kb_tuple_int, kb_tuple_bool, kb_tuple_list, kb_tuple_tuple, kb_tuple_str, kb_dict_int, kb_dict_bool, kb_dict_list, kb_dict_tuple, kb_dict_str]
theorem okS_at {w : Int} {ss : List Int} {i : Nat} {s : Int} (h : okS w ss) (e : ss[i]? = some s) : 1 ≤ s ∧ s ≤ w - 1 := h s (List.mem_of_getElem? e)
theorem check_steps_ok {w : Int} {ss : List Int} (h : okS w ss) (hl : ss.length ≤ 1000) : m_check_steps [.int w, .lst false (nums ss)] = .ok .non [some (.int w), some (.lst false (nums ss))] := by
  obtain ⟨st', e, x, y, hst⟩ := forD_ok (g := fg1_check_steps) (body := fb1_check_steps) (fun _ st => ∃ x y, st = [some (.int w), some (.lst false (nums ss)), x, y]) (enumD 0 (nums ss)) 0
    [some (.int w), some (.lst false (nums ss)), none, none] ⟨none, none, rfl⟩ (fun i d st e hI => by
      obtain ⟨x, y, rfl⟩ := hI
      obtain ⟨d', e1, rfl⟩ := enumD_get e
      obtain ⟨s, e2, rfl⟩ := nums_get e1
      obtain ⟨h1, h2⟩ := okS_at h e2
      refine ⟨_, [some (.int w), some (.lst false (nums ss)), some (.int ((0 + i : Nat) : Int)), some (.int s)], rfl, .inl ?_, _, _, rfl⟩
      have h3 : s ≤ w - 1 := h2
      simp [fb1_check_steps, is_integer_ok, h1, h3, fn, sSeq, SR.thn, sAsg, sExpr, sRet, sRetN, sIf, sNext, sFail, sBrk, sCont, Res.toS, Res.toN, Res.bind, tE, tNotM, tOrM, tAndM, tYesM, eC, eN, eMv, eOp, opds, eAnd, eOr, eNot, eIf, eChain, aNil, aCons, eLst, eTup, eCall, eCallL, eFz, eLc, eLc2, eApp, isLst, wipeS, eMake, eEqI, insC, keepL, getS, gN, gIx, gT, gTupM, sPar, sFor, iR1, iR2, iRD, iE, iEn, iEnT, iEnA, iEA, oIsiB, noScr, tyName, f2, pLe, pLt, pGe, pGt, oAdd, oSub, oMul, oMod, oDiv, oPow, oNeg, oAbs, oInt, oMax2, oMin2, oLen, items, lstItems, tupItems, hot, cold, Out.d, frz, frzL, frzF, List.range, List.range.loop, isN, oIsN, oNotN, oIsB, oNotB, pEq_int, pNe_int, pEq_bl, pNe_bl, pEq_lst, pNe_lst, pEq_tup, pNe_tup, kb_NoneType_int, kb_NoneType_bool, kb_NoneType_list, kb_NoneType_tuple, kb_NoneType_str, kb_bool_int, kb_bool_bool, kb_bool_list, kb_bool_tuple, kb_bool_str, kb_int_int, kb_int_bool, kb_int_list, kb_int_tuple, kb_int_str, kb_str_int, kb_str_bool, kb_str_list, kb_str_tuple, kb_str_str, kb_list_int, kb_list_bool, kb_list_list, kb_list_tuple, kb_list_str, kb_tuple_int, kb_tuple_bool, kb_tuple_list, kb_tuple_tuple, kb_tuple_str, kb_dict_int, kb_dict_bool, kb_dict_list, kb_dict_tuple, kb_dict_str])
  subst hst
  have h4 : ¬ (1000 < (ss.length : Int)) := by omega
  simp [m_check_steps, b_check_steps, oIsi2, nums_len, nums_colds, e, h4, fn, sSeq, SR.thn, sAsg, sExpr, sRet, sRetN, sIf, sNext, sFail, sBrk, sCont, Res.toS, Res.toN, Res.bind, tE, tNotM, tOrM, tAndM, tYesM, eC, eN, eMv, eOp, opds, eAnd, eOr, eNot, eIf, eChain, aNil, aCons, eLst, eTup, eCall, eCallL, eFz, eLc, eLc2, eApp, isLst, wipeS, eMake, eEqI, insC, keepL, getS, gN, gIx, gT, gTupM, sPar, sFor, iR1, iR2, iRD, iE, iEn, iEnT, iEnA, iEA, oIsiB, noScr, tyName, f2, pLe, pLt, pGe, pGt, oAdd, oSub, oMul, oMod, oDiv, oPow, oNeg, oAbs, oInt, oMax2, oMin2, oLen, items, lstItems, tupItems, hot, cold, Out.d, frz, frzL, frzF, List.range, List.range.loop, isN, oIsN, oNotN, oIsB, oNotB, pEq_int, pNe_int, pEq_bl, pNe_bl, pEq_lst, pNe_lst, pEq_tup, pNe_tup, kb_NoneType_int, kb_NoneType_bool, kb_NoneType_list, kb_NoneType_tuple, kb_NoneType_str, kb_bool_int, kb_bool_bool, kb_bool_list, kb_bool_tuple, kb_bool_str, kb_int_int, kb_int_bool, kb_int_list, kb_int_tuple, kb_int_str, kb_str_int, kb_str_bool, kb_str_list, kb_str_tuple, kb_str_str, kb_list_int, kb_list_bool, kb_list_list, kb_list_tuple, kb_list_str, kb_tuple_int, kb_tuple_bool, kb_tuple_list, kb_tuple_tuple, kb_tuple_str, kb_dict_int, kb_dict_bool, kb_dict_list, kb_dict_tuple, kb_dict_str]
theorem init_ok {w : Int} {ss : List Int} (h1 : 1 ≤ w) (h2 : w ≤ 40) (h : okS w ss) (hl : ss.length ≤ 1000) (o : Bool) : ∃ ps, m_Network___init__ [.ins true 0 [], .int w, .lst o (nums ss)] = .ok .non (some (net true w ss) :: ps) := by
  have h3 : ss.length ≤ 16777216 := by omega
  cases o <;> simp [m_Network___init__, b_Network___init__, check_width_ok h1 h2, check_steps_ok h hl, sFldM, oTuple, putD, fw_ne, fs_ne, nums_frz, nums_len, nums_colds, h3, net, fn, sSeq, SR.thn, sAsg, sExpr, sRet, sRetN, sIf, sNext, sFail, sBrk, sCont, Res.toS, Res.toN, Res.bind, tE, tNotM, tOrM, tAndM, tYesM, eC, eN, eMv, eOp, opds, eAnd, eOr, eNot, eIf, eChain, aNil, aCons, eLst, eTup, eCall, eCallL, eFz, eLc, eLc2, eApp, isLst, wipeS, eMake, eEqI, insC, keepL, getS, gN, gIx, gT, gTupM, sPar, sFor, iR1, iR2, iRD, iE, iEn, iEnT, iEnA, iEA, oIsiB, noScr, tyName, f2, pLe, pLt, pGe, pGt, oAdd, oSub, oMul, oMod, oDiv, oPow, oNeg, oAbs, oInt, oMax2, oMin2, oLen, items, lstItems, tupItems, hot, cold, Out.d, frz, frzL, frzF, List.range, List.range.loop, isN, oIsN, oNotN, oIsB, oNotB, pEq_int, pNe_int, pEq_bl, pNe_bl, pEq_lst, pNe_lst, pEq_tup, pNe_tup, kb_NoneType_int, kb_NoneType_bool, kb_NoneType_list, kb_NoneType_tuple, kb_NoneType_str, kb_bool_int, kb_bool_bool, kb_bool_list, kb_bool_tuple, kb_bool_str, kb_int_int, kb_int_bool, kb_int_list, kb_int_tuple, kb_int_str, kb_str_int, kb_str_bool, kb_str_list, kb_str_tuple, kb_str_str, kb_list_int, kb_list_bool, kb_list_list, kb_list_tuple, kb_list_str, kb_tuple_int, kb_tuple_bool, kb_tuple_list, kb_tuple_tuple, kb_tuple_str, kb_dict_int, kb_dict_bool, kb_dict_list, kb_dict_tuple, kb_dict_str]
theorem oFld_w {o : Bool} {w : Int} {ss : List Int} : oFld 0 "own_width" [net o w ss] = some (.val (.int w)) := by
  simp [oFld, cold, hot]
theorem oFld_s {o : Bool} {w : Int} {ss : List Int} : oFld 0 "own_steps" [net o w ss] = some (.val (.tup (nums ss))) := by
  simp [oFld, List.lookup, fs_beq, cold, hot]
theorem len_ok (w : Int) (ss : List Int) : ∃ ps, m_Network___len__ [net false w ss] = .ok (.int ss.length) ps := by
  simp [m_Network___len__, b_Network___len__, oFld_s, nums_len, fn, sSeq, SR.thn, sAsg, sExpr, sRet, sRetN, sIf, sNext, sFail, sBrk, sCont, Res.toS, Res.toN, Res.bind, tE, tNotM, tOrM, tAndM, tYesM, eC, eN, eMv, eOp, opds, eAnd, eOr, eNot, eIf, eChain, aNil, aCons, eLst, eTup, eCall, eCallL, eFz, eLc, eLc2, eApp, isLst, wipeS, eMake, eEqI, insC, keepL, getS, gN, gIx, gT, gTupM, sPar, sFor, iR1, iR2, iRD, iE, iEn, iEnT, iEnA, iEA, oIsiB, noScr, tyName, f2, pLe, pLt, pGe, pGt, oAdd, oSub, oMul, oMod, oDiv, oPow, oNeg, oAbs, oInt, oMax2, oMin2, oLen, items, lstItems, tupItems, hot, cold, Out.d, frz, frzL, frzF, List.range, List.range.loop, isN, oIsN, oNotN, oIsB, oNotB, pEq_int, pNe_int, pEq_bl, pNe_bl, pEq_lst, pNe_lst, pEq_tup, pNe_tup, kb_NoneType_int, kb_NoneType_bool, kb_NoneType_list, kb_NoneType_tuple, kb_NoneType_str, kb_bool_int, kb_bool_bool, kb_bool_list, kb_bool_tuple, kb_bool_str, kb_int_int, kb_int_bool, kb_int_list, kb_int_tuple, kb_int_str, kb_str_int, kb_str_bool, kb_str_list, kb_str_tuple, kb_str_str, kb_list_int, kb_list_bool, kb_list_list, kb_list_tuple, kb_list_str, kb_tuple_int, kb_tuple_bool, kb_tuple_list, kb_tuple_tuple, kb_tuple_str, kb_dict_int, kb_dict_bool, kb_dict_list, kb_dict_tuple, kb_dict_str]
theorem small62_nat {n : Nat} (h : n ≤ 1000) : small62 (n : Int) = true := by
  unfold small62
  exact decide_eq_true (by
      omega)
theorem draw_ok (a b m : Int) (h1 : 0 < m) (h2 : m < 9000) : ∃ r a' b', 0 ≤ r ∧ r < m ∧ m__law_draw [.lst true [.int a, .int b], .int m] = .ok (.int r) [some (.lst true [.int a', .int b']), some (.int m)] := by
  by_cases ha : 0 < a
  · refine ⟨a % m, a / m, b, Int.emod_nonneg _ (by omega), Int.emod_lt_of_pos _ h1, ?_⟩
    simp [m__law_draw, b__law_draw, ix2_0, ix2_1, ixN2_0, ixN2_1, ha, oMod_v h1, oDiv_v h1 h2, fn, sSeq, SR.thn, sAsg, sExpr, sRet, sRetN, sIf, sNext, sFail, sBrk, sCont, Res.toS, Res.toN, Res.bind, tE, tNotM, tOrM, tAndM, tYesM, eC, eN, eMv, eOp, opds, eAnd, eOr, eNot, eIf, eChain, aNil, aCons, eLst, eTup, eCall, eCallL, eFz, eLc, eLc2, eApp, isLst, wipeS, eMake, eEqI, insC, keepL, getS, gN, gIx, gT, gTupM, sPar, sFor, iR1, iR2, iRD, iE, iEn, iEnT, iEnA, iEA, oIsiB, noScr, tyName, f2, pLe, pLt, pGe, pGt, oAdd, oSub, oNeg, oAbs, oInt, oMax2, oMin2, oLen, items, lstItems, tupItems, hot, cold, Out.d, frz, frzL, frzF, List.range, List.range.loop, isN, oIsN, oNotN, oIsB, oNotB, pEq_int, pNe_int, pEq_bl, pNe_bl, pEq_lst, pNe_lst, pEq_tup, pNe_tup, kb_NoneType_int, kb_NoneType_bool, kb_NoneType_list, kb_NoneType_tuple, kb_NoneType_str, kb_bool_int, kb_bool_bool, kb_bool_list, kb_bool_tuple, kb_bool_str, kb_int_int, kb_int_bool, kb_int_list, kb_int_tuple, kb_int_str, kb_str_int, kb_str_bool, kb_str_list, kb_str_tuple, kb_str_str, kb_list_int, kb_list_bool, kb_list_list, kb_list_tuple, kb_list_str, kb_tuple_int, kb_tuple_bool, kb_tuple_list, kb_tuple_tuple, kb_tuple_str, kb_dict_int, kb_dict_bool, kb_dict_list, kb_dict_tuple, kb_dict_str]
  · have m1 := oMul_v (i := b) (j := 48271) (by omega)
    have m2 := oMod_v (i := b * 48271 + 11) (j := 2147483647) (by omega)
    have n0 : 0 ≤ (b * 48271 + 11) % 2147483647 := Int.emod_nonneg _ (by omega)
    have n1 : (b * 48271 + 11) % 2147483647 < 2147483647 := Int.emod_lt_of_pos _ (by omega)
    generalize (b * 48271 + 11) % 2147483647 = c at *
    have m3 := oMul_v (i := c) (j := c) (by omega)
    have m4 := oMod_v (i := c * c) (j := 2147483629) (by omega)
    have m5 := oDiv_v (i := c * c % 2147483629) (j := 16) (by omega) (by omega)
    have m6 := oMod_v (i := c * c % 2147483629 / 16) h1
    refine ⟨c * c % 2147483629 / 16 % m, a, c, Int.emod_nonneg _ (by omega), Int.emod_lt_of_pos _ h1, ?_⟩
    simp [m__law_draw, b__law_draw, ix2_0, ix2_1, ixN2_0, ixN2_1, ha, m1, m2, m3, m4, m5, m6, fn, sSeq, SR.thn, sAsg, sExpr, sRet, sRetN, sIf, sNext, sFail, sBrk, sCont, Res.toS, Res.toN, Res.bind, tE, tNotM, tOrM, tAndM, tYesM, eC, eN, eMv, eOp, opds, eAnd, eOr, eNot, eIf, eChain, aNil, aCons, eLst, eTup, eCall, eCallL, eFz, eLc, eLc2, eApp, isLst, wipeS, eMake, eEqI, insC, keepL, getS, gN, gIx, gT, gTupM, sPar, sFor, iR1, iR2, iRD, iE, iEn, iEnT, iEnA, iEA, oIsiB, noScr, tyName, f2, pLe, pLt, pGe, pGt, oAdd, oSub, oNeg, oAbs, oInt, oMax2, oMin2, oLen, items, lstItems, tupItems, hot, cold, Out.d, frz, frzL, frzF, List.range, List.range.loop, isN, oIsN, oNotN, oIsB, oNotB, pEq_int, pNe_int, pEq_bl, pNe_bl, pEq_lst, pNe_lst, pEq_tup, pNe_tup, kb_NoneType_int, kb_NoneType_bool, kb_NoneType_list, kb_NoneType_tuple, kb_NoneType_str, kb_bool_int, kb_bool_bool, kb_bool_list, kb_bool_tuple, kb_bool_str, kb_int_int, kb_int_bool, kb_int_list, kb_int_tuple, kb_int_str, kb_str_int, kb_str_bool, kb_str_list, kb_str_tuple, kb_str_str, kb_list_int, kb_list_bool, kb_list_list, kb_list_tuple, kb_list_str, kb_tuple_int, kb_tuple_bool, kb_tuple_list, kb_tuple_tuple, kb_tuple_str, kb_dict_int, kb_dict_bool, kb_dict_list, kb_dict_tuple, kb_dict_str]
theorem source_ok (l : List Int) (k : Int) (h0 : 0 ≤ k) (hk : k < 100) (hl : l.length ≤ 63) : ∃ a b ps, m__law_source [.scr l, .int k] = .ok (.lst true [.int a, .int b]) ps := by
  obtain ⟨kk, e1⟩ := oS01_scr l 63 hl
  have e2 := oSum_nums true kk
  generalize kk.sum = S at *
  have e3 := oMul_l (i := 7) (j := S) (by omega)
  have step : ∀ cell : Int, ∃ a b st, (sSeq (sAsg (eOp oAbs [.s 2]) (gN 3)) (sSeq (sAsg (eOp oMod [.v (eOp oMul [.v (eOp oAdd [.v (eOp oAdd [.v (eOp oAdd [.v (eOp oMod [.s 3, .v (eC (.int 2147483629))]), .v (eOp oMul [.v (eOp oMul [.v (eC (.int 7919)), .s 1]), .s 1])]), .v (eOp oMul [.v (eC (.int 31)), .s 1])]), .v (eC (.int 17))]), .v (eC (.int 48271))]), .v (eC (.int 2147483647))]) (gN 4)) (sRet (eLst (aCons (eOp oMul [.s 3, .v (eOp oInt [.v (eOp (f2 pGe) [.s 3, .v (eOp oPow [.v (eC (.int 10)), .v (eC (.int 18))])])])]) (aCons (eOp oMod [.v (eOp oMul [.s 4, .s 4]), .v (eC (.int 2147483629))]) aNil)))))) [some (.scr l), some (.int k), some (.int cell), none, none] = .ret (.lst true [.int a, .int b]) st := fun cell => by
    generalize hz : (if cell < 0 then -cell else cell) = z
    have m1 := oMod_v (i := z) (j := 2147483629) (by omega)
    have m2 := oMul_l (i := 7919) (j := k) (by omega)
    have m3 := oMul_v (i := 7919 * k) (j := k) (by omega)
    have m4 := oMul_l (i := 31) (j := k) (by omega)
    have m5 := oMul_v (i := z % 2147483629 + 7919 * k * k + 31 * k + 17) (j := 48271) (by omega)
    have m6 := oMod_v (i := (z % 2147483629 + 7919 * k * k + 31 * k + 17) * 48271) (j := 2147483647) (by omega)
    have n0 : 0 ≤ (z % 2147483629 + 7919 * k * k + 31 * k + 17) * 48271 % 2147483647 := Int.emod_nonneg _ (by omega)
    have n1 : (z % 2147483629 + 7919 * k * k + 31 * k + 17) * 48271 % 2147483647 < 2147483647 := Int.emod_lt_of_pos _ (by omega)
    generalize (z % 2147483629 + 7919 * k * k + 31 * k + 17) * 48271 % 2147483647 = c at *
    have m7 := oMul_v (i := c) (j := c) (by omega)
    have m8 := oMod_v (i := c * c) (j := 2147483629) (by omega)
    have m9 := oPow_v (i := 10) (j := 18) (by omega) (by decide)
    generalize (10 : Int) ^ (18 : Int).toNat = t at *
    have m10 := oMul_v (i := z) (j := if t ≤ z then 1 else 0) (by split <;> omega)
    refine ⟨z * (if t ≤ z then 1 else 0), c * c % 2147483629, [some (.scr l), some (.int k), some (.int cell), some (.int z), some (.int c)], ?_⟩
    simp [hz, m1, m2, m3, m4, m5, m6, m7, m8, m9, m10, fn, sSeq, SR.thn, sAsg, sExpr, sRet, sRetN, sIf, sNext, sFail, sBrk, sCont, Res.toS, Res.toN, Res.bind, tE, tNotM, tOrM, tAndM, tYesM, eC, eN, eMv, eOp, opds, eAnd, eOr, eNot, eIf, eChain, aNil, aCons, eLst, eTup, eCall, eCallL, eFz, eLc, eLc2, eApp, isLst, wipeS, eMake, eEqI, insC, keepL, getS, gN, gIx, gT, gTupM, sPar, sFor, iR1, iR2, iRD, iE, iEn, iEnT, iEnA, iEA, oIsiB, noScr, tyName, f2, pLe, pLt, pGe, pGt, oAdd, oSub, oNeg, oAbs, oInt, oMax2, oMin2, oLen, items, lstItems, tupItems, hot, cold, Out.d, frz, frzL, frzF, List.range, List.range.loop, isN, oIsN, oNotN, oIsB, oNotB, pEq_int, pNe_int, pEq_bl, pNe_bl, pEq_lst, pNe_lst, pEq_tup, pNe_tup, kb_NoneType_int, kb_NoneType_bool, kb_NoneType_list, kb_NoneType_tuple, kb_NoneType_str, kb_bool_int, kb_bool_bool, kb_bool_list, kb_bool_tuple, kb_bool_str, kb_int_int, kb_int_bool, kb_int_list, kb_int_tuple, kb_int_str, kb_str_int, kb_str_bool, kb_str_list, kb_str_tuple, kb_str_str, kb_list_int, kb_list_bool, kb_list_list, kb_list_tuple, kb_list_str, kb_tuple_int, kb_tuple_bool, kb_tuple_list, kb_tuple_tuple, kb_tuple_str, kb_dict_int, kb_dict_bool, kb_dict_list, kb_dict_tuple, kb_dict_str]
  by_cases hkl : k < (l.length : Int)
  · have e4 := oIx_scr (l := l) (i := k) h0 hkl
    obtain ⟨a, b, st, e5⟩ := step (l.getD k.toNat 0)
    generalize l.getD k.toNat 0 = cell at *
    have q1 : (sAsg (eOp oAdd [.v (eOp oMul [.v (eC (.int 7)), .v (eOp oSum [.v (eOp oS01 [.s 0, .v (eC (.int 63))])])]), .s 1]) (gN 2)) [some (.scr l), some (.int k), none, none, none] = .next [some (.scr l), some (.int k), some (.int (7 * S + k)), none, none] := by
      simp [e1, e2, e3, fn, sSeq, SR.thn, sAsg, sExpr, sRet, sRetN, sIf, sNext, sFail, sBrk, sCont, Res.toS, Res.toN, Res.bind, tE, tNotM, tOrM, tAndM, tYesM, eC, eN, eMv, eOp, opds, eAnd, eOr, eNot, eIf, eChain, aNil, aCons, eLst, eTup, eCall, eCallL, eFz, eLc, eLc2, eApp, isLst, wipeS, eMake, eEqI, insC, keepL, getS, gN, gIx, gT, gTupM, sPar, sFor, iR1, iR2, iRD, iE, iEn, iEnT, iEnA, iEA, oIsiB, noScr, tyName, f2, pLe, pLt, pGe, pGt, oAdd, oSub, oNeg, oAbs, oInt, oMax2, oMin2, oLen, items, lstItems, tupItems, hot, cold, Out.d, frz, frzL, frzF, List.range, List.range.loop, isN, oIsN, oNotN, oIsB, oNotB, pEq_int, pNe_int, pEq_bl, pNe_bl, pEq_lst, pNe_lst, pEq_tup, pNe_tup, kb_NoneType_int, kb_NoneType_bool, kb_NoneType_list, kb_NoneType_tuple, kb_NoneType_str, kb_bool_int, kb_bool_bool, kb_bool_list, kb_bool_tuple, kb_bool_str, kb_int_int, kb_int_bool, kb_int_list, kb_int_tuple, kb_int_str, kb_str_int, kb_str_bool, kb_str_list, kb_str_tuple, kb_str_str, kb_list_int, kb_list_bool, kb_list_list, kb_list_tuple, kb_list_str, kb_tuple_int, kb_tuple_bool, kb_tuple_list, kb_tuple_tuple, kb_tuple_str, kb_dict_int, kb_dict_bool, kb_dict_list, kb_dict_tuple, kb_dict_str]
    have q2 : (sIf (tE (eOp (f2 pLt) [.s 1, .v (eOp oLen [.s 0])])) (sAsg (eOp oIx [.s 0, .s 1]) (gN 2)) sNext) [some (.scr l), some (.int k), some (.int (7 * S + k)), none, none] = .next [some (.scr l), some (.int k), some (.int cell), none, none] := by
      simp [e4, hkl, fn, sSeq, SR.thn, sAsg, sExpr, sRet, sRetN, sIf, sNext, sFail, sBrk, sCont, Res.toS, Res.toN, Res.bind, tE, tNotM, tOrM, tAndM, tYesM, eC, eN, eMv, eOp, opds, eAnd, eOr, eNot, eIf, eChain, aNil, aCons, eLst, eTup, eCall, eCallL, eFz, eLc, eLc2, eApp, isLst, wipeS, eMake, eEqI, insC, keepL, getS, gN, gIx, gT, gTupM, sPar, sFor, iR1, iR2, iRD, iE, iEn, iEnT, iEnA, iEA, oIsiB, noScr, tyName, f2, pLe, pLt, pGe, pGt, oAdd, oSub, oNeg, oAbs, oInt, oMax2, oMin2, oLen, items, lstItems, tupItems, hot, cold, Out.d, frz, frzL, frzF, List.range, List.range.loop, isN, oIsN, oNotN, oIsB, oNotB, pEq_int, pNe_int, pEq_bl, pNe_bl, pEq_lst, pNe_lst, pEq_tup, pNe_tup, kb_NoneType_int, kb_NoneType_bool, kb_NoneType_list, kb_NoneType_tuple, kb_NoneType_str, kb_bool_int, kb_bool_bool, kb_bool_list, kb_bool_tuple, kb_bool_str, kb_int_int, kb_int_bool, kb_int_list, kb_int_tuple, kb_int_str, kb_str_int, kb_str_bool, kb_str_list, kb_str_tuple, kb_str_str, kb_list_int, kb_list_bool, kb_list_list, kb_list_tuple, kb_list_str, kb_tuple_int, kb_tuple_bool, kb_tuple_list, kb_tuple_tuple, kb_tuple_str, kb_dict_int, kb_dict_bool, kb_dict_list, kb_dict_tuple, kb_dict_str]
    exact ⟨a, b, _, fn_ret rfl (sSeq_next q1 (sSeq_next q2 e5))⟩
  · obtain ⟨a, b, st, e5⟩ := step (7 * S + k)
    have q1 : (sAsg (eOp oAdd [.v (eOp oMul [.v (eC (.int 7)), .v (eOp oSum [.v (eOp oS01 [.s 0, .v (eC (.int 63))])])]), .s 1]) (gN 2)) [some (.scr l), some (.int k), none, none, none] = .next [some (.scr l), some (.int k), some (.int (7 * S + k)), none, none] := by
      simp [e1, e2, e3, fn, sSeq, SR.thn, sAsg, sExpr, sRet, sRetN, sIf, sNext, sFail, sBrk, sCont, Res.toS, Res.toN, Res.bind, tE, tNotM, tOrM, tAndM, tYesM, eC, eN, eMv, eOp, opds, eAnd, eOr, eNot, eIf, eChain, aNil, aCons, eLst, eTup, eCall, eCallL, eFz, eLc, eLc2, eApp, isLst, wipeS, eMake, eEqI, insC, keepL, getS, gN, gIx, gT, gTupM, sPar, sFor, iR1, iR2, iRD, iE, iEn, iEnT, iEnA, iEA, oIsiB, noScr, tyName, f2, pLe, pLt, pGe, pGt, oAdd, oSub, oNeg, oAbs, oInt, oMax2, oMin2, oLen, items, lstItems, tupItems, hot, cold, Out.d, frz, frzL, frzF, List.range, List.range.loop, isN, oIsN, oNotN, oIsB, oNotB, pEq_int, pNe_int, pEq_bl, pNe_bl, pEq_lst, pNe_lst, pEq_tup, pNe_tup, kb_NoneType_int, kb_NoneType_bool, kb_NoneType_list, kb_NoneType_tuple, kb_NoneType_str, kb_bool_int, kb_bool_bool, kb_bool_list, kb_bool_tuple, kb_bool_str, kb_int_int, kb_int_bool, kb_int_list, kb_int_tuple, kb_int_str, kb_str_int, kb_str_bool, kb_str_list, kb_str_tuple, kb_str_str, kb_list_int, kb_list_bool, kb_list_list, kb_list_tuple, kb_list_str, kb_tuple_int, kb_tuple_bool, kb_tuple_list, kb_tuple_tuple, kb_tuple_str, kb_dict_int, kb_dict_bool, kb_dict_list, kb_dict_tuple, kb_dict_str]
    have q2 : (sIf (tE (eOp (f2 pLt) [.s 1, .v (eOp oLen [.s 0])])) (sAsg (eOp oIx [.s 0, .s 1]) (gN 2)) sNext) [some (.scr l), some (.int k), some (.int (7 * S + k)), none, none] = .next [some (.scr l), some (.int k), some (.int (7 * S + k)), none, none] := by
      simp [hkl, fn, sSeq, SR.thn, sAsg, sExpr, sRet, sRetN, sIf, sNext, sFail, sBrk, sCont, Res.toS, Res.toN, Res.bind, tE, tNotM, tOrM, tAndM, tYesM, eC, eN, eMv, eOp, opds, eAnd, eOr, eNot, eIf, eChain, aNil, aCons, eLst, eTup, eCall, eCallL, eFz, eLc, eLc2, eApp, isLst, wipeS, eMake, eEqI, insC, keepL, getS, gN, gIx, gT, gTupM, sPar, sFor, iR1, iR2, iRD, iE, iEn, iEnT, iEnA, iEA, oIsiB, noScr, tyName, f2, pLe, pLt, pGe, pGt, oAdd, oSub, oNeg, oAbs, oInt, oMax2, oMin2, oLen, items, lstItems, tupItems, hot, cold, Out.d, frz, frzL, frzF, List.range, List.range.loop, isN, oIsN, oNotN, oIsB, oNotB, pEq_int, pNe_int, pEq_bl, pNe_bl, pEq_lst, pNe_lst, pEq_tup, pNe_tup, kb_NoneType_int, kb_NoneType_bool, kb_NoneType_list, kb_NoneType_tuple, kb_NoneType_str, kb_bool_int, kb_bool_bool, kb_bool_list, kb_bool_tuple, kb_bool_str, kb_int_int, kb_int_bool, kb_int_list, kb_int_tuple, kb_int_str, kb_str_int, kb_str_bool, kb_str_list, kb_str_tuple, kb_str_str, kb_list_int, kb_list_bool, kb_list_list, kb_list_tuple, kb_list_str, kb_tuple_int, kb_tuple_bool, kb_tuple_list, kb_tuple_tuple, kb_tuple_str, kb_dict_int, kb_dict_bool, kb_dict_list, kb_dict_tuple, kb_dict_str]
    exact ⟨a, b, _, fn_ret rfl (sSeq_next q1 (sSeq_next q2 e5))⟩
theorem frz_net {o : Bool} {w : Int} {ss : List Int} : frz (net o w ss) = net false w ss := by simp [frz, frzF, nums_frz]
theorem eqv {w : Nat} {a b l : List Int} (hw : 1 ≤ w) (ha : okS w a) (hb : okS w b) (h : runL a (desc w) = runL b (desc w)) (hl : l.length = w) : runL a l = runL b l := by
  obtain ⟨f, rfl, hf⟩ := up1_of ha
  obtain ⟨g, rfl, hg⟩ := up1_of hb
  rw [up1_run, up1_run] at h
  rw [up1_run, up1_run]
  exact decides hw (fun i hi => by have := hf i hi; omega) (fun i hi => by have := hg i hi; omega) h l hl
theorem count_ok (ns : List Int) (c : Int) (hc : 1 ≤ c) (hc2 : c ≤ 100) {st : Sl} (h : getS st 0 = some (.scr ns)) : ∃ N : Nat, N ≤ c ∧ iR1 (eOp oMax2 [.v (eC (.int 1)), .v (eOp oMin2 [.v (eOp oLen [.s 0]), .v (eC (.int c))])]) st = .ok (rangeD 0 N) st := by
  have q1 := eOp1_s (f := oLen) (i := 0) (st := st) h (oLen_scr ns)
  obtain ⟨z, hz⟩ : ∃ z : Int, z = ((ns.length : Nat) : Int) := ⟨_, rfl⟩
  have hz0 : 0 ≤ z := by omega
  rw [← hz] at q1
  have q2 := eOp2_v (f := oMin2) q1 (show eC (.int c) _ = .ok (.int c) _ from rfl) (show oMin2 [.int z, .int c] = some (.val (.int (if c < z then c else z))) from rfl)
  have q3 := eOp2_v (f := oMax2) (show eC (.int 1) st = .ok (.int 1) _ from rfl) q2 (show oMax2 [.int 1, .int (if c < z then c else z)] = some (.val (.int (if (if c < z then c else z) > 1 then (if c < z then c else z) else 1))) from rfl)
  generalize hy : (if (if c < z then c else z) > 1 then (if c < z then c else z) else 1) = y at q3
  have y1 : 1 ≤ y ∧ y ≤ c := by
    rw [← hy]
    split <;> split <;> omega
  exact ⟨y.toNat, by omega, iR1_v (j := y) (by omega) q3 (sm62 (by omega) (by omega))⟩
theorem tail_ok {ns : List Int} {n : Nat} {c : Int} (hc : 1 ≤ c) (hc2 : c ≤ 100) {g : MG} {B : MS} {fin : MS} (hfin : ∀ st, fin st = .ret (.bl true) st) {I : Sl → Prop} (I0 : ∀ st, I st → getS st 0 = some (.scr ns))
    (step : ∀ (st : Sl) (i : Nat), (i : Int) < c → I st → ∃ st1 st2, g (.int (i : Int)) st = .ok () st1 ∧ B st1 = .next st2 ∧ I st2) {st : Sl} (h : I st) :
    ∃ st', sSeq (sFor (iR1 (eOp oMax2 [.v (eC (.int 1)), .v (eOp oMin2 [.v (eOp oLen [.s 0]), .v (eC (.int c))])])) g B) fin st = .ret (.bl true) st' := by
  obtain ⟨N, hN, e0⟩ := count_ok ns c hc hc2 (I0 st h)
  obtain ⟨st', e, hst⟩ := forD_ok (g := g) (body := B) (fun _ st => I st) (rangeD 0 N) 0 st h (fun i d st e hI => by
    obtain ⟨hi, rfl⟩ := rangeD_get e
    rw [Int.zero_add]
    obtain ⟨s1, s2, q1, q2, q3⟩ := step st i (by omega) hI
    exact ⟨s1, s2, q1, .inl q2, q3⟩)
  exact ⟨st', zSeq (zFor e0 e) (hfin _)⟩
local macro_rules | `(tactic| walk_at "f") => `(tactic| with_reducible exact frz_net)
local macro_rules | `(tactic| walk_at "o") => `(tactic| first | (with_reducible exact oFld_w) | (with_reducible exact oFld_s))
theorem neg_ix {o : Bool} {l : List Int} (h : l ≠ []) : ∃ z, oIx [.lst o (nums l), .int (-1)] = some (.val (.int z)) := by
  have hl : 0 < l.length := List.length_pos_iff.mpr h
  refine ⟨l.getD (l.length - 1) 0, ?_⟩
  have e : L2.atI (nums l) (-1) = some (.int (l.getD (l.length - 1) 0)) := by
    unfold L2.atI L2.ixN
    rw [nums_len, if_neg (by decide), if_pos (by omega), Option.bind_some, show ((-1 : Int) + (l.length : Int)).toNat = l.length - 1 by omega]
    unfold nums
    rw [List.getElem?_map, List.getElem?_eq_getElem (by omega), Option.map_some, List.getD_eq_getElem?_getD, List.getElem?_eq_getElem (by omega), Option.getD_some]
  simp [oIx, items, e, cold, hot]
theorem max_i {i j : Int} : oMax2 [.int i, .int j] = some (.val (.int (if j > i then j else i))) := rfl
theorem min_i {i j : Int} : oMin2 [.int i, .int j] = some (.val (.int (if j < i then j else i))) := rfl
section
local macro_rules | `(tactic| walk_at "o") => `(tactic| first | (with_reducible exact max_i) | (with_reducible exact min_i))
theorem steps2_ok (a b : Int) {w : Int} {n : Nat} (h1 : 1 ≤ w) (h2 : w ≤ 40) (h4 : n ≤ 1000) : ∃ ss a' b', okS w ss ∧ ss.length ≤ n ∧ m__law_steps [.lst true [.int a, .int b], .int w, .int (n : Int)] = .ok (.lst true (nums ss)) [some (.lst true [.int a', .int b']), some (.int w), some (.int (n : Int))] := by
  by_cases hw : w = 1
  · subst hw
    refine ⟨[], a, b, (fun s hs => by cases hs), Nat.zero_le _, ?_⟩
    refine fn_go (body := b__law_steps) (L := [0, 1, 2]) (w := 7) (n := 3) (st := [some (.lst true [.int a, .int b]), some (.int 1), some (.int (n : Int)), none, none, none, none]) rfl ?_
    show b__law_steps [some (.lst true [.int a, .int b]), some (.int 1), some (.int (n : Int)), none, none, none, none] = SR.ret (.lst true []) _
    unfold b__law_steps
    apply zSeqR
    unfold st2__law_steps st1__law_steps
    walk_at "z"
  · obtain ⟨kd, a1, b1, k1, k2, e1⟩ := draw_ok a b 4 (by decide) (by decide)
    obtain ⟨m, a2, b2, m1, m2, e2⟩ := draw_ok a1 b1 ((n : Int) + 1) (by omega) (by omega)
    obtain ⟨M, hM⟩ : ∃ M : Nat, m = (M : Int) := ⟨m.toNat, by omega⟩
    subst hM
    obtain ⟨st', e, ss, a', b', y5, y6, g1, g2, rfl⟩ := forD_ok (g := fg11__law_steps) (body := fb11__law_steps) (fun i st => ∃ ss a' b' y5 y6, okS w ss ∧ ss.length = i ∧ st = [some (.lst true [.int a', .int b']), some (.int w), some (.int (n : Int)), some (.int kd), some (.lst true (nums ss)), y5, y6]) (rangeD 0 M) 0
      [some (.lst true [.int a2, .int b2]), some (.int w), some (.int (n : Int)), some (.int kd), some (.lst true (nums [])), none, none] ⟨[], a2, b2, none, none, (fun s hs => by cases hs), rfl, rfl⟩ (fun i d st e hI => by
        obtain ⟨ss, a', b', y5, y6, g1, g2, rfl⟩ := hI
        obtain ⟨hi, rfl⟩ := rangeD_get e
        obtain ⟨K, hK⟩ : ∃ K : Int, 0 + (i : Int) = K := ⟨_, rfl⟩
        have hK0 : 0 ≤ K := by omega
        rw [hK]
        obtain ⟨r, a3, b3, r1, r2, ed⟩ := draw_ok a' b' (w - 1) (by omega) (by omega)
        obtain ⟨s, hs⟩ : ∃ s : Int, 1 + r = s := ⟨_, rfl⟩
        have q5 : st5__law_steps [some (.lst true [.int a', .int b']), some (.int w), some (.int (n : Int)), some (.int kd), some (.lst true (nums ss)), some (.int K), y6] = .next [some (.lst true [.int a3, .int b3]), some (.int w), some (.int (n : Int)), some (.int kd), some (.lst true (nums ss)), some (.int K), some (.int s)] := by
          rw [← hs]
          unfold st5__law_steps
          walk_at "z"
        have q7 : ∃ s2 a4 b4, 1 ≤ s2 ∧ s2 ≤ w - 1 ∧ st7__law_steps [some (.lst true [.int a3, .int b3]), some (.int w), some (.int (n : Int)), some (.int kd), some (.lst true (nums ss)), some (.int K), some (.int s)] = .next [some (.lst true [.int a4, .int b4]), some (.int w), some (.int (n : Int)), some (.int kd), some (.lst true (nums ss)), some (.int K), some (.int s2)] := by
          by_cases hk : kd = 0
          · by_cases hss : ss = []
            · refine ⟨s, a3, b3, by omega, by omega, ?_⟩
              have z1 : ¬ ¬ (ss = []) := fun z => z hss
              have z2 : f2 pNe [.lst true (nums ss), .lst true []] = some (.val (.bl false)) := by
                show f2 pNe [.lst true (nums ss), .lst true (nums [])] = _
                rw [ne_of (pNe_lst true true ss []), decide_eq_true hss]
                rfl
              unfold st7__law_steps
              walk_at "z"
            · obtain ⟨z, hz⟩ := neg_ix (o := true) hss
              obtain ⟨x, a4, b4, x1, x2, ex⟩ := draw_ok a3 b3 4 (by decide) (by decide)
              have z2 : f2 pNe [.lst true (nums ss), .lst true []] = some (.val (.bl true)) := by
                show f2 pNe [.lst true (nums ss), .lst true (nums [])] = _
                rw [ne_of (pNe_lst true true ss []), decide_eq_false hss]
                rfl
              have hx : oIx [.lst true [.int 0, .int 1, .int (-1), .int 2], .int x] = some (.val (.int (([0, 1, -1, 2] : List Int).getD x.toNat 0))) := oIx_nums (l := [0, 1, -1, 2]) x1 (by show x < ((4 : Nat) : Int); omega)
              obtain ⟨y, hy⟩ : ∃ y : Int, ([0, 1, -1, 2] : List Int).getD x.toNat 0 = y := ⟨_, rfl⟩
              rw [hy] at hx
              obtain ⟨u, hu⟩ : ∃ u : Int, (if z + y > 1 then z + y else 1) = u := ⟨_, rfl⟩
              obtain ⟨v, hv⟩ : ∃ v : Int, (if u < w - 1 then u else w - 1) = v := ⟨_, rfl⟩
              have u1 : 1 ≤ u := by rw [← hu]; split <;> omega
              have v1 : 1 ≤ v := by rw [← hv]; split <;> omega
              have v2 : v ≤ w - 1 := by rw [← hv]; split <;> omega
              refine ⟨v, a4, b4, v1, v2, ?_⟩
              rw [← hv, ← hu]
              unfold st7__law_steps st6__law_steps
              walk_at "z"
          · refine ⟨s, a3, b3, by omega, by omega, ?_⟩
            unfold st7__law_steps
            walk_at "z"
        obtain ⟨s2, a4, b4, s21, s22, q7⟩ := q7
        have q9 : ∃ s3, 1 ≤ s3 ∧ s3 ≤ w - 1 ∧ st9__law_steps [some (.lst true [.int a4, .int b4]), some (.int w), some (.int (n : Int)), some (.int kd), some (.lst true (nums ss)), some (.int K), some (.int s2)] = .next [some (.lst true [.int a4, .int b4]), some (.int w), some (.int (n : Int)), some (.int kd), some (.lst true (nums ss)), some (.int K), some (.int s3)] := by
          by_cases hk : kd = 1
          · have t1 : 0 ≤ K % (w - 1) := Int.emod_nonneg _ (by omega)
            have t2 : K % (w - 1) < w - 1 := Int.emod_lt_of_pos _ (by omega)
            refine ⟨1 + K % (w - 1), by omega, by omega, ?_⟩
            unfold st9__law_steps st8__law_steps
            walk_at "z"
          · refine ⟨s2, s21, s22, ?_⟩
            unfold st9__law_steps
            walk_at "z"
        obtain ⟨s3, s31, s32, q9⟩ := q9
        refine ⟨_, [some (.lst true [.int a4, .int b4]), some (.int w), some (.int (n : Int)), some (.int kd), some (.lst true (nums (ss ++ [s3]))), some (.int K), some (.int s3)], rfl, .inl ?_, ss ++ [s3], a4, b4, some (.int K), some (.int s3), ?_, by rw [List.length_append, g2]; rfl, rfl⟩
        · unfold fb11__law_steps
          refine zSeq q5 (zSeq q7 (zSeq q9 ?_))
          unfold st10__law_steps
          rw [nums_app]
          have hn : (nums ss).length < 16777216 := by rw [nums_len]; omega
          walk_at "z"
        · intro x hx
          rcases List.mem_append.mp hx with hx | hx
          · exact g1 x hx
          · rw [List.mem_singleton.mp hx]
            exact ⟨s31, s32⟩)
    rw [Nat.zero_add, rangeD_len] at g2
    refine ⟨ss, a', b', g1, by omega, ?_⟩
    refine fn_go (body := b__law_steps) (L := [0, 1, 2]) (w := 7) (n := 3) (st := [some (.lst true [.int a', .int b']), some (.int w), some (.int (n : Int)), some (.int kd), none, y5, y6]) rfl ?_
    show b__law_steps [some (.lst true [.int a, .int b]), some (.int w), some (.int (n : Int)), none, none, none, none] = _
    unfold b__law_steps
    apply zSeq
    · unfold st2__law_steps
      walk_at "z"
    apply zSeq
    · unfold st3__law_steps
      walk_at "z"
    apply zSeq
    · unfold st4__law_steps
      walk_at "z"
    apply zSeq
    · apply zFor
      · apply wR1 (n := M) (z := (M : Int))
        · walk_at "e"
        · rfl
        · exact small62_nat (by omega)
      · exact e
    · unfold st13__law_steps
      walk_at "z"
end
theorem frz_rows : ∀ (L : List (List Int)), frzL (L.map fun r => D.lst true (nums r)) = L.map fun r => D.lst false (nums r)
  | [] => by rw [List.map_nil, frzL, List.map_nil]
  | r :: L => by rw [List.map_cons, frzL, frz_rows L, fz_l, List.map_cons]
theorem ix_at {o : Bool} {xs : List D} {i : Int} {d : D} (h0 : 0 ≤ i) (h1 : xs[i.toNat]? = some d) (hc : cold d = true) : oIx [.lst o xs, .int i] = some (.val d) := by
  have lt := (List.getElem?_eq_some_iff.mp h1).1
  have a : L2.atI xs i = some d := by
    unfold L2.atI
    rw [ixN_nat h0 (by omega)]
    exact h1
  show (match L2.atI xs i with | some d => if cold d then some (Out.val d) else none | none => none) = _
  rw [a]
  show (if cold d = true then _ else _) = _
  rw [hc]
  rfl
theorem is_any {d : D} (h : It d) (lo hi : Int) : ∃ ps, m_is_integer [d, .int lo, .int hi] = .ok (.bl (isInt d lo hi)) ps := by
  have q1 := isi_int h
  have q2 := isi_bool h
  by_cases e : ∃ n, d = .int n
  · obtain ⟨n, rfl⟩ := e
    exact ⟨_, is_integer_ok n lo hi⟩
  have ef : isInt d lo hi = false := by
    cases h with
    | int i => exact absurd ⟨i, rfl⟩ e
    | _ => rfl
  rw [ef]
  refine ⟨_, fn_go rfl (?_ : b_is_integer [some d, some (.int lo), some (.int hi)] = SR.ret (.bl false) [some d, some (.int lo), some (.int hi)])⟩
  unfold b_is_integer
  apply zRet
  by_cases hi : isI d = true
  · have b : isB d = true := by
      cases h with
      | int n => exact absurd ⟨n, rfl⟩ e
      | bl b => rfl
      | _ => cases hi
    rw [hi] at q1
    rw [b] at q2
    apply xAndT
    · exact xOsv rfl xC rfl q1 rfl
    · apply xAndF
      exact xNot (p := true) (xOsv rfl xC rfl q2 rfl)
  · have hi : isI d = false := by simpa using hi
    rw [hi] at q1
    apply xAndF
    exact xOsv rfl xC rfl q1 rfl
def rowF (L : List (List Int)) : List D := L.map fun r => D.lst false (nums r)
theorem rowF_cold (L : List (List Int)) : colds (rowF L) = true := by
  unfold colds rowF
  rw [List.all_map]
  exact List.all_eq_true.mpr fun _ _ => rfl
end Lw54

namespace Lw54
open PySem (Str)
open DL Nw
local macro_rules | `(tactic| walk_at "g") => `(tactic| first | exact rfl | (with_reducible assumption))
local macro_rules | `(tactic| walk_at "s") => `(tactic| first | (with_reducible exact set_0) | ((with_reducible apply set_s); walk_at "s") | (with_reducible assumption) | exact rfl)
local macro_rules | `(tactic| walk_at "fl") => `(tactic| first | (with_reducible exact nums_frz _) | (with_reducible exact fzL_n) | ((with_reducible apply fzL_c); walk_at "f"; walk_at "fl") | (with_reducible assumption))
local macro_rules | `(tactic| walk_at "f") => `(tactic| first | (with_reducible exact fz_i) | (with_reducible exact fz_b) | (with_reducible exact fz_n) | (with_reducible exact fz_s) | (with_reducible exact fz_l) | (with_reducible exact fz_t) | ((with_reducible apply fz_lst); walk_at "fl") | ((with_reducible apply fz_tup); walk_at "fl") | (with_reducible assumption) | exact rfl)
local macro_rules | `(tactic| walk_at "k") => `(tactic| first | (with_reducible assumption) | (with_reducible exact rfl) | omega | (intro z; omega) | decide)
local macro_rules | `(tactic| walk_at "d") => `(tactic| first | (with_reducible exact od_val) | (with_reducible exact od_newL) | (with_reducible exact od_newT) | ((with_reducible apply od_eq); first | (with_reducible exact rfl) | ((with_reducible apply nbl_n); walk_at "k") | ((with_reducible apply bl_n); walk_at "k") | ((with_reducible apply bl_y); walk_at "k") | ((with_reducible apply nbl_y); walk_at "k")))
local macro_rules | `(tactic| walk_at "h") => `(tactic| first | (with_reducible assumption) | (simp only [List.nil_append, List.cons_append]; with_reducible assumption))
local macro_rules | `(tactic| walk_at "o") => `(tactic| first | (with_reducible assumption) | (with_reducible exact add_i) | (with_reducible exact sub_i) | (with_reducible exact lt_i) | (with_reducible exact le_i) | (with_reducible exact gt_i) | (with_reducible exact ge_i) | (with_reducible exact int_i) | (with_reducible exact int_b) | (with_reducible exact abs_i) | (with_reducible exact neg_i) | (with_reducible exact oLen_l) | (with_reducible exact oLen_scr _) | (with_reducible exact len_t) | (with_reducible exact tup_t) | (with_reducible exact oSorted_l) | (with_reducible exact oSum_nums _ _) | (with_reducible exact eq_of (pEq_int _ _)) | (with_reducible exact ne_of (pNe_int _ _)) | (with_reducible exact eq_of (pEq_lst _ _ _ _)) | (with_reducible exact ne_of (pNe_lst _ _ _ _)) | (with_reducible exact eq_of (pEq_tup _ _)) | (with_reducible exact ne_of (pNe_tup _ _)) | (with_reducible exact eq_of (pEq_bl _ _)) | (with_reducible exact ne_of (pNe_bl _ _)) | ((with_reducible apply lst_o); omega) | ((with_reducible apply lst_t); omega) | ((with_reducible apply tup_l); omega) | ((with_reducible apply oMod_v); omega) | ((with_reducible apply oDiv_v); omega; omega) | ((with_reducible apply oDiv_w); omega; omega) | ((with_reducible apply oMul_v); omega) | ((with_reducible apply oMul_l); omega) | ((with_reducible apply oIx_nums); omega; omega) | ((with_reducible apply oIx_tup); omega; omega))
local macro_rules | `(tactic| walk_at "a") => `(tactic| first | (with_reducible exact xANil) | ((with_reducible apply xACons); walk_at "e"; walk_at "a"))
local macro_rules | `(tactic| walk_at "it") => `(tactic| first | (with_reducible exact lst_it) | (with_reducible exact tup_it) | exact rfl)
local macro_rules | `(tactic| walk_at "cd") => `(tactic| first | (with_reducible exact nums_colds _) | (with_reducible exact colds_range _ _) | (with_reducible assumption) | exact rfl)
local macro_rules | `(tactic| walk_at "w") => `(tactic| first | ((with_reducible apply wE); walk_at "e"; walk_at "it"; walk_at "cd") | (with_reducible assumption))
local macro_rules | `(tactic| walk_at "e") => `(tactic| first | (with_reducible assumption) | (with_reducible exact xC) | ((with_reducible apply xN); walk_at "g"; exact rfl) | ((with_reducible apply xNf); walk_at "g"; exact rfl; walk_at "f"; walk_at "s") | ((with_reducible apply xMv); walk_at "g"; walk_at "s") | ((with_reducible apply xOvv); walk_at "e"; walk_at "e"; walk_at "o"; walk_at "d") | ((with_reducible apply xOvs); walk_at "e"; walk_at "g"; walk_at "o"; walk_at "d") | ((with_reducible apply xOsv); walk_at "g"; walk_at "e"; walk_at "g"; walk_at "o"; walk_at "d") | ((with_reducible apply xOss); walk_at "g"; walk_at "g"; walk_at "o"; walk_at "d") | ((with_reducible apply xOv); walk_at "e"; walk_at "o"; walk_at "d") | ((with_reducible apply xOs); walk_at "g"; walk_at "o"; walk_at "d") | ((with_reducible apply xCall); walk_at "a"; walk_at "h") | ((with_reducible apply xCallL); walk_at "a"; walk_at "g"; walk_at "a"; walk_at "g"; exact rfl; walk_at "h"; exact rfl; walk_at "s") | ((with_reducible apply xCallLc); walk_at "a"; walk_at "g"; walk_at "a"; walk_at "g"; exact rfl; walk_at "h") | ((with_reducible apply xMake); walk_at "a"; walk_at "h") | ((with_reducible apply xFz); walk_at "e"; walk_at "f") | ((with_reducible apply xMth); walk_at "e"; walk_at "m"; walk_at "a"; walk_at "h") | ((with_reducible apply xLst); walk_at "a"; exact rfl) | ((with_reducible apply xTup); walk_at "a"; exact rfl; walk_at "fl") | ((with_reducible apply xNot); walk_at "e") | ((with_reducible apply xAndB); walk_at "e"; walk_at "e") | ((with_reducible apply xOrB); walk_at "e"; walk_at "e") | ((with_reducible apply xIfT); walk_at "c"; walk_at "e") | ((with_reducible apply xIfF); walk_at "c"; walk_at "e") | ((with_reducible apply xApp); walk_at "g"; exact rfl; walk_at "e"; walk_at "g"; walk_at "n"; walk_at "s") | ((with_reducible apply xExt); walk_at "g"; exact rfl; walk_at "e"; walk_at "g"; walk_at "n"; walk_at "s") | ((with_reducible apply xExtT); walk_at "g"; exact rfl; walk_at "e"; walk_at "g"; walk_at "n"; walk_at "s") | ((with_reducible apply xMtS); walk_at "g"; exact rfl; walk_at "g"; walk_at "o"; walk_at "d") | ((with_reducible apply xEqI); walk_at "e"; walk_at "e"; exact rfl; exact rfl; walk_at "h"; walk_at "i") | ((with_reducible apply xLenI); walk_at "e"; exact rfl; walk_at "h"; walk_at "n"))
local macro_rules | `(tactic| walk_at "i") => `(tactic| first | exact rfl | (show D.bl (decide _) = _; apply bl_y; walk_at "k") | (show D.bl (!decide _) = _; apply nbl_n; walk_at "k"))
local macro_rules | `(tactic| walk_at "n") => `(tactic| first | (simp only [nums_len, List.length_append, List.length_cons, List.length_nil]; omega) | omega | exact rfl)
local macro_rules | `(tactic| walk_at "c") => `(tactic| first | ((with_reducible apply cE); walk_at "e") | ((with_reducible apply cNotF); walk_at "c") | ((with_reducible apply cNotT); walk_at "c") | ((with_reducible apply cOrT); walk_at "c") | ((with_reducible apply cAndF); walk_at "c") | ((with_reducible apply cOrF); walk_at "c"; walk_at "c") | ((with_reducible apply cAndT); walk_at "c"; walk_at "c"))
local macro_rules | `(tactic| walk_at "t") => `(tactic| first | ((with_reducible apply gN_r); walk_at "s") | ((with_reducible apply gIx_r); exact rfl; walk_at "g"; walk_at "e"; walk_at "g"; walk_at "j"; walk_at "s"))
local macro_rules | `(tactic| walk_at "j") => `(tactic| first | exact rfl | (simp only [nums_len]; apply ixN_nat <;> omega))
local macro_rules | `(tactic| walk_at "z") => `(tactic| first | ((with_reducible apply zAsg); walk_at "e"; walk_at "t") | ((with_reducible apply zExpr); walk_at "e") | ((with_reducible apply zRet); walk_at "e") | ((with_reducible apply zPar); walk_at "a"; walk_at "s"; walk_at "s") | ((with_reducible apply zAug); walk_at "g"; exact rfl; walk_at "e"; walk_at "o"; walk_at "s") | (with_reducible exact zSkip) | ((with_reducible apply zNo); walk_at "c"; walk_at "z") | ((with_reducible apply zYes); walk_at "c"; walk_at "z") | ((with_reducible apply zSeq); walk_at "z"; walk_at "z") | ((with_reducible apply zSeqR); walk_at "z"))
local macro_rules | `(tactic| walk_at "m") => `(tactic| first | (with_reducible assumption) | exact rfl)

local macro_rules | `(tactic| walk_at "f") => `(tactic| with_reducible exact frz_net)
local macro_rules | `(tactic| walk_at "o") => `(tactic| first | (with_reducible exact oFld_w) | (with_reducible exact oFld_s))
/-! ### texts of data, dicts of rounds -/
structure Rq (n m : Nat) (p : PySem.PyData) : Prop where
  a : p.canLay0 = true
  b : p.showable = true
  c : p.leavesShort 26 = true
  w : p.weight ≤ n
  d : p.depth ≤ m
  t : cpsOk p.shown = true
structure RqL (n m : Nat) (ps : List PySem.PyData) : Prop where
  a : PySem.PyData.canLayAll0 ps = true
  b : PySem.PyData.showableAll ps = true
  c : PySem.PyData.leavesShortAll 26 ps = true
  w : PySem.PyData.weightAll ps ≤ n
  d : PySem.PyData.depthAll ps ≤ m
  t : ∀ t ∈ PySem.PyData.shownAll ps, cpsOk t = true
theorem RqL.nil {m : Nat} : RqL 10 m [] := ⟨rfl, rfl, rfl, by rw [PySem.PyData.weightAll]; omega, by rw [PySem.PyData.depthAll]; omega, fun t ht => by rw [PySem.PyData.shownAll] at ht; cases ht⟩
theorem RqL.cons {n n' m : Nat} {p : PySem.PyData} {ps : List PySem.PyData} (h : Rq n m p) (r : RqL n' m ps) : RqL (n + n' + 1) m (p :: ps) := by
  refine ⟨by rw [PySem.PyData.canLayAll0, h.a, r.a]; rfl, by rw [PySem.PyData.showableAll, h.b, r.b]; rfl, by rw [PySem.PyData.leavesShortAll, h.c, r.c]; rfl, ?_, ?_, fun t ht => ?_⟩
  · rw [PySem.PyData.weightAll]
    have := h.w
    have := r.w
    omega
  · rw [PySem.PyData.depthAll]
    have := h.d
    have := r.d
    omega
  · rw [PySem.PyData.shownAll] at ht
    rcases List.mem_cons.mp ht with rfl | ht
    · exact h.t
    · exact r.t t ht
theorem RqL.list {n m : Nat} {ps : List PySem.PyData} (r : RqL n m ps) : Rq (n + 100) (m + 1) (.list ps) := by
  refine ⟨by rw [PySem.PyData.canLay0]; exact r.a, by rw [PySem.PyData.showable]; exact r.b, by rw [PySem.PyData.leavesShort]; exact r.c, ?_, ?_, ?_⟩
  · rw [PySem.PyData.weight]
    have := r.w
    omega
  · rw [PySem.PyData.depth]
    have := r.d
    omega
  · rw [PySem.PyData.shown]
    exact cps_list r.t
theorem RqL.tuple {n m : Nat} {ps : List PySem.PyData} (r : RqL n m ps) : Rq (n + 100) (m + 1) (.tuple ps) := by
  refine ⟨by rw [PySem.PyData.canLay0]; exact r.a, by rw [PySem.PyData.showable]; exact r.b, by rw [PySem.PyData.leavesShort]; exact r.c, ?_, ?_, ?_⟩
  · rw [PySem.PyData.weight]
    have := r.w
    omega
  · rw [PySem.PyData.depth]
    have := r.d
    omega
  · rw [PySem.PyData.shown]
    exact cps_tup r.t
theorem Rq.int {i : Int} {m : Nat} (h : i.natAbs < 10 ^ 25) : Rq 84 m (.int i) := by
  have s0 : sml (.int i) = true := by rw [sml]; exact decide_eq_true h
  obtain ⟨a, b, c⟩ := sml_all (.int i) s0
  exact ⟨a, b, c, w_int h, by rw [PySem.PyData.depth]; omega, sml_cps _ s0⟩
theorem RqL.nums {m : Nat} : ∀ {tt : List Int}, (∀ s ∈ tt, s.natAbs < 10 ^ 25) → RqL (85 * tt.length + 10) m (tt.map .int)
  | [], _ => RqL.nil
  | t :: tt, h => by
    have r := RqL.cons (Rq.int (m := m) (h t List.mem_cons_self)) (RqL.nums (m := m) fun s hs => h s (List.mem_cons_of_mem _ hs))
    rw [List.map_cons, List.length_cons, show 85 * (tt.length + 1) + 10 = 84 + (85 * tt.length + 10) + 1 by omega]
    exact r
theorem Rq.mono {n m n' m' : Nat} {p : PySem.PyData} (h : Rq n m p) (h1 : n ≤ n') (h2 : m ≤ m') : Rq n' m' p := ⟨h.a, h.b, h.c, Nat.le_trans h.w h1, Nat.le_trans h.d h2, h.t⟩
theorem Rq.text {n m : Nat} {p : PySem.PyData} {x : D} (h : Rq n m p) (h1 : n ≤ 500000) (h2 : m ≤ 60) (e : toPy x = p) : ∃ t : Str, oRepr [x] = some (.val (.str t)) ∧ f2 pNe [.str t, .str t] = some (.val (.bl false)) := by
  subst e
  have w := h.w
  have d := h.d
  have l := PySem.PyData.shown_le 26 (by decide) (toPy x) h.c
  have l2 : (toPy x).shown.length ≤ 16777216 := by omega
  have ok : rpOk (toPy x) = true := by
    unfold rpOk
    rw [h.a, h.b, PySem.PyData.hasDict_of_canLay _ h.a, decide_eq_true (Nat.le_trans d (Nat.le_trans h2 (by decide))), decide_eq_true l2]
    rfl
  refine ⟨(toPy x).shown, ?_, ne_of ?_⟩
  · show (if _ then _ else _) = _
    rw [if_pos ok]
  · have sh : PySem.SeqAt.shaped (toPy (.str (toPy x).shown)) = true := by
      rw [toPy]
      unfold PySem.SeqAt.shaped
      rw [PySem.PyData.canLay0, PySem.PyData.depth]
      have cp := h.t
      unfold cpsOk at cp
      rw [show PySem.PyData.strOk (toPy x).shown = true from cp]
      rfl
    unfold pNe
    rw [sh, toPy, PySem.PyData.eqv]
    simp
theorem Rq.word {x : Str} {m : Nat} (x1 : PySem.PyData.canLay0 (.str x) = true) (x2 : PySem.PyData.showable (.str x) = true) (x3 : PySem.PyData.leavesShort 26 (.str x) = true) (x4 : (PySem.PyData.str x).weight ≤ 1000) (x5 : cpsOk (PySem.PyData.shown (.str x)) = true) : Rq 1000 m (.str x) :=
  ⟨x1, x2, x3, x4, by rw [PySem.PyData.depth]; omega, x5⟩
theorem rowF_frz : ∀ L : List (List Int), frzL (rowF L) = rowF L
  | [] => by unfold rowF; rw [List.map_nil, frzL]
  | r :: L => by
    have ih := rowF_frz L
    unfold rowF at ih ⊢
    rw [List.map_cons, frzL, ih, fz_l]
theorem forD_may {g : MG} {body : MS} (I : Nat → Sl → Prop) (v : D) : ∀ (ds : List D) (k : Nat) (st : Sl), I k st →
    (∀ (i : Nat) (d : D) (st : Sl), ds[i]? = some d → I (k + i) st → ∃ st1, g d st = .ok () st1 ∧ ((∃ st2, body st1 = .next st2 ∧ I (k + i + 1) st2) ∨ ∃ st2, body st1 = .ret v st2)) → (∃ st', forD g body ds st = .next st' ∧ I (k + ds.length) st') ∨ ∃ st', forD g body ds st = .ret v st'
  | [], k, st, h, _ => .inl ⟨st, rfl, h⟩
  | d :: ds, k, st, h, hs => by
    obtain ⟨st1, e1, e2⟩ := hs 0 d st rfl h
    rcases e2 with ⟨st2, e2, h2⟩ | ⟨st2, e2⟩
    · rcases forD_may I v ds (k + 1) st2 h2 (fun i d' st3 e h4 => by
        have := hs (i + 1) d' st3 (by simpa using e) (by rw [show k + (i + 1) = k + 1 + i by omega]; exact h4)
        rw [show k + (i + 1) + 1 = k + 1 + i + 1 by omega] at this
        exact this) with ⟨st', e3, h3⟩ | ⟨st', e3⟩
      · exact .inl ⟨st', forD_cons e1 e2 e3, by rw [show k + (d :: ds).length = k + 1 + ds.length by rw [List.length_cons]; omega]; exact h3⟩
      · exact .inr ⟨st', forD_cons e1 e2 e3⟩
    · exact .inr ⟨st2, forD_ret e1 e2⟩
theorem any_bools {α : Type} (f : α → Bool) (l : List α) : oAny [.lst true (l.map fun x => D.bl (f x))] = some (.val (.bl (l.any f))) := by
  show (((lstItems (.lst true (l.map fun x => D.bl (f x)))).bind asBls).map fun bs => Out.val (.bl (bs.any id))) = _
  rw [show lstItems (.lst true (l.map fun x => D.bl (f x))) = some (l.map fun x => D.bl (f x)) from rfl, Option.bind_some, asBls_map]
  show some (Out.val (.bl ((l.map f).any id))) = _
  rw [List.any_map]
  rfl
/-- the dict knows the rounds of the numbers of l -/
def Kn (f : Nat → Nat) (l : List Nat) (kvs : List (L2.Key × D)) : Prop := ∀ x ∈ l, valD kvs (.inl (x : Int)) = some (.int (f x : Int))
theorem kn_put {f : Nat → Nat} {l : List Nat} {kvs : List (L2.Key × D)} {x : Nat} (h : Kn f l kvs) : Kn f (l ++ [x]) (putKD kvs (.inl (x : Int)) (.int (f x : Int))) := fun y hy => by
  rw [valD_put]
  by_cases e : (Sum.inl (y : Int) : L2.Key) = .inl (x : Int)
  · rw [if_pos e]
    have : (y : Int) = x := Sum.inl.inj e
    have : y = x := by omega
    subst this
    rfl
  · rw [if_neg e]
    rcases List.mem_append.mp hy with hy | hy
    · exact h y hy
    · rw [List.mem_singleton.mp hy] at e
      exact absurd rfl e
theorem oDIn_i {o : Bool} {kvs : List (L2.Key × D)} {x : Int} {b : Bool} (h : (valD kvs (.inl x)).isSome = b) : oDIn false [.int x, .dic o kvs] = some (.val (.bl b)) := by
  subst h
  rfl
theorem oDx_i {o : Bool} {kvs : List (L2.Key × D)} {x : Int} {d : D} (h : valD kvs (.inl x) = some d) (hc : cold d = true) : oDx [.dic o kvs, .int x] = some (.val d) := by
  show (match valD kvs (.inl x) with | some d => if cold d then some (Out.val d) else none | none => none) = _
  rw [h]
  dsimp only
  rw [if_pos hc]
theorem valD_frz (k : L2.Key) : ∀ kvs : List (L2.Key × D), valD (frzK kvs) k = (valD kvs k).map frz
  | [] => by rw [frzK]; rfl
  | (j, d) :: kvs => by
    have ih := valD_frz k kvs
    rw [frzK]
    unfold valD at ih ⊢
    rw [List.find?_cons, List.find?_cons]
    by_cases e : j = k
    · simp [e]
    · simp only [e, decide_false]
      exact ih
theorem kn_frz {f : Nat → Nat} {l : List Nat} {kvs : List (L2.Key × D)} (h : Kn f l kvs) : Kn f l (frzK kvs) := fun x hx => by
  rw [valD_frz, h x hx, Option.map_some, fz_i]
structure Kn2 (f : Nat → Nat) (l : List Nat) (kvs : List (L2.Key × D)) : Prop where
  yes : Kn f l kvs
  no : ∀ x : Nat, x ∉ l → valD kvs (.inl (x : Int)) = none
  len : kvs.length = l.length
theorem putKD_new {kvs : List (L2.Key × D)} {k : L2.Key} {d : D} (h : valD kvs k = none) : (putKD kvs k d).length = kvs.length + 1 := by
  unfold putKD
  have n : ¬ (kvs.any fun kv => decide (kv.1 = k)) = true := fun z => by
    obtain ⟨p, hp, e⟩ := List.any_eq_true.mp z
    unfold valD at h
    cases e2 : kvs.find? fun kv => decide (kv.1 = k) with
    | none => exact absurd e (by simpa using List.find?_eq_none.mp e2 p hp)
    | some q => rw [e2] at h; cases h
  rw [if_neg n, List.length_append]
  rfl
theorem kn2_put {f : Nat → Nat} {l : List Nat} {kvs : List (L2.Key × D)} {x : Nat} (h : Kn2 f l kvs) (hx : x ∉ l) : Kn2 f (l ++ [x]) (putKD kvs (.inl (x : Int)) (.int (f x : Int))) := by
  refine ⟨kn_put h.yes, fun y hy => ?_, by rw [putKD_new (h.no x hx), h.len, List.length_append]; rfl⟩
  rw [valD_put]
  have e : ¬ (Sum.inl (y : Int) : L2.Key) = .inl (x : Int) := fun z => by
    have : (y : Int) = x := Sum.inl.inj z
    have : y = x := by omega
    subst this
    exact hy (List.mem_append_right _ List.mem_cons_self)
  rw [if_neg e]
  exact h.no y fun z => hy (List.mem_append_left _ z)
theorem kn2_nil (f : Nat → Nat) : Kn2 f [] [] := ⟨fun x h => (by cases h), fun x _ => rfl, rfl⟩
section
variable {w : Int} {ss : List Int} {f : Nat → Nat}
theorem fill_one (lS : ss.length ≤ 1000) {r x : Nat} {l : List Nat} {kvs : List (L2.Key × D)} (hk : Kn2 f l kvs) (hx : x ∉ l) (hn : x < ss.length) (hf : f x = r) (hl : l.length ≤ 3000) (v4 : D) (y1 : Option D) :
    fb2_round_by_index [some (net false w ss), y1, some (.dic true kvs), some (.int (r : Int)), some v4, some (.int (x : Int)), none] = .next [some (net false w ss), y1, some (.dic true (putKD kvs (.inl (x : Int)) (.int (f x : Int)))), some (.int (r : Int)), some v4, some (.int (x : Int)), none] := by
  obtain ⟨pl, ll⟩ := len_ok w ss
  have ii := is_integer_ok (x : Int) 0 ((ss.length : Int) - 1)
  have ca : (eCall m_is_integer (aCons (eN 5) (aCons (eC (.int 0)) (aCons (eOp oSub [.v (eLenI 0 m_Network___len__ (.v (eFz (eN 0)))), .v (eC (.int 1))]) aNil)))) [some (net false w ss), y1, some (.dic true kvs), some (.int (r : Int)), some v4, some (.int (x : Int)), none] = .ok (.bl (decide (0 ≤ (x : Int) ∧ (x : Int) ≤ (ss.length : Int) - 1))) [some (net false w ss), y1, some (.dic true kvs), some (.int (r : Int)), some v4, some (.int (x : Int)), none] :=
    xCall (ds := [.int (x : Int), .int 0, .int ((ss.length : Int) - 1)]) (xACons (xN rfl rfl) (xACons xC (xACons (xOvv (xLenI (xFz (xN rfl rfl) frz_net) rfl ll (Nat.blt_eq.mpr (by omega))) xC sub_i rfl) xANil))) ii
  rw [decide_eq_true (by omega)] at ca
  have e : (valD kvs (.inl (x : Int))).isSome = false := by rw [hk.no x hx]; rfl
  have hkl := hk.len
  unfold fb2_round_by_index
  refine zSeq (zNo (cOrF (cNotF (cE ca)) (cE (xOss rfl rfl (oDIn_i e) rfl))) rfl) ?_
  refine zAsg (d := .int (r : Int)) (st1 := [some (net false w ss), y1, some (.dic true kvs), some (.int (r : Int)), some v4, some (.int (x : Int)), none]) (xN rfl rfl) ?_
  show (if kvs.length < 16777216 then Res.ok () _ else .fail) = _
  rw [if_pos (by omega), hf]
  rfl
theorem fill_row (lS : ss.length ≤ 1000) {r : Nat} {row l : List Nat} {kvs : List (L2.Key × D)} (hk : Kn2 f l kvs) (hf : ∀ x ∈ row, f x = r) (hn : ∀ x ∈ row, x < ss.length) (nd : (l ++ row).Nodup) (hl : (l ++ row).length ≤ 3000) (y1 y5 : Option D) :
    ∃ kvs' y5', Kn2 f (l ++ row) kvs' ∧ fb3_round_by_index [some (net false w ss), y1, some (.dic true kvs), some (.int (r : Int)), some (.lst false (nums (natD row))), y5, none] = .next [some (net false w ss), y1, some (.dic true kvs'), some (.int (r : Int)), some (.lst false (nums (natD row))), y5', none] := by
  obtain ⟨st', F, kvs', y5', h1, rfl⟩ := forD_ok (g := fg2_round_by_index) (body := fb2_round_by_index) (fun k st => ∃ kvs' y5', Kn2 f (l ++ row.take k) kvs' ∧ st = [some (net false w ss), y1, some (.dic true kvs'), some (.int (r : Int)), some (.lst false (nums (natD row))), y5', none])
    (nums (natD row)) 0 [some (net false w ss), y1, some (.dic true kvs), some (.int (r : Int)), some (.lst false (nums (natD row))), y5, none] ⟨kvs, y5, by rw [List.take_zero, List.append_nil]; exact hk, rfl⟩ (fun k d st ed hI => by
      obtain ⟨kvs', y5', h1, rfl⟩ := hI
      rw [Nat.zero_add] at h1 ⊢
      unfold nums natD at ed
      rw [List.getElem?_map, List.getElem?_map] at ed
      cases ek : row[k]? with
      | none => rw [ek] at ed; cases ed
      | some x =>
        rw [ek] at ed
        cases ed
        have hx := List.mem_of_getElem? ek
        obtain ⟨kl, ex⟩ := List.getElem?_eq_some_iff.mp ek
        have sp : l ++ row = (l ++ row.take k) ++ (x :: row.drop (k + 1)) := by
          rw [List.append_assoc]
          congr 1
          have := List.take_append_drop k row
          rw [List.drop_eq_getElem_cons kl, ex] at this
          exact this.symm
        have nx : x ∉ l ++ row.take k := fun z => by
          rw [sp] at nd
          exact (List.nodup_append.mp nd).2.2 x z x List.mem_cons_self rfl
        have ll : (l ++ row.take k).length ≤ 3000 := by rw [sp, List.length_append] at hl; omega
        refine ⟨[some (net false w ss), y1, some (.dic true kvs'), some (.int (r : Int)), some (.lst false (nums (natD row))), some (.int (x : Int)), none], _, rfl, .inl (fill_one (w := w) lS h1 nx (hn x hx) (hf x hx) ll _ y1), _, _, ?_, rfl⟩
        rw [List.take_succ, ek, Option.toList, ← List.append_assoc]
        exact kn2_put h1 nx)
  have e : row.take (0 + (nums (natD row)).length) = row := by rw [Nat.zero_add, nums_len]; unfold natD; rw [List.length_map]; exact List.take_length
  rw [e] at h1
  refine ⟨kvs', y5', h1, ?_⟩
  unfold fb3_round_by_index
  exact zFor (wE (xN rfl rfl) lst_it (nums_colds _)) F
theorem rounds_ok (lS : ss.length ≤ 1000) {J : List (List Nat)} (pm : J.flatten.Perm (List.range ss.length)) (lJ2 : J.length ≤ 1000) (ne : ∀ row ∈ J, row ≠ []) (hf : ∀ (r : Nat) (row : List Nat), J[r]? = some row → ∀ x ∈ row, f x = r) :
    ∃ kvs ps, m_round_by_index [net false w ss, .lst false (rowF (J.map natD))] = .ok (.dic false kvs) ps ∧ Kn f (List.range ss.length) kvs := by
  have lJ : J.flatten.length = ss.length := by rw [pm.length_eq, List.length_range]
  have ndJ : J.flatten.Nodup := pm.nodup_iff.mpr List.nodup_range
  have inJ : ∀ x ∈ J.flatten, x < ss.length := fun x hx => List.mem_range.mp (pm.mem_iff.mp hx)
  have c : eLc (iE (eN 1) lstItems) lg1_round_by_index tYesM le1_round_by_index [6] [some (net false w ss), some (.lst false (rowF (J.map natD))), none, none, none, none, none] = .ok (.lst true ((J.map natD).map fun r => D.bl (decide (r = [])))) [some (net false w ss), some (.lst false (rowF (J.map natD))), none, none, none, none, none] := by
    refine xLcA (fun r : List Int => D.lst false (nums r)) (fun r => D.bl (decide (r = []))) (J.map natD) (ds := rowF (J.map natD)) (st1 := [some (net false w ss), some (.lst false (rowF (J.map natD))), none, none, none, none, none]) (wE (xN rfl rfl) lst_it (rowF_cold _)) rfl (by rw [List.length_map]; omega) (by show 6 < 7; decide) rfl (fun r _ => rfl) (fun r _ => ?_) rfl
    show le1_round_by_index [some (net false w ss), some (.lst false (rowF (J.map natD))), none, none, none, none, some (.lst false (nums r))] = _
    have isl : oIsiB "list" [.lst false (nums r), .ty "list"] = some (.val (.bl true)) := by simp [oIsiB, tyName, noScr, kb_list_list]
    have eq := eq_of (pEq_lst false true r [])
    unfold le1_round_by_index
    exact xOrF (xNot (p := true) (xOsv rfl xC rfl isl rfl)) (xOsv rfl (xLst xANil rfl) rfl eq rfl)
  have an := any_bools (fun r : List Int => decide (r = [])) (J.map natD)
  have hb : ((J.map natD).any fun r => decide (r = [])) = false := by
    refine List.any_eq_false.mpr fun r hr => ?_
    obtain ⟨row, hrow, rfl⟩ := List.mem_map.mp hr
    have := ne row hrow
    unfold natD
    simp [this]
  rw [hb] at an
  have isl : oIsiB "list" [.lst false (rowF (J.map natD)), .ty "list"] = some (.val (.bl true)) := by simp [oIsiB, tyName, noScr, kb_list_list]
  obtain ⟨pl, ll⟩ := len_ok w ss
  have pre : ∀ {R : SR}, (sSeq (sFor (iEn (eN 1)) fg3_round_by_index fb3_round_by_index) (sRet (eIf (tE (eOp (f2 pEq) [.v (eOp oLenD [.s 2]), .v (eLenI 0 m_Network___len__ (.v (eFz (eN 0))))])) (eN 2) (eC .non)))) [some (net false w ss), some (.lst false (rowF (J.map natD))), some (.dic true []), none, none, none, none] = R → b_round_by_index [some (net false w ss), some (.lst false (rowF (J.map natD))), none, none, none, none, none] = R := fun h => by
    unfold b_round_by_index
    refine zSeq (zNo (cOrF (cNotF (cE (xOsv rfl xC rfl isl rfl))) (cE (xOv c an rfl))) rfl) (zSeq (st1 := [some (net false w ss), some (.lst false (rowF (J.map natD))), some (.dic true []), none, none, none, none]) ?_ h)
    exact zAsg rfl rfl
  obtain ⟨st', F, kvs, y3, y4, y5, h1, rfl⟩ := forD_ok (g := fg3_round_by_index) (body := fb3_round_by_index) (fun k st => ∃ kvs y3 y4 y5, Kn2 f (J.take k).flatten kvs ∧ st = [some (net false w ss), some (.lst false (rowF (J.map natD))), some (.dic true kvs), y3, y4, y5, none])
    (enumD 0 (rowF (J.map natD))) 0 [some (net false w ss), some (.lst false (rowF (J.map natD))), some (.dic true []), none, none, none, none] ⟨[], none, none, none, kn2_nil f, rfl⟩ (fun k d st ed hI => by
      obtain ⟨kvs, y3, y4, y5, h1, rfl⟩ := hI
      rw [Nat.zero_add] at h1 ⊢
      obtain ⟨d', e3, rfl⟩ := enumD_get ed
      rw [Nat.zero_add]
      unfold rowF at e3
      rw [List.getElem?_map, List.getElem?_map] at e3
      cases ek : J[k]? with
      | none => rw [ek] at e3; cases e3
      | some row =>
        rw [ek] at e3
        cases e3
        have split : (J.take (k + 1)).flatten = (J.take k).flatten ++ row := by rw [List.take_succ, ek, Option.toList, List.flatten_append]; simp
        have all : J.flatten = ((J.take k).flatten ++ row) ++ (J.drop (k + 1)).flatten := by rw [← split, ← List.flatten_append, List.take_append_drop]
        have nd : ((J.take k).flatten ++ row).Nodup := by rw [all] at ndJ; exact (List.nodup_append.mp ndJ).1
        have le : ((J.take k).flatten ++ row).length ≤ 3000 := by rw [all, List.length_append] at lJ; omega
        have inn : ∀ x ∈ row, x < ss.length := fun x hx => inJ x (by rw [all]; exact List.mem_append_left _ (List.mem_append_right _ hx))
        obtain ⟨kvs', y5', a1, e⟩ := fill_row (w := w) (ss := ss) lS h1 (hf k row ek) inn nd le (some (.lst false (rowF (J.map natD)))) y5
        refine ⟨[some (net false w ss), some (.lst false (rowF (J.map natD))), some (.dic true kvs), some (.int (k : Int)), some (.lst false (nums (natD row))), y5, none], _, rfl, .inl e, kvs', _, _, _, ?_, rfl⟩
        rw [split]; exact a1)
  have ht : J.take (0 + (enumD 0 (rowF (J.map natD))).length) = J := by
    rw [Nat.zero_add, enumD_length]
    unfold rowF
    rw [List.length_map, List.length_map]
    exact List.take_length
  rw [ht] at h1
  have lk : kvs.length = ss.length := by rw [h1.len, lJ]
  have ld : oLenD [.dic true kvs] = some (.val (.int (kvs.length : Int))) := rfl
  have eq := eq_of (pEq_int (kvs.length : Int) (ss.length : Int))
  rw [decide_eq_true (by omega)] at eq
  have t : (eOp (f2 pEq) [.v (eOp oLenD [.s 2]), .v (eLenI 0 m_Network___len__ (.v (eFz (eN 0))))]) [some (net false w ss), some (.lst false (rowF (J.map natD))), some (.dic true kvs), y3, y4, y5, none] = .ok (.bl true) [some (net false w ss), some (.lst false (rowF (J.map natD))), some (.dic true kvs), y3, y4, y5, none] :=
    xOvv (xOs rfl ld rfl) (xLenI (xFz (xN rfl rfl) frz_net) rfl ll (Nat.blt_eq.mpr (by omega))) eq rfl
  have fz : frz (.dic true kvs) = .dic false (frzK kvs) := by rw [frz]
  suffices h : b_round_by_index [some (net false w ss), some (.lst false (rowF (J.map natD))), none, none, none, none, none] = .ret (.dic false (frzK kvs)) [some (net false w ss), some (.lst false (rowF (J.map natD))), some (.dic false (frzK kvs)), y3, y4, y5, none] from ⟨_, _, fn_go (n := 2) (w := 7) (L := [0, 1]) (ds := [net false w ss, .lst false (rowF (J.map natD))]) rfl h, kn_frz fun x hx => h1.yes x (pm.mem_iff.mpr hx)⟩
  exact pre (zSeq (zFor (wEn0 (xN rfl rfl) (rowF_cold _)) F) (zRet (xIfT (cE t) (xNf rfl rfl fz rfl))))
/-! ### values of mixed kinds -/
structure Cl (d : D) : Prop where
  it : It d
  rq : Rq 200 2 (toPy d)
theorem Rq.shaped {n m : Nat} {p : PySem.PyData} (h : Rq n m p) (h2 : m ≤ 50) : PySem.SeqAt.shaped p = true := by
  unfold PySem.SeqAt.shaped
  have := h.d
  rw [h.a, Bool.true_and]
  exact decide_eq_true (by omega)
theorem rqls {n m : Nat} : ∀ {ds : List D}, (∀ d ∈ ds, Rq n m (toPy d)) → RqL ((n + 1) * ds.length + 10) m (toPyL ds)
  | [], _ => by rw [toPyL]; exact RqL.nil
  | d :: ds, h => by
    have r := RqL.cons (h d List.mem_cons_self) (rqls fun x hx => h x (List.mem_cons_of_mem _ hx))
    rw [toPyL, List.length_cons, show (n + 1) * (ds.length + 1) + 10 = n + ((n + 1) * ds.length + 10) + 1 by rw [Nat.mul_add]; omega]
    exact r
theorem eqv_nil {z : Bool} {F : List D} : PySem.PyData.eqv (toPy (.lst z F)) (toPy (.lst true [])) = decide (F = []) := by
  rw [toPy, toPy, toPyL, PySem.PyData.eqv]
  cases F with
  | nil => rw [toPyL, PySem.PyData.eqvAll]; rfl
  | cons x F =>
    rw [toPyL, PySem.PyData.eqvAll]
    · exact (decide_eq_false (by intro z; cases z)).symm
    all_goals (intros; simp_all)
theorem shaped_nil : PySem.SeqAt.shaped (toPy (.lst true [])) = true := by
  rw [toPy, toPyL]
  rfl
theorem nil_eq {z : Bool} {F : List D} {n m : Nat} (h : Rq n m (toPy (.lst z F))) (hm : m ≤ 50) : f2 pEq [.lst z F, .lst true []] = some (.val (.bl (decide (F = [])))) := by
  refine eq_of ?_
  unfold pEq
  rw [h.shaped hm, shaped_nil, eqv_nil]
  rfl
theorem nil_ne {z : Bool} {F : List D} {n m : Nat} (h : Rq n m (toPy (.lst z F))) (hm : m ≤ 50) : f2 pNe [.lst z F, .lst true []] = some (.val (.bl (!decide (F = [])))) := by
  refine ne_of ?_
  unfold pNe
  rw [h.shaped hm, shaped_nil, eqv_nil]
  rfl
theorem rq_lst {z : Bool} {ds : List D} {n m : Nat} (h : ∀ d ∈ ds, Rq n m (toPy d)) : Rq ((n + 1) * ds.length + 110) (m + 1) (toPy (.lst z ds)) := by
  rw [toPy]
  exact (rqls h).list
inductive Rw : D → Prop where
  | row (ds : List D) (h : ∀ d ∈ ds, Cl d) (l : ds.length ≤ 24) : Rw (.lst false ds)
  | one (d : D) (it : It d) (n : isL d = false) (rq : Rq 5000 3 (toPy d)) : Rw d
theorem Rw.it {d : D} (h : Rw d) : It d := by
  cases h with
  | row ds h l => exact it_list fun d hd => (h d hd).it
  | one d it n rq => exact it
theorem Rw.rq {d : D} (h : Rw d) : Rq 5000 3 (toPy d) := by
  cases h with
  | row ds h l => exact (rq_lst fun d hd => (h d hd).rq).mono (by omega) (by omega)
  | one d it n rq => exact rq
theorem rws_colds {rows : List D} (h : ∀ r ∈ rows, Rw r) : colds rows = true := its_colds fun d hd => (h d hd).it
theorem rws_frz {rows : List D} (h : ∀ r ∈ rows, Rw r) : frzL rows = rows := its_frz fun d hd => (h d hd).it
theorem rws_rq {rows : List D} {z : Bool} (h : ∀ r ∈ rows, Rw r) (l : rows.length ≤ 60) : Rq 400000 4 (toPy (.lst z rows)) := (rq_lst fun d hd => (h d hd).rq).mono (by omega) (by omega)
def badR : D → Bool
  | .lst _ ds => decide (ds = [])
  | _ => true
theorem badR_one {d : D} (h : isL d = false) : badR d = true := by
  cases d with
  | lst o xs => cases h
  | _ => rfl
theorem le1_ok {r : D} (h : Rw r) (y0 y1 y2 y3 y4 y5 : Option D) : le1_round_by_index [y0, y1, y2, y3, y4, y5, some r] = .ok (.bl (badR r)) [y0, y1, y2, y3, y4, y5, some r] := by
  have isl := isi_list h.it
  unfold le1_round_by_index
  cases h with
  | row ds h l => exact xOrF (xNot (p := true) (xOsv rfl xC rfl isl rfl)) (xOsv rfl (xLst xANil rfl) rfl (nil_eq (Rw.rq (.row ds h l)) (by omega)) rfl)
  | one d it n rq =>
    rw [n] at isl
    rw [badR_one n]
    exact xOrT (xNot (p := false) (xOsv rfl xC rfl isl rfl))
/-- the rows that both functions take to be rounds -/
def Good (n : Nat) (rows : List D) (J : List (List Nat)) : Prop := rows = rowF (J.map natD) ∧ (∀ row ∈ J, row ≠ []) ∧ J.flatten.Perm (List.range n)
structure KnS (l : List Nat) (kvs : List (L2.Key × D)) : Prop where
  yes : ∀ x : Nat, x ∈ l → (valD kvs (.inl (x : Int))).isSome = true
  no : ∀ x : Nat, x ∉ l → valD kvs (.inl (x : Int)) = none
  len : kvs.length = l.length
theorem kns_put {l : List Nat} {kvs : List (L2.Key × D)} {x : Nat} {d : D} (h : KnS l kvs) (hx : x ∉ l) : KnS (l ++ [x]) (putKD kvs (.inl (x : Int)) d) := by
  have inj : ∀ y : Nat, (Sum.inl (y : Int) : L2.Key) = .inl (x : Int) → y = x := fun y z => by
    have : (y : Int) = x := Sum.inl.inj z
    omega
  refine ⟨fun y hy => ?_, fun y hy => ?_, by rw [putKD_new (h.no x hx), h.len, List.length_append]; rfl⟩
  · rw [valD_put]
    by_cases e : (Sum.inl (y : Int) : L2.Key) = .inl (x : Int)
    · rw [if_pos e]; rfl
    · rw [if_neg e]
      rcases List.mem_append.mp hy with hy | hy
      · exact h.yes y hy
      · rw [List.mem_singleton.mp hy] at e
        exact absurd rfl e
  · rw [valD_put]
    by_cases e : (Sum.inl (y : Int) : L2.Key) = .inl (x : Int)
    · exact absurd (List.mem_append_right _ (by rw [inj y e]; exact List.mem_cons_self)) hy
    · rw [if_neg e]
      exact h.no y fun z => hy (List.mem_append_left _ z)
/-- one cell -/
theorem cell_may (lS : ss.length ≤ 1000) {d : D} (hd : Cl d) {l : List Nat} {kvs : List (L2.Key × D)} (hk : KnS l kvs) (hl : l.length ≤ 3000) (r : Nat) (v4 : D) (y1 : Option D) :
    (∃ x kvs', d = .int ((x : Nat) : Int) ∧ x < ss.length ∧ x ∉ l ∧ KnS (l ++ [x]) kvs' ∧ fb2_round_by_index [some (net false w ss), y1, some (.dic true kvs), some (.int (r : Int)), some v4, some d, none] = .next [some (net false w ss), y1, some (.dic true kvs'), some (.int (r : Int)), some v4, some d, none]) ∨
    ∃ st, fb2_round_by_index [some (net false w ss), y1, some (.dic true kvs), some (.int (r : Int)), some v4, some d, none] = .ret .non st := by
  obtain ⟨pl, ll⟩ := len_ok w ss
  obtain ⟨pi, ii⟩ := is_any hd.it 0 ((ss.length : Int) - 1)
  have ca : (eCall m_is_integer (aCons (eN 5) (aCons (eC (.int 0)) (aCons (eOp oSub [.v (eLenI 0 m_Network___len__ (.v (eFz (eN 0)))), .v (eC (.int 1))]) aNil)))) [some (net false w ss), y1, some (.dic true kvs), some (.int (r : Int)), some v4, some d, none] = .ok (.bl (isInt d 0 ((ss.length : Int) - 1))) [some (net false w ss), y1, some (.dic true kvs), some (.int (r : Int)), some v4, some d, none] :=
    xCall (ds := [d, .int 0, .int ((ss.length : Int) - 1)]) (xACons (xN rfl hd.it.hot) (xACons xC (xACons (xOvv (xLenI (xFz (xN rfl rfl) frz_net) rfl ll (Nat.blt_eq.mpr (by omega))) xC sub_i rfl) xANil))) ii
  cases ei : isInt d 0 ((ss.length : Int) - 1) with
  | false =>
    rw [ei] at ca
    refine .inr ⟨[some (net false w ss), y1, some (.dic true kvs), some (.int (r : Int)), some v4, some d, none], ?_⟩
    unfold fb2_round_by_index
    exact zSeqR (zYes (cOrT (cNotT (cE ca))) (zRet xC))
  | true =>
    rw [ei] at ca
    obtain ⟨z, rfl, hz⟩ : ∃ z : Int, d = .int z ∧ 0 ≤ z ∧ z ≤ (ss.length : Int) - 1 := by
      cases d with
      | int z => exact ⟨z, rfl, of_decide_eq_true ei⟩
      | _ => cases ei
    obtain ⟨x, rfl⟩ : ∃ x : Nat, z = (x : Int) := ⟨z.toNat, by omega⟩
    by_cases hx : x ∈ l
    · refine .inr ⟨[some (net false w ss), y1, some (.dic true kvs), some (.int (r : Int)), some v4, some (.int (x : Int)), none], ?_⟩
      unfold fb2_round_by_index
      exact zSeqR (zYes (cOrF (cNotF (cE ca)) (cE (p := true) (xOss rfl rfl (oDIn_i (hk.yes x hx)) rfl))) (zRet xC))
    · refine .inl ⟨x, putKD kvs (.inl (x : Int)) (.int (r : Int)), rfl, by omega, hx, kns_put hk hx, ?_⟩
      have hkl := hk.len
      have e : (valD kvs (.inl (x : Int))).isSome = false := by rw [hk.no x hx]; rfl
      unfold fb2_round_by_index
      refine zSeq (zNo (cOrF (cNotF (cE ca)) (cE (xOss rfl rfl (oDIn_i e) rfl))) rfl) ?_
      refine zAsg (d := .int (r : Int)) (st1 := [some (net false w ss), y1, some (.dic true kvs), some (.int (r : Int)), some v4, some (.int (x : Int)), none]) (xN rfl rfl) ?_
      show (if kvs.length < 16777216 then Res.ok () _ else .fail) = _
      rw [if_pos (by omega)]
      rfl
/-- one row -/
theorem row_may (lS : ss.length ≤ 1000) {ds : List D} (hd : ∀ d ∈ ds, Cl d) (ld : ds.length ≤ 24) {l : List Nat} {kvs : List (L2.Key × D)} (hk : KnS l kvs) (hl : l.length ≤ 2900) (r : Nat) (y1 y5 : Option D) :
    (∃ q kvs' y5', ds = nums (natD q) ∧ (∀ x ∈ q, x < ss.length) ∧ (l.Nodup → (l ++ q).Nodup) ∧ KnS (l ++ q) kvs' ∧ fb3_round_by_index [some (net false w ss), y1, some (.dic true kvs), some (.int (r : Int)), some (.lst false ds), y5, none] = .next [some (net false w ss), y1, some (.dic true kvs'), some (.int (r : Int)), some (.lst false ds), y5', none]) ∨
    ∃ st, fb3_round_by_index [some (net false w ss), y1, some (.dic true kvs), some (.int (r : Int)), some (.lst false ds), y5, none] = .ret .non st := by
  have F := forD_may (g := fg2_round_by_index) (body := fb2_round_by_index) (fun k st => ∃ q kvs' y5', ds.take k = nums (natD q) ∧ (∀ x ∈ q, x < ss.length) ∧ (l.Nodup → (l ++ q).Nodup) ∧ KnS (l ++ q) kvs' ∧ st = [some (net false w ss), y1, some (.dic true kvs'), some (.int (r : Int)), some (.lst false ds), y5', none]) .non
    ds 0 [some (net false w ss), y1, some (.dic true kvs), some (.int (r : Int)), some (.lst false ds), y5, none] ⟨[], kvs, y5, rfl, fun x hx => (by cases hx), fun h => (by rw [List.append_nil]; exact h), (by rw [List.append_nil]; exact hk), rfl⟩ (fun k d st ed hI => by
      obtain ⟨q, kvs', y5', h1, h2, h3, h4, rfl⟩ := hI
      rw [Nat.zero_add] at h1 ⊢
      have lq : q.length ≤ 24 := by
        have := congrArg List.length h1
        rw [nums_len, List.length_take] at this
        unfold natD at this
        rw [List.length_map] at this
        omega
      have md := List.mem_of_getElem? ed
      refine ⟨[some (net false w ss), y1, some (.dic true kvs'), some (.int (r : Int)), some (.lst false ds), some d, none], rfl, ?_⟩
      rcases cell_may (w := w) lS (hd d md) h4 (by rw [List.length_append]; omega) r (.lst false ds) y1 with ⟨x, kv2, rfl, g1, g2, g3, g4⟩ | ⟨st, e⟩
      · refine .inl ⟨_, g4, q ++ [x], kv2, _, ?_, ?_, ?_, ?_, rfl⟩
        · rw [List.take_succ, ed, h1]
          unfold nums natD
          rw [List.map_append, List.map_append]
          rfl
        · intro y hy
          rcases List.mem_append.mp hy with hy | hy
          · exact h2 y hy
          · rw [List.mem_singleton.mp hy]; exact g1
        · intro nd
          rw [← List.append_assoc]
          exact List.nodup_append.mpr ⟨h3 nd, List.nodup_cons.mpr ⟨by simp, List.nodup_nil⟩, fun a ha b hb => by rw [List.mem_singleton.mp hb]; rintro rfl; exact g2 ha⟩
        · rw [← List.append_assoc]; exact g3
      · exact .inr ⟨st, e⟩)
  have src : iE (eN 4) lstItems [some (net false w ss), y1, some (.dic true kvs), some (.int (r : Int)), some (.lst false ds), y5, none] = .ok ds [some (net false w ss), y1, some (.dic true kvs), some (.int (r : Int)), some (.lst false ds), y5, none] := wE (xN rfl rfl) lst_it (its_colds fun d hx => (hd d hx).it)
  rcases F with ⟨st', F, q, kvs', y5', h1, h2, h3, h4, rfl⟩ | ⟨st', F⟩
  · rw [Nat.zero_add, List.take_length] at h1
    refine .inl ⟨q, kvs', y5', h1, h2, h3, h4, ?_⟩
    unfold fb3_round_by_index
    exact zFor src F
  · refine .inr ⟨st', ?_⟩
    unfold fb3_round_by_index
    exact zFor src F
theorem isl_l {ds : List D} {z : Bool} : oIsiB "list" [.lst z ds, .ty "list"] = some (.val (.bl true)) := by simp [oIsiB, tyName, noScr, kb_list_list]
theorem perm_range {l : List Nat} {n : Nat} (nd : l.Nodup) (lt : ∀ x ∈ l, x < n) (ln : l.length = n) : l.Perm (List.range n) :=
  (List.perm_ext_iff_of_nodup nd List.nodup_range).mpr fun x => ⟨fun hx => List.mem_range.mpr (lt x hx), fun hx => by
    have hx := List.mem_range.mp hx
    refine Decidable.byContradiction fun hn => ?_
    have := List.Nodup.length_le_of_subset (l₁ := x :: l) (l₂ := List.range n) (List.nodup_cons.mpr ⟨hn, nd⟩) fun y hy => by
      rcases List.mem_cons.mp hy with e | hy
      · rw [e]; exact List.mem_range.mpr hx
      · exact List.mem_range.mpr (lt y hy)
    rw [List.length_cons, List.length_range] at this
    omega⟩
/-- no rounds: the answer is None -/
theorem round_no (lS : ss.length ≤ 1000) {rows : List D} (hr : ∀ r ∈ rows, Rw r) (lr : rows.length ≤ 60) (no : ¬ ∃ J, Good ss.length rows J) : ∃ ps, m_round_by_index [net false w ss, .lst false rows] = .ok .non ps := by
  have c : eLc (iE (eN 1) lstItems) lg1_round_by_index tYesM le1_round_by_index [6] [some (net false w ss), some (.lst false rows), none, none, none, none, none] = .ok (.lst true (rows.map fun r => D.bl (badR r))) [some (net false w ss), some (.lst false rows), none, none, none, none, none] := by
    refine xLcA (fun r : D => r) (fun r => D.bl (badR r)) rows (ds := rows) (st1 := [some (net false w ss), some (.lst false rows), none, none, none, none, none]) (wE (xN rfl rfl) lst_it (rws_colds hr)) (by rw [List.map_id']) (by omega) (by show 6 < 7; decide) rfl (fun r _ => rfl) (fun r hx => ?_) rfl
    exact le1_ok (hr r hx) _ _ _ _ _ _
  have an := any_bools badR rows
  obtain ⟨pl, ll⟩ := len_ok w ss
  by_cases hb : rows.any badR = true
  · rw [hb] at an
    refine ⟨_, fn_go (n := 2) (w := 7) (L := [0, 1]) (ds := [net false w ss, .lst false rows]) (st := [some (net false w ss), some (.lst false rows), none, none, none, none, none]) (d := .non) rfl ?_⟩
    show b_round_by_index [some (net false w ss), some (.lst false rows), none, none, none, none, none] = _
    unfold b_round_by_index
    exact zSeqR (zYes (cOrF (cNotF (cE (xOsv rfl xC rfl isl_l rfl))) (cE (xOv c an rfl))) (zRet xC))
  · have hb : rows.any badR = false := by simpa using hb
    rw [hb] at an
    have F := forD_may (g := fg3_round_by_index) (body := fb3_round_by_index) (fun k st => ∃ J kvs y3 y4 y5, rows.take k = rowF (J.map natD) ∧ (∀ x ∈ J.flatten, x < ss.length) ∧ J.flatten.Nodup ∧ J.flatten.length ≤ 24 * k ∧ KnS J.flatten kvs ∧ st = [some (net false w ss), some (.lst false rows), some (.dic true kvs), y3, y4, y5, none]) .non
      (enumD 0 rows) 0 [some (net false w ss), some (.lst false rows), some (.dic true []), none, none, none, none] ⟨[], [], none, none, none, rfl, fun x hx => (by cases hx), List.nodup_nil, Nat.zero_le _, ⟨fun x hx => (by cases hx), fun x _ => rfl, rfl⟩, rfl⟩ (fun k d st ed hI => by
        obtain ⟨J, kvs, y3, y4, y5, h1, h2, h3, h5, h4, rfl⟩ := hI
        rw [Nat.zero_add] at h1 h5 ⊢
        obtain ⟨d', e3, rfl⟩ := enumD_get ed
        rw [Nat.zero_add]
        have md := List.mem_of_getElem? e3
        have kl := (List.getElem?_eq_some_iff.mp e3).1
        refine ⟨[some (net false w ss), some (.lst false rows), some (.dic true kvs), some (.int (k : Int)), some d', y5, none], rfl, ?_⟩
        have nb : badR d' = false := by
          have := List.any_eq_false.mp hb d' md
          simpa using this
        have rw' := hr d' md
        cases rw' with
        | one d it n rq => rw [badR_one n] at nb; cases nb
        | row ds hds ld =>
          rcases row_may (w := w) lS hds ld h4 (by omega) k (some (.lst false rows)) y5 with ⟨q, kv2, y5', g1, g2, g3, g4, g5⟩ | ⟨st, e⟩
          · refine .inl ⟨_, g5, J ++ [q], kv2, _, _, _, ?_, ?_, ?_, ?_, ?_, rfl⟩
            · rw [List.take_succ, e3, h1, g1]
              unfold rowF
              rw [List.map_append, List.map_append]
              rfl
            · intro x hx
              rw [List.flatten_append] at hx
              rcases List.mem_append.mp hx with hx | hx
              · exact h2 x hx
              · rw [List.flatten_cons, List.flatten_nil, List.append_nil] at hx; exact g2 x hx
            · rw [List.flatten_append, List.flatten_cons, List.flatten_nil, List.append_nil]; exact g3 h3
            · have lq : q.length = ds.length := by rw [g1, nums_len]; unfold natD; rw [List.length_map]
              rw [List.flatten_append, List.flatten_cons, List.flatten_nil, List.append_nil, List.length_append]
              omega
            · rw [List.flatten_append, List.flatten_cons, List.flatten_nil, List.append_nil]; exact g4
          · exact .inr ⟨st, e⟩)
    have pre : ∀ {R : SR}, (sSeq (sFor (iEn (eN 1)) fg3_round_by_index fb3_round_by_index) (sRet (eIf (tE (eOp (f2 pEq) [.v (eOp oLenD [.s 2]), .v (eLenI 0 m_Network___len__ (.v (eFz (eN 0))))])) (eN 2) (eC .non)))) [some (net false w ss), some (.lst false rows), some (.dic true []), none, none, none, none] = R → b_round_by_index [some (net false w ss), some (.lst false rows), none, none, none, none, none] = R := fun h => by
      unfold b_round_by_index
      refine zSeq (zNo (cOrF (cNotF (cE (xOsv rfl xC rfl isl_l rfl))) (cE (xOv c an rfl))) rfl) (zSeq (st1 := [some (net false w ss), some (.lst false rows), some (.dic true []), none, none, none, none]) ?_ h)
      exact zAsg rfl rfl
    have go : ∀ {st : Sl}, b_round_by_index [some (net false w ss), some (.lst false rows), none, none, none, none, none] = .ret .non st → ∃ ps, m_round_by_index [net false w ss, .lst false rows] = .ok .non ps := fun h => ⟨_, fn_go (n := 2) (w := 7) (L := [0, 1]) (ds := [net false w ss, .lst false rows]) rfl h⟩
    rcases F with ⟨st', F, J, kvs, y3, y4, y5, h1, h2, h3, h5, h4, rfl⟩ | ⟨st', F⟩
    · rw [Nat.zero_add, enumD_length, List.take_length] at h1
      have ne : ∀ row ∈ J, row ≠ [] := fun row hrow e => by
        have m : D.lst false (nums (natD row)) ∈ rows := by
          rw [h1]
          exact List.mem_map.mpr ⟨natD row, List.mem_map.mpr ⟨row, hrow, rfl⟩, rfl⟩
        have := List.any_eq_false.mp hb _ m
        rw [e] at this
        exact this rfl
      have nl : J.flatten.length ≠ ss.length := fun e => no ⟨J, h1, ne, perm_range h3 h2 e⟩
      have ld : oLenD [.dic true kvs] = some (.val (.int (kvs.length : Int))) := rfl
      have eq := eq_of (pEq_int (kvs.length : Int) (ss.length : Int))
      rw [decide_eq_false (by rw [h4.len]; omega)] at eq
      have t : (eOp (f2 pEq) [.v (eOp oLenD [.s 2]), .v (eLenI 0 m_Network___len__ (.v (eFz (eN 0))))]) [some (net false w ss), some (.lst false rows), some (.dic true kvs), y3, y4, y5, none] = .ok (.bl false) [some (net false w ss), some (.lst false rows), some (.dic true kvs), y3, y4, y5, none] :=
        xOvv (xOs rfl ld rfl) (xLenI (xFz (xN rfl rfl) frz_net) rfl ll (Nat.blt_eq.mpr (by omega))) eq rfl
      exact go (pre (zSeq (zFor (wEn0 (xN rfl rfl) (rws_colds hr)) F) (zRet (xIfF (cE t) xC))))
    · exact go (pre (zSeqR (zFor (wEn0 (xN rfl rfl) (rws_colds hr)) F)))
end
/-! ### the order -/
theorem forD_dec {g : MG} {body : MS} (I : Nat → Sl → Prop) (v : D) (b : Nat → Bool) : ∀ (ds : List D) (k : Nat) (st : Sl), I k st → (∀ j, j < k → b j = false) →
    (∀ (i : Nat) (d : D) (st : Sl), ds[i]? = some d → (∀ j, j < k + i → b j = false) → I (k + i) st → ∃ st1, g d st = .ok () st1 ∧ if b (k + i) = true then ∃ st2, body st1 = .ret v st2 else ∃ st2, body st1 = .next st2 ∧ I (k + i + 1) st2) →
    if (List.range (k + ds.length)).any b = true then ∃ st', forD g body ds st = .ret v st' else ∃ st', forD g body ds st = .next st' ∧ I (k + ds.length) st'
  | [], k, st, h, hb, _ => by
    have : (List.range (k + ([] : List D).length)).any b = false := List.any_eq_false.mpr fun x hx => by
      have := hb x (by have := List.mem_range.mp hx; simpa using this)
      rw [this]; decide
    rw [this]
    exact ⟨st, rfl, h⟩
  | d :: ds, k, st, h, hb, hs => by
    obtain ⟨st1, e1, e2⟩ := hs 0 d st rfl hb h
    rw [Nat.add_zero] at e2
    cases eb : b k with
    | true =>
      rw [eb] at e2
      obtain ⟨st2, e2⟩ := e2
      have : (List.range (k + (d :: ds).length)).any b = true := List.any_eq_true.mpr ⟨k, List.mem_range.mpr (by rw [List.length_cons]; omega), eb⟩
      rw [this]
      exact ⟨st2, forD_ret e1 e2⟩
    | false =>
      rw [eb] at e2
      obtain ⟨st2, e2, h2⟩ := e2
      have ih := forD_dec I v b ds (k + 1) st2 h2 (fun j hj => by
        by_cases e : j = k
        · rw [e]; exact eb
        · exact hb j (by omega)) (fun i d' st3 e hb4 h4 => by
        have := hs (i + 1) d' st3 (by simpa using e) (by rw [show k + (i + 1) = k + 1 + i by omega]; exact hb4) (by rw [show k + (i + 1) = k + 1 + i by omega]; exact h4)
        rw [show k + (i + 1) = k + 1 + i by omega] at this
        exact this)
      rw [show k + 1 + ds.length = k + (d :: ds).length by rw [List.length_cons]; omega] at ih
      cases ea : (List.range (k + (d :: ds).length)).any b with
      | true =>
        rw [ea] at ih
        obtain ⟨st', e3⟩ := ih
        exact ⟨st', forD_cons e1 e2 e3⟩
      | false =>
        rw [ea] at ih
        obtain ⟨st', e3, h3⟩ := ih
        exact ⟨st', forD_cons e1 e2 e3, h3⟩
/-- the step i is not behind all the steps near it -/
def lateB (ss : List Int) (f : Nat → Nat) (i : Nat) : Bool := ((List.range i).filter fun j => decide ((if ss.getD j 0 - ss.getD i 0 < 0 then -(ss.getD j 0 - ss.getD i 0) else ss.getD j 0 - ss.getD i 0) < 2)).any fun j => decide (f i ≤ f j)
theorem lateB_iff {ss : List Int} {f : Nat → Nat} {i : Nat} : lateB ss f i = true ↔ ∃ j, j < i ∧ nr (ss.getD j 0) (ss.getD i 0) ∧ f i ≤ f j := by
  unfold lateB
  rw [List.any_eq_true]
  constructor
  · rintro ⟨j, hj, h⟩
    obtain ⟨h1, h2⟩ := List.mem_filter.mp hj
    have h2 := of_decide_eq_true h2
    refine ⟨j, List.mem_range.mp h1, ?_, of_decide_eq_true h⟩
    unfold nr
    split at h2 <;> exact ⟨by omega, by omega⟩
  · rintro ⟨j, h1, ⟨h2, h4⟩, h3⟩
    refine ⟨j, List.mem_filter.mpr ⟨List.mem_range.mpr h1, decide_eq_true ?_⟩, decide_eq_true h3⟩
    split <;> omega
theorem getD_at {ss : List Int} {i : Nat} {s : Int} (h : ss[i]? = some s) : ss.getD i 0 = s := by
  rw [List.getD_eq_getElem?_getD, h]
  rfl
section
variable {w : Int} {ss : List Int} {f : Nat → Nat}
/-- one neighbour -/
theorem near_dec {i : Nat} {kvs kv2 : List (L2.Key × D)} (hk : Kn f (List.range ss.length) kvs) (hi : i < ss.length) (hL : La ss i kv2) (x : Int) (y0 y1 : Option D) (v5 : D) (ok : ∀ i', i' < i → ∀ j, j < i' → ss[j]? = some x → ss[i']? = some x → f j < f i') :
    if (List.range i).any (fun j => decide (ss[j]? = some x) && decide (f i ≤ f j)) = true then fb1_is_schedule [y0, y1, some (.dic false kvs), some (.dic true kv2), some (.int (i : Int)), some v5, some (.int x)] = .ret (.bl false) [y0, y1, some (.dic false kvs), some (.dic true kv2), some (.int (i : Int)), some v5, some (.int x)]
    else fb1_is_schedule [y0, y1, some (.dic false kvs), some (.dic true kv2), some (.int (i : Int)), some v5, some (.int x)] = .next [y0, y1, some (.dic false kvs), some (.dic true kv2), some (.int (i : Int)), some v5, some (.int x)] := by
  cases e : valD kv2 (.inl x) with
  | none =>
    have : (List.range i).any (fun j => decide (ss[j]? = some x) && decide (f i ≤ f j)) = false := List.any_eq_false.mpr fun j hj => by
      have := hL.no x e j (List.mem_range.mp hj)
      rw [decide_eq_false this, Bool.false_and]
      decide
    rw [this]
    show fb1_is_schedule _ = _
    unfold fb1_is_schedule
    exact zNo (cAndF (cE (xOss rfl rfl (oDIn_i (by rw [e]; rfl)) rfl))) rfl
  | some d =>
    obtain ⟨j, rfl, hj, hs, hm⟩ := hL.yes x d e
    have k1 := hk j (List.mem_range.mpr (by omega))
    have k2 := hk i (List.mem_range.mpr hi)
    have i1 : oDIn false [.int x, .dic true kv2] = some (.val (.bl true)) := oDIn_i (by rw [e]; rfl)
    have ge : f2 pGe [.int (f j : Int), .int (f i : Int)] = some (.val (.bl (decide ((f i : Int) ≤ (f j : Int))))) := ge_i
    have same : (List.range i).any (fun j => decide (ss[j]? = some x) && decide (f i ≤ f j)) = decide ((f i : Int) ≤ (f j : Int)) := by
      by_cases q : f i ≤ f j
      · rw [decide_eq_true (show (f i : Int) ≤ (f j : Int) by omega)]
        exact List.any_eq_true.mpr ⟨j, List.mem_range.mpr hj, by rw [decide_eq_true hs, decide_eq_true q]; rfl⟩
      · rw [decide_eq_false (show ¬ (f i : Int) ≤ (f j : Int) by omega)]
        refine List.any_eq_false.mpr fun j' hj' => ?_
        have hj' := List.mem_range.mp hj'
        intro z
        rw [Bool.and_eq_true] at z
        have z1 := of_decide_eq_true z.1
        have z2 := of_decide_eq_true z.2
        by_cases c : j < j'
        · exact hm j' c hj' z1
        · by_cases c2 : j' = j
          · subst c2; exact q z2
          · have := ok j hj j' (by omega) z1 hs
            omega
    rw [same]
    by_cases q : (f i : Int) ≤ (f j : Int)
    · rw [decide_eq_true q] at ge ⊢
      show fb1_is_schedule _ = _
      unfold fb1_is_schedule
      exact zYes (cAndT (cE (xOss rfl rfl i1 rfl)) (cE (p := true) (xOvv (xOsv rfl (xOss rfl rfl (oDx_i e rfl) rfl) rfl (oDx_i k1 rfl) rfl) (xOss rfl rfl (oDx_i k2 rfl) rfl) ge rfl))) (zRet xC)
    · rw [decide_eq_false q] at ge ⊢
      show fb1_is_schedule _ = _
      unfold fb1_is_schedule
      exact zNo (cAndT (cE (xOss rfl rfl i1 rfl)) (cE (p := false) (xOvv (xOsv rfl (xOss rfl rfl (oDx_i e rfl) rfl) rfl (oDx_i k1 rfl) rfl) (xOss rfl rfl (oDx_i k2 rfl) rfl) ge rfl))) rfl
/-- one step -/
theorem step_dec {k : Nat} {s : Int} {kvs kv2 : List (L2.Key × D)} (hk : Kn f (List.range ss.length) kvs) (es : ss[k]? = some s) (lS : ss.length ≤ 1000) (hL : La ss k kv2) (ok : ∀ j, j < k → lateB ss f j = false) (y0 y1 y6 : Option D) :
    if lateB ss f k = true then ∃ st, fb2_is_schedule [y0, y1, some (.dic false kvs), some (.dic true kv2), some (.int (k : Int)), some (.int s), y6] = .ret (.bl false) st
    else ∃ kv3, La ss (k + 1) kv3 ∧ fb2_is_schedule [y0, y1, some (.dic false kvs), some (.dic true kv2), some (.int (k : Int)), some (.int s), y6] = .next [y0, y1, some (.dic false kvs), some (.dic true kv3), some (.int (k : Int)), some (.int s), some (.int (s + 1))] := by
  have hks := (List.getElem?_eq_some_iff.mp es).1
  have ok2 : ∀ x : Int, ∀ i', i' < k → ∀ j, j < i' → ss[j]? = some x → ss[i']? = some x → f j < f i' := fun x i' hi' j hj e1 e2 => by
    have := ok i' hi'
    refine Decidable.byContradiction fun hn => ?_
    rw [lateB_iff.mpr ⟨j, hj, by rw [getD_at e1, getD_at e2]; exact ⟨by omega, by omega⟩, by omega⟩] at this
    cases this
  have src : (iE (eTup (aCons (eOp oSub [.s 5, .v (eC (.int 1))]) (aCons (eN 5) (aCons (eOp oAdd [.s 5, .v (eC (.int 1))]) aNil)))) tupItems) [y0, y1, some (.dic false kvs), some (.dic true kv2), some (.int (k : Int)), some (.int s), y6] = .ok [.int (s - 1), .int s, .int (s + 1)] [y0, y1, some (.dic false kvs), some (.dic true kv2), some (.int (k : Int)), some (.int s), y6] :=
    wE (xTup (xACons (xOsv rfl xC rfl sub_i rfl) (xACons (xN rfl rfl) (xACons (xOsv rfl xC rfl add_i rfl) xANil))) rfl (fzL_c fz_i (fzL_c fz_i (fzL_c fz_i fzL_n)))) tup_it rfl
  have T := fun x : Int => near_dec hk hks hL x y0 y1 (.int s) (ok2 x)
  have hit : ∀ x : Int, nr x s → (List.range k).any (fun j => decide (ss[j]? = some x) && decide (f k ≤ f j)) = true → lateB ss f k = true := fun x hx h => by
    obtain ⟨j, hj, h⟩ := List.any_eq_true.mp h
    rw [Bool.and_eq_true] at h
    exact lateB_iff.mpr ⟨j, List.mem_range.mp hj, by rw [getD_at (of_decide_eq_true h.1), getD_at es]; exact hx, of_decide_eq_true h.2⟩
  have t1 := T (s - 1)
  have t2 := T s
  have t3 := T (s + 1)
  cases b1 : (List.range k).any (fun j => decide (ss[j]? = some (s - 1)) && decide (f k ≤ f j)) with
  | true =>
    rw [b1] at t1
    rw [hit (s - 1) ⟨by omega, by omega⟩ b1]
    refine ⟨[y0, y1, some (.dic false kvs), some (.dic true kv2), some (.int (k : Int)), some (.int s), some (.int (s - 1))], ?_⟩
    unfold fb2_is_schedule
    exact zSeqR (zFor src (forD_ret rfl t1))
  | false =>
    rw [b1] at t1
    cases b2 : (List.range k).any (fun j => decide (ss[j]? = some s) && decide (f k ≤ f j)) with
    | true =>
      rw [b2] at t2
      rw [hit s ⟨by omega, by omega⟩ b2]
      refine ⟨[y0, y1, some (.dic false kvs), some (.dic true kv2), some (.int (k : Int)), some (.int s), some (.int s)], ?_⟩
      unfold fb2_is_schedule
      exact zSeqR (zFor src (forD_cons rfl t1 (forD_ret rfl t2)))
    | false =>
      rw [b2] at t2
      cases b3 : (List.range k).any (fun j => decide (ss[j]? = some (s + 1)) && decide (f k ≤ f j)) with
      | true =>
        rw [b3] at t3
        rw [hit (s + 1) ⟨by omega, by omega⟩ b3]
        refine ⟨[y0, y1, some (.dic false kvs), some (.dic true kv2), some (.int (k : Int)), some (.int s), some (.int (s + 1))], ?_⟩
        unfold fb2_is_schedule
        exact zSeqR (zFor src (forD_cons rfl t1 (forD_cons rfl t2 (forD_ret rfl t3))))
      | false =>
        rw [b3] at t3
        have nl : lateB ss f k = false := by
          cases c : lateB ss f k with
          | false => rfl
          | true =>
            obtain ⟨j, hj, hn, hf⟩ := lateB_iff.mp c
            obtain ⟨t, et⟩ : ∃ t, ss[j]? = some t := ⟨ss[j], by simp [show j < ss.length by omega]⟩
            rw [getD_at et, getD_at es] at hn
            have q : ∀ x, t = x → (List.range k).any (fun j => decide (ss[j]? = some x) && decide (f k ≤ f j)) = true := fun x hx => List.any_eq_true.mpr ⟨j, List.mem_range.mpr hj, by rw [et, hx, decide_eq_true hf]; simp⟩
            obtain ⟨h1, h2⟩ := hn
            rcases (show t = s - 1 ∨ t = s ∨ t = s + 1 by omega) with h | h | h
            · rw [q _ h] at b1; cases b1
            · rw [q _ h] at b2; cases b2
            · rw [q _ h] at b3; cases b3
        rw [nl]
        have hll := hL.len
        refine ⟨putKD kv2 (.inl s) (.int (k : Int)), la_put hL es, ?_⟩
        unfold fb2_is_schedule
        refine zSeq (st1 := [y0, y1, some (.dic false kvs), some (.dic true kv2), some (.int (k : Int)), some (.int s), some (.int (s + 1))]) (zFor src (forD_cons rfl t1 (forD_cons rfl t2 (forD_cons rfl t3 rfl)))) ?_
        refine zAsg (d := .int (k : Int)) (st1 := [y0, y1, some (.dic false kvs), some (.dic true kv2), some (.int (k : Int)), some (.int s), some (.int (s + 1))]) (xN rfl rfl) ?_
        show (if kv2.length < 16777216 then Res.ok () _ else .fail) = _
        rw [if_pos (by omega)]
        rfl
/-- the number of the row in which x stands -/
def rowOf (J : List (List Nat)) (x : Nat) : Nat := J.findIdx fun row => decide (x ∈ row)
theorem rowOf_at {J : List (List Nat)} (nd : J.flatten.Nodup) {r : Nat} {row : List Nat} (e : J[r]? = some row) {x : Nat} (hx : x ∈ row) : rowOf J x = r := by
  induction J generalizing r with
  | nil => simp at e
  | cons a J ih =>
    rw [List.flatten_cons, List.nodup_append] at nd
    obtain ⟨n1, n2, n3⟩ := nd
    unfold rowOf
    rw [List.findIdx_cons]
    cases r with
    | zero =>
      obtain rfl : a = row := by simpa using e
      rw [decide_eq_true hx]
      rfl
    | succ r =>
      have e : J[r]? = some row := by simpa using e
      have hf : x ∈ J.flatten := List.mem_flatten.mpr ⟨row, List.mem_of_getElem? e, hx⟩
      have na : x ∉ a := fun h => n3 x h x hf rfl
      rw [decide_eq_false na]
      show J.findIdx _ + 1 = r + 1
      have := ih n2 e
      unfold rowOf at this
      rw [this]
/-- is_schedule of rounds -/
theorem isch_good {rows : List D} {J : List (List Nat)} (g : Good ss.length rows J) (lr : rows.length ≤ 60) (lS : ss.length ≤ 1000) : ∃ ps, m_is_schedule [net false w ss, .lst false rows] = .ok (.bl (!(List.range ss.length).any (lateB ss (rowOf J)))) ps := by
  obtain ⟨e, ne, pm⟩ := g
  subst e
  have lJ2 : J.length ≤ 1000 := by
    unfold rowF at lr
    rw [List.length_map, List.length_map] at lr
    omega
  have nd : J.flatten.Nodup := pm.nodup_iff.mpr List.nodup_range
  obtain ⟨kvs, p1, e1, hk⟩ := rounds_ok (w := w) (f := rowOf J) lS pm lJ2 ne (fun r row e x hx => rowOf_at nd e hx)
  have F := forD_dec (g := fg2_is_schedule) (body := fb2_is_schedule) (fun k st => ∃ kv2 y4 y5 y6, La ss k kv2 ∧ st = [some (net false w ss), some (.lst false (rowF (J.map natD))), some (.dic false kvs), some (.dic true kv2), y4, y5, y6]) (.bl false) (lateB ss (rowOf J))
    (enumD 0 (nums ss)) 0 [some (net false w ss), some (.lst false (rowF (J.map natD))), some (.dic false kvs), some (.dic true []), none, none, none] ⟨[], none, none, none, la_nil ss, rfl⟩ (fun j hj => absurd hj (Nat.not_lt_zero j)) (fun k d st ed ok hI => by
      obtain ⟨kv2, y4, y5, y6, hL, rfl⟩ := hI
      rw [Nat.zero_add] at hL ok ⊢
      obtain ⟨d', e3, rfl⟩ := enumD_get ed
      rw [Nat.zero_add]
      unfold nums at e3
      rw [List.getElem?_map] at e3
      cases es : ss[k]? with
      | none => rw [es] at e3; cases e3
      | some s =>
        rw [es] at e3
        cases e3
        refine ⟨_, rfl, ?_⟩
        have S := step_dec hk es lS hL ok (some (net false w ss)) (some (.lst false (rowF (J.map natD)))) y6
        cases c : lateB ss (rowOf J) k with
        | true =>
          rw [c] at S
          exact S
        | false =>
          rw [c] at S
          obtain ⟨kv3, h1, h2⟩ := S
          exact ⟨_, h2, _, _, _, _, h1, rfl⟩)
  rw [Nat.zero_add, enumD_length, nums_len] at F
  have arg : (aCons (eN 0) (aCons (eN 1) aNil)) [some (net false w ss), some (.lst false (rowF (J.map natD))), none, none, none, none, none] = .ok [net false w ss, .lst false (rowF (J.map natD))] [some (net false w ss), some (.lst false (rowF (J.map natD))), none, none, none, none, none] := xACons (xN rfl rfl) (xACons (xN rfl rfl) xANil)
  have pre : ∀ {R : SR}, (sSeq (sFor (iEnT (eOp (oFld 0 "own_steps") [.s 0])) fg2_is_schedule fb2_is_schedule) (sRet (eC (.bl true)))) [some (net false w ss), some (.lst false (rowF (J.map natD))), some (.dic false kvs), some (.dic true []), none, none, none] = R → b_is_schedule [some (net false w ss), some (.lst false (rowF (J.map natD))), none, none, none, none, none] = R := fun h => by
    unfold b_is_schedule
    refine zSeq (st1 := [some (net false w ss), some (.lst false (rowF (J.map natD))), some (.dic false kvs), some (.dic true []), none, none, none]) (zPar (a := .dic false kvs) (b := .dic true []) (xACons (xCall arg e1) (xACons rfl xANil)) rfl rfl) ?_
    exact zSeq (zNo (cE (p := false) (xOsv rfl xC rfl rfl rfl)) rfl) h
  have go : ∀ {st : Sl} {d : D}, b_is_schedule [some (net false w ss), some (.lst false (rowF (J.map natD))), none, none, none, none, none] = .ret d st → ∃ ps, m_is_schedule [net false w ss, .lst false (rowF (J.map natD))] = .ok d ps := fun h => ⟨_, fn_go (n := 2) (w := 7) (L := [0, 1]) (ds := [net false w ss, .lst false (rowF (J.map natD))]) rfl h⟩
  cases c : (List.range ss.length).any (lateB ss (rowOf J)) with
  | true =>
    rw [c] at F
    obtain ⟨st', F⟩ := F
    exact go (pre (zSeqR (zFor (wEnT (xOs rfl oFld_s rfl) (nums_colds _)) F)))
  | false =>
    rw [c] at F
    obtain ⟨st', F, _⟩ := F
    exact go (pre (zSeq (zFor (wEnT (xOs rfl oFld_s rfl) (nums_colds _)) F) (zRet xC)))
/-- is_schedule of what are no rounds -/
theorem isch_none {v : D} (hv : hot v = false) {p1 : Sl} (e1 : m_round_by_index [net false w ss, v] = .ok .non p1) : ∃ ps, m_is_schedule [net false w ss, v] = .ok (.bl false) ps := by
  have arg : (aCons (eN 0) (aCons (eN 1) aNil)) [some (net false w ss), some v, none, none, none, none, none] = .ok [net false w ss, v] [some (net false w ss), some v, none, none, none, none, none] := xACons (xN rfl rfl) (xACons (xN rfl hv) xANil)
  refine ⟨_, fn_go (n := 2) (w := 7) (L := [0, 1]) (ds := [net false w ss, v]) (st := [some (net false w ss), some v, some .non, some (.dic true []), none, none, none]) (d := .bl false) rfl ?_⟩
  show b_is_schedule [some (net false w ss), some v, none, none, none, none, none] = _
  unfold b_is_schedule
  refine zSeq (st1 := [some (net false w ss), some v, some .non, some (.dic true []), none, none, none]) (zPar (a := .non) (b := .dic true []) (xACons (xCall arg e1) (xACons rfl xANil)) rfl rfl) ?_
  exact zSeqR (zYes (cE (p := true) (xOsv rfl xC rfl rfl rfl)) (zRet xC))
end
/-! ### the law's own answer -/
def cellsOf : D → List D
  | .lst _ ds => ds
  | _ => []
def intOf : D → Int
  | .int i => i
  | _ => 0
def notI : D → Bool
  | .int _ => false
  | _ => true
theorem rows_of {rows : List D} (hr : ∀ r ∈ rows, Rw r) (hb : rows.any badR = false) : rows = (rows.map cellsOf).map (D.lst false) ∧ ∀ ds ∈ rows.map cellsOf, (∀ d ∈ ds, Cl d) ∧ ds.length ≤ 24 ∧ ds ≠ [] := by
  have one : ∀ r ∈ rows, D.lst false (cellsOf r) = r ∧ (∀ d ∈ cellsOf r, Cl d) ∧ (cellsOf r).length ≤ 24 ∧ cellsOf r ≠ [] := fun r hm => by
    have nb : badR r = false := by simpa using List.any_eq_false.mp hb r hm
    have h := hr r hm
    cases h with
    | one d it n rq => rw [badR_one n] at nb; cases nb
    | row ds h l => exact ⟨rfl, h, l, of_decide_eq_false nb⟩
  refine ⟨?_, fun ds hds => ?_⟩
  · rw [List.map_map]
    have : rows.map (D.lst false ∘ cellsOf) = rows.map id := List.map_congr_left fun r hm => (one r hm).1
    rw [this, List.map_id]
  · obtain ⟨r, hm, rfl⟩ := List.mem_map.mp hds
    exact (one r hm).2
theorem flat_len {R : List (List D)} (h : ∀ ds ∈ R, ds.length ≤ 24) : R.flatten.length ≤ 24 * R.length := by
  induction R with
  | nil => exact Nat.zero_le _
  | cons a R ih =>
    have := h a List.mem_cons_self
    have := ih fun ds hds => h ds (List.mem_cons_of_mem _ hds)
    rw [List.flatten_cons, List.length_append, List.length_cons]
    omega
theorem rowsD_lst : ∀ {R : List (List D)}, (∀ ds ∈ R, colds ds = true) → rowsD (R.map (D.lst false)) = some R
  | [], _ => rfl
  | a :: R, h => by
    rw [List.map_cons, rowsD]
    show (if colds a = true then (rowsD (R.map (D.lst false))).map (a :: ·) else none) = _
    rw [if_pos (h a List.mem_cons_self), rowsD_lst fun ds hds => h ds (List.mem_cons_of_mem _ hds)]
    rfl
theorem sum_cells {z : Bool} {R : List (List D)} (h : ∀ ds ∈ R, colds ds = true) (hl : R.flatten.length ≤ 16777216) : oSumL [.lst z (R.map (D.lst false))] = some (.newL R.flatten) := by
  show (match rowsD (R.map (D.lst false)) with | some L => if L.flatten.length ≤ 16777216 then some (Out.newL L.flatten) else none | none => none) = _
  rw [rowsD_lst h]
  dsimp only
  rw [if_pos hl]
theorem ints_of {R : List (List D)} (h : ∀ d ∈ R.flatten, notI d = false) : R = (R.map fun ds => ds.map intOf).map nums := by
  have one : ∀ d, notI d = false → D.int (intOf d) = d := fun d e => by
    cases d with
    | int i => rfl
    | _ => cases e
  rw [List.map_map]
  have : R.map ((fun l => nums l) ∘ fun ds => ds.map intOf) = R.map id := List.map_congr_left fun ds hds => by
    show (ds.map intOf).map D.int = ds
    rw [List.map_map]
    have : ds.map (D.int ∘ intOf) = ds.map id := List.map_congr_left fun d hd => one d (h d (List.mem_flatten.mpr ⟨ds, hds, hd⟩))
    rw [this, List.map_id]
  rw [this, List.map_id]
theorem flat_nums54 : ∀ L : List (List Int), (L.map nums).flatten = nums L.flatten
  | [] => rfl
  | r :: L => by
    rw [List.map_cons, List.flatten_cons, List.flatten_cons, flat_nums54 L]
    unfold nums
    rw [List.map_append]
theorem rowF_inj {A B : List (List Int)} (h : rowF A = rowF B) : A = B := by
  have e : ∀ A : List (List Int), (rowF A).map (fun r => (cellsOf r).map intOf) = A := fun A => by
    unfold rowF
    rw [List.map_map]
    have : A.map ((fun r => (cellsOf r).map intOf) ∘ fun r => D.lst false (nums r)) = A.map id := List.map_congr_left fun r _ => by
      show (r.map D.int).map intOf = r
      rw [List.map_map]
      exact List.map_id r
    rw [this, List.map_id]
  rw [← e A, h, e B]
theorem natD_map (J : List (List Nat)) : (J.map natD).flatten = natD J.flatten := by
  unfold natD
  rw [List.map_flatten]
theorem natD_up (n : Nat) : (natD (List.range n)).Pairwise (· ≤ ·) := by
  unfold natD
  rw [List.pairwise_map]
  exact List.pairwise_lt_range.imp fun h => by omega
/-- sorted, the indices are those of the steps: exactly for rounds -/
theorem good_of {n : Nat} {L : List (List Int)} (ne : ∀ r ∈ L, r ≠ []) (e : srt L.flatten = natD (List.range n)) : ∃ J, Good n (rowF L) J := by
  have pm : L.flatten.Perm (natD (List.range n)) := e ▸ (srt_perm L.flatten).symm
  have nn : ∀ x ∈ L.flatten, 0 ≤ x := fun x hx => by
    obtain ⟨y, _, rfl⟩ := List.mem_map.mp (pm.mem_iff.mp hx)
    exact Int.natCast_nonneg y
  have eL : L = (L.map fun r => r.map Int.toNat).map natD := by
    rw [List.map_map]
    have : L.map (natD ∘ fun r => r.map Int.toNat) = L.map id := List.map_congr_left fun r hr => by
      show (r.map Int.toNat).map (fun (c : Nat) => (c : Int)) = r
      rw [List.map_map]
      have : r.map ((fun (c : Nat) => (c : Int)) ∘ Int.toNat) = r.map id := List.map_congr_left fun x hx => by
        have := nn x (List.mem_flatten.mpr ⟨r, hr, hx⟩)
        show ((x.toNat : Nat) : Int) = x
        omega
      rw [this, List.map_id]
    rw [this, List.map_id]
  refine ⟨L.map fun r => r.map Int.toNat, by rw [← eL], fun row hrow => ?_, ?_⟩
  · obtain ⟨r, hr, rfl⟩ := List.mem_map.mp hrow
    intro z
    exact ne r hr (List.map_eq_nil_iff.mp z)
  · have : (L.map fun r => r.map Int.toNat).flatten = L.flatten.map Int.toNat := by rw [List.map_flatten]
    rw [this]
    have := pm.map Int.toNat
    have e2 : (natD (List.range n)).map Int.toNat = List.range n := by
      unfold natD
      rw [List.map_map]
      have : (List.range n).map (Int.toNat ∘ fun (c : Nat) => (c : Int)) = (List.range n).map id := List.map_congr_left fun x _ => by show ((x : Int)).toNat = x; omega
      rw [this, List.map_id]
    rw [e2] at this
    exact this
theorem in_nat {o : Bool} {x : Nat} {row : List Nat} : oIn false [.int (x : Int), .lst o (nums (natD row))] = some (.val (.bl (decide (x ∈ row)))) := by
  show (if flat (.int (x : Int)) && (nums (natD row)).all flat then some (Out.val (.bl (if false then _ else (nums (natD row)).any fun z => eqF z (.int (x : Int))))) else none) = _
  rw [nums_flat]
  show some (Out.val (.bl ((nums (natD row)).any fun z => eqF z (.int (x : Int))))) = _
  congr 3
  unfold nums natD
  rw [List.map_map, List.any_map]
  by_cases h : x ∈ row
  · rw [decide_eq_true h]
    exact List.any_eq_true.mpr ⟨x, h, by show eqF (.int (x : Int)) (.int (x : Int)) = true; rw [eqF_int]; simp⟩
  · rw [decide_eq_false h]
    refine List.any_eq_false.mpr fun y hy => ?_
    show ¬ eqF (.int (y : Int)) (.int (x : Int)) = true
    rw [eqF_int]
    intro z
    have := of_decide_eq_true z
    have : y = x := by omega
    subst this
    exact h hy
theorem first_row {x : Nat} : ∀ (J : List (List Nat)) (k : Nat), (∃ row ∈ J, x ∈ row) → (((J.zipIdx k).filter fun p => decide (x ∈ p.1)).map fun p => D.int (p.2 : Int))[0]? = some (.int ((k + rowOf J x : Nat) : Int))
  | [], k, h => by obtain ⟨_, h, _⟩ := h; cases h
  | a :: J, k, h => by
    rw [List.zipIdx_cons]
    by_cases e : x ∈ a
    · rw [List.filter_cons_of_pos (by simpa using e)]
      unfold rowOf
      rw [List.findIdx_cons, decide_eq_true e]
      rfl
    · rw [List.filter_cons_of_neg (by simpa using e), first_row J (k + 1) (by
        obtain ⟨row, h1, h2⟩ := h
        rcases List.mem_cons.mp h1 with rfl | h1
        · exact absurd h2 e
        · exact ⟨row, h1, h2⟩)]
      unfold rowOf
      rw [List.findIdx_cons, decide_eq_false e]
      show some (D.int ((k + 1 + J.findIdx _ : Nat) : Int)) = some (D.int ((k + (J.findIdx _ + 1) : Nat) : Int))
      rw [show k + 1 + J.findIdx (fun row => decide (x ∈ row)) = k + (J.findIdx (fun row => decide (x ∈ row)) + 1) by omega]
theorem pairsI_map (f : Nat → Nat) : ∀ l : List Nat, pairsI (l.map fun (x : Nat) => .tup [.int (x : Int), .int (f x : Int)]) = some (l.map fun (x : Nat) => ((Sum.inl (x : Int) : L2.Key), D.int (f x : Int)))
  | [] => rfl
  | x :: l => by
    rw [List.map_cons, pairsI]
    show (if hot (.int (f x : Int)) = true then none else (pairsI _).map _) = _
    rw [pairsI_map f l]
    rfl
theorem kn_fold (f : Nat → Nat) : ∀ (l done : List Nat) (kvs : List (L2.Key × D)), Kn f done kvs → Kn f (done ++ l) ((l.map fun (x : Nat) => ((Sum.inl (x : Int) : L2.Key), D.int (f x : Int))).foldl (fun acc kv => putKD acc kv.1 kv.2) kvs)
  | [], done, kvs, h => by rw [List.append_nil]; exact h
  | x :: l, done, kvs, h => by
    rw [List.map_cons, List.foldl_cons, show done ++ x :: l = (done ++ [x]) ++ l by simp]
    exact kn_fold f l (done ++ [x]) _ (kn_put h)
theorem kn_merge (f : Nat → Nat) (l : List Nat) : Kn f l (mergeDI (l.map fun (x : Nat) => ((Sum.inl (x : Int) : L2.Key), D.int (f x : Int)))) := by
  have := kn_fold f l [] [] fun x hx => by cases hx
  rw [List.nil_append] at this
  exact this
section
variable {ss : List Int}
theorem lt1_law {r : D} (h : Rw r) (y0 y1 y2 y3 y4 y5 y6 y8 y9 : Option D) : lt1__law_is_schedule [y0, y1, y2, y3, y4, y5, y6, some r, y8, y9] = .ok (badR r) [y0, y1, y2, y3, y4, y5, y6, some r, y8, y9] := by
  have isl := isi_list h.it
  unfold lt1__law_is_schedule
  cases h with
  | row ds h l => exact cOrF (cNotF (cE (p := true) (xOsv rfl xC rfl isl rfl))) (cE (xOsv rfl (xLst xANil rfl) rfl (nil_eq (Rw.rq (.row ds h l)) (by omega)) rfl))
  | one d it n rq =>
    rw [n] at isl
    rw [badR_one n]
    exact cOrT (cNotT (cE (p := false) (xOsv rfl xC rfl isl rfl)))
theorem lt5_law {d : D} (h : Cl d) (y0 y1 y2 y3 y5 y6 y7 y8 y9 : Option D) : lt5__law_is_schedule [y0, y1, y2, y3, some d, y5, y6, y7, y8, y9] = .ok (notI d) [y0, y1, y2, y3, some d, y5, y6, y7, y8, y9] := by
  have i1 := isi_int h.it
  have i2 := isi_bool h.it
  have it := h.it
  unfold lt5__law_is_schedule
  cases it with
  | int i => exact cOrF (cNotF (cE (p := true) (xOsv rfl xC rfl i1 rfl))) (cE (xOsv rfl xC rfl i2 rfl))
  | bl b => exact cOrF (cNotF (cE (p := true) (xOsv rfl xC rfl i1 rfl))) (cE (xOsv rfl xC rfl i2 rfl))
  | non => exact cOrT (cNotT (cE (p := false) (xOsv rfl xC rfl i1 rfl)))
  | str s => exact cOrT (cNotT (cE (p := false) (xOsv rfl xC rfl i1 rfl)))
  | lst xs h => exact cOrT (cNotT (cE (p := false) (xOsv rfl xC rfl i1 rfl)))
  | tup xs h => exact cOrT (cNotT (cE (p := false) (xOsv rfl xC rfl i1 rfl)))
/-- the law's test of the value's form -/
theorem st3_law_t {rows : List D} (hr : ∀ r ∈ rows, Rw r) (lr : rows.length ≤ 60) (y0 : Option D) :
    (tOrM (tNotM (tE (eOp (oIsiB "list") [.s 1, .v (eC (.ty "list"))]))) (tE (eOp (f2 pNe) [.v (eLc (iE (eN 1) lstItems) lg1__law_is_schedule lt1__law_is_schedule le1__law_is_schedule [7]), .v (eLst aNil)]))) [y0, some (.lst false rows), none, none, none, none, none, none, none, none] = .ok (!decide (rows.filter badR = [])) [y0, some (.lst false rows), none, none, none, none, none, none, none, none] := by
  have c : eLc (iE (eN 1) lstItems) lg1__law_is_schedule lt1__law_is_schedule le1__law_is_schedule [7] [y0, some (.lst false rows), none, none, none, none, none, none, none, none] = .ok (.lst true (rows.filter badR)) [y0, some (.lst false rows), none, none, none, none, none, none, none, none] :=
    xLc (fun r : D => r) (fun r => r) badR rows (ds := rows) (st1 := [y0, some (.lst false rows), none, none, none, none, none, none, none, none]) (wE (xN rfl rfl) lst_it (rws_colds hr)) (by rw [List.map_id']) (by omega) (by show 7 < 10; decide) rfl (fun r _ => rfl) (fun r hx => lt1_law (hr r hx) _ _ _ _ _ _ _ _ _) (fun r hx _ => xN rfl (hr r hx).it.hot) (by rw [List.map_id'])
  have n := nil_ne (z := true) (F := rows.filter badR) (rws_rq (fun r hx => hr r (List.mem_filter.mp hx).1) (Nat.le_trans (List.length_filter_le _ _) lr)) (by omega)
  exact cOrF (cNotF (cE (p := true) (xOsv rfl xC rfl isl_l rfl))) (cE (xOvv c (xLst xANil rfl) n rfl))
theorem filter_any {α : Type} {p : α → Bool} {l : List α} : decide (l.filter p = []) = !l.any p := by
  by_cases h : l.any p = true
  · rw [h]
    refine decide_eq_false fun z => ?_
    obtain ⟨x, hx, hp⟩ := List.any_eq_true.mp h
    exact List.filter_eq_nil_iff.mp z x hx hp
  · have h : l.any p = false := by simpa using h
    rw [h]
    exact decide_eq_true (List.filter_eq_nil_iff.mpr fun x hx => List.any_eq_false.mp h x hx)
theorem lrg_ok {n : Nat} (h : n ≤ 1000) : oLRg1 [.int (n : Int)] = some (.newL (nums (natD (List.range n)))) := by
  show (if rgOk 0 (n : Int) then some (Out.newL (rangeD 0 (n : Int).toNat)) else none) = _
  rw [show rgOk 0 (n : Int) = true from decide_eq_true ⟨by decide, by decide, by omega, by omega, by omega⟩, Int.toNat_natCast]
  have e : rangeD 0 n = nums (natD (List.range n)) := by
    unfold rangeD nums natD
    rw [List.map_map]
    exact List.map_congr_left fun j _ => by rw [Int.zero_add]; rfl
  rw [e]
  rfl
/-- the law's answer: False where there are no rounds, or what follows -/
theorem law_pre {rows : List D} (hr : ∀ r ∈ rows, Rw r) (lr : rows.length ≤ 60) (lS : ss.length ≤ 1000) :
    ((¬ ∃ J, Good ss.length rows J) ∧ ∃ ps, m__law_is_schedule [.lst false (nums ss), .lst false rows] = .ok (.bl false) ps) ∨
    ∃ J, Good ss.length rows J ∧ ∀ {R : SR}, (sSeq st12__law_is_schedule (sSeq (sFor (iEn (eN 0)) fg18__law_is_schedule fb18__law_is_schedule) st20__law_is_schedule)) [some (.lst false (nums ss)), some (.lst false rows), some (.lst false (nums (natD J.flatten))), none, none, none, none, none, none, none] = R → b__law_is_schedule [some (.lst false (nums ss)), some (.lst false rows), none, none, none, none, none, none, none, none] = R := by
  have t := st3_law_t hr lr (some (.lst false (nums ss)))
  rw [filter_any, Bool.not_not] at t
  have go : ∀ {st : Sl}, b__law_is_schedule [some (.lst false (nums ss)), some (.lst false rows), none, none, none, none, none, none, none, none] = .ret (.bl false) st → ∃ ps, m__law_is_schedule [.lst false (nums ss), .lst false rows] = .ok (.bl false) ps := fun h => ⟨_, fn_go (n := 2) (w := 10) (L := [0, 1]) (ds := [.lst false (nums ss), .lst false rows]) rfl h⟩
  cases hb : rows.any badR with
  | true =>
    rw [hb] at t
    refine .inl ⟨?_, go (st := [some (.lst false (nums ss)), some (.lst false rows), none, none, none, none, none, none, none, none]) ?_⟩
    · rintro ⟨J, rfl, ne, _⟩
      obtain ⟨r, hm, hb⟩ := List.any_eq_true.mp hb
      obtain ⟨l, hl, rfl⟩ := List.mem_map.mp hm
      obtain ⟨row, hrow, rfl⟩ := List.mem_map.mp hl
      have := of_decide_eq_true hb
      unfold nums natD at this
      rw [List.map_eq_nil_iff, List.map_eq_nil_iff] at this
      exact ne row hrow this
    · unfold b__law_is_schedule
      exact zSeqR (zYes t (zRet xC))
  | false =>
    rw [hb] at t
    obtain ⟨e, hR⟩ := rows_of hr hb
    generalize rows.map cellsOf = R at e hR
    have lR : R.length ≤ 60 := by rw [e, List.length_map] at lr; exact lr
    have lf := flat_len fun ds hds => (hR ds hds).2.1
    have cl : ∀ d ∈ R.flatten, Cl d := fun d hd => by
      obtain ⟨ds, h1, h2⟩ := List.mem_flatten.mp hd
      exact (hR ds h1).1 d h2
    have sum := sum_cells (z := false) (R := R) (fun ds hds => its_colds fun d hd => ((hR ds hds).1 d hd).it) (by omega)
    rw [← e] at sum
    have c : eLc (iE (eN 2) lstItems) lg5__law_is_schedule lt5__law_is_schedule le5__law_is_schedule [4] [some (.lst false (nums ss)), some (.lst false rows), some (.lst true R.flatten), none, none, none, none, none, none, none] = .ok (.lst true (R.flatten.filter notI)) [some (.lst false (nums ss)), some (.lst false rows), some (.lst false R.flatten), none, none, none, none, none, none, none] :=
      xLc (fun r : D => r) (fun r => r) notI R.flatten (ds := R.flatten) (st1 := [some (.lst false (nums ss)), some (.lst false rows), some (.lst false R.flatten), none, none, none, none, none, none, none]) (wE (xNf rfl rfl (fz_lst (its_frz fun d hd => (cl d hd).it)) rfl) lst_it (its_colds fun d hd => (cl d hd).it)) (by rw [List.map_id']) (by omega) (by show 4 < 10; decide) rfl (fun r _ => rfl) (fun r hx => lt5_law (cl r hx) _ _ _ _ _ _ _ _ _) (fun r hx _ => xN rfl (cl r hx).it.hot) (by rw [List.map_id'])
    have rqF : Rq 400000 4 (toPy (.lst true (R.flatten.filter notI))) := (rq_lst fun d hd => (cl d (List.mem_filter.mp hd).1).rq).mono (by have := List.length_filter_le notI R.flatten; omega) (by omega)
    have n := nil_ne rqF (by omega)
    rw [filter_any, Bool.not_not] at n
    have t2 : (tE (eOp (f2 pNe) [.v (eLc (iE (eN 2) lstItems) lg5__law_is_schedule lt5__law_is_schedule le5__law_is_schedule [4]), .v (eLst aNil)])) [some (.lst false (nums ss)), some (.lst false rows), some (.lst true R.flatten), none, none, none, none, none, none, none] = .ok (R.flatten.any notI) [some (.lst false (nums ss)), some (.lst false rows), some (.lst false R.flatten), none, none, none, none, none, none, none] := cE (xOvv c (xLst xANil rfl) n rfl)
    have pre : ∀ {Z : SR}, (sSeq st7__law_is_schedule (sSeq st9__law_is_schedule (sSeq st12__law_is_schedule (sSeq (sFor (iEn (eN 0)) fg18__law_is_schedule fb18__law_is_schedule) st20__law_is_schedule)))) [some (.lst false (nums ss)), some (.lst false rows), some (.lst true R.flatten), none, none, none, none, none, none, none] = Z → b__law_is_schedule [some (.lst false (nums ss)), some (.lst false rows), none, none, none, none, none, none, none, none] = Z := fun h => by
      unfold b__law_is_schedule
      refine zSeq (zNo t rfl) (zSeq (st1 := [some (.lst false (nums ss)), some (.lst false rows), some (.lst true R.flatten), none, none, none, none, none, none, none]) (zAsg (xOs rfl sum rfl) rfl) h)
    cases hn : R.flatten.any notI with
    | true =>
      rw [hn] at t2
      refine .inl ⟨?_, go (st := [some (.lst false (nums ss)), some (.lst false rows), some (.lst false R.flatten), none, none, none, none, none, none, none]) (pre (zSeqR (zYes t2 (zRet xC))))⟩
      rintro ⟨J, g, _⟩
      obtain ⟨d, hd, hd2⟩ := List.any_eq_true.mp hn
      obtain ⟨ds, h1, h2⟩ := List.mem_flatten.mp hd
      have : D.lst false ds ∈ rowF (J.map natD) := by rw [← g, e]; exact List.mem_map.mpr ⟨ds, h1, rfl⟩
      obtain ⟨l, hl, q⟩ := List.mem_map.mp this
      obtain rfl : ds = nums l := by injection q with _ q; exact q.symm
      obtain ⟨i, _, rfl⟩ := List.mem_map.mp h2
      cases hd2
    | false =>
      rw [hn] at t2
      have eI := ints_of fun d hd => by simpa using List.any_eq_false.mp hn d hd
      generalize R.map (fun ds => ds.map intOf) = L at eI
      subst eI
      have eL : rows = rowF L := by rw [e, List.map_map]; rfl
      rw [flat_nums54] at t2 pre
      have so : eOp oSorted [.s 2] [some (.lst false (nums ss)), some (.lst false rows), some (.lst false (nums L.flatten)), none, none, none, none, none, none, none] = .ok (.lst true (nums (srt L.flatten))) [some (.lst false (nums ss)), some (.lst false rows), some (.lst false (nums L.flatten)), none, none, none, none, none, none, none] := xOs rfl oSorted_l rfl
      have lr2 : (eOp oLRg1 [.v (eOp oLen [.s 0])]) [some (.lst false (nums ss)), some (.lst false rows), some (.lst false (nums L.flatten)), none, none, none, none, none, none, none] = .ok (.lst true (nums (natD (List.range ss.length)))) [some (.lst false (nums ss)), some (.lst false rows), some (.lst false (nums L.flatten)), none, none, none, none, none, none, none] := by
        refine xOv (o := .newL (nums (natD (List.range ss.length)))) (xOs rfl len_any rfl) ?_ rfl
        rw [nums_len]
        exact lrg_ok lS
      have t3 := cE (xOvv so lr2 (ne_of (pNe_lst true true (srt L.flatten) (natD (List.range ss.length)))) rfl)
      by_cases q : srt L.flatten = natD (List.range ss.length)
      · rw [decide_eq_true q] at t3
        obtain ⟨J, g⟩ := good_of (fun r hr => fun z => by
          have := (hR (nums r) (List.mem_map.mpr ⟨r, hr, rfl⟩)).2.2
          rw [z] at this
          exact this rfl) q
        rw [← eL] at g
        refine .inr ⟨J, g, fun h => pre (zSeq (zNo t2 rfl) (zSeq (zNo t3 rfl) ?_))⟩
        have : L.flatten = natD J.flatten := by
          have g1 := g.1
          rw [eL] at g1
          rw [rowF_inj g1, natD_map]
        rw [this]
        exact h
      · rw [decide_eq_false q] at t3
        refine .inl ⟨?_, go (st := [some (.lst false (nums ss)), some (.lst false rows), some (.lst false (nums L.flatten)), none, none, none, none, none, none, none]) (pre (zSeq (zNo t2 rfl) (zSeqR (zYes t3 (zRet xC)))))⟩
        rintro ⟨J, g, _, pm⟩
        rw [eL] at g
        have : L.flatten = natD J.flatten := by
          rw [rowF_inj g, natD_map]
        refine q (srt_eq ?_ (natD_up _)).symm
        rw [this]
        unfold natD
        exact (pm.map _).symm
end
/-! ### the law's order -/
section
variable {ss : List Int} {J : List (List Nat)}
theorem num_one (nd : J.flatten.Nodup) (lJ : J.length ≤ 60) {x : Nat} (hx : x ∈ J.flatten) (y0 y2 : Option D) :
    le11__law_is_schedule [y0, some (.lst false (rowF (J.map natD))), y2, none, some (.int (x : Int)), none, none, none, none, none] = .ok (.tup [.int (x : Int), .int (rowOf J x : Int)]) [y0, some (.lst false (rowF (J.map natD))), y2, none, some (.int (x : Int)), none, none, none, none, none] := by
  have c : eLc (iEn (eN 1)) lg10__law_is_schedule lt10__law_is_schedule le10__law_is_schedule [8, 7] [y0, some (.lst false (rowF (J.map natD))), y2, none, some (.int (x : Int)), none, none, none, none, none] = .ok (.lst true ((((J.zipIdx 0).filter fun p => decide (x ∈ p.1)).map fun p => D.int (p.2 : Int)))) [y0, some (.lst false (rowF (J.map natD))), y2, none, some (.int (x : Int)), none, none, none, none, none] := by
    refine xLc2n (fun p : List Nat × Nat => D.tup [.int (p.2 : Int), .lst false (nums (natD p.1))]) (fun p => D.int (p.2 : Int)) (fun p => decide (x ∈ p.1)) (J.zipIdx 0) (ds := enumD 0 (rowF (J.map natD))) (st1 := [y0, some (.lst false (rowF (J.map natD))), y2, none, some (.int (x : Int)), none, none, none, none, none]) (st2 := [y0, some (.lst false (rowF (J.map natD))), y2, none, some (.int (x : Int)), none, none, none, none, none]) (wEn0 (xN rfl rfl) (rowF_cold _)) ?_ (by rw [List.length_zipIdx]; omega) rfl (fun p hp => ?_) rfl
    · unfold rowF
      rw [List.map_map]
      exact enumD_map (fun r => D.lst false (nums (natD r))) J 0
    · refine ⟨[y0, some (.lst false (rowF (J.map natD))), y2, none, some (.int (x : Int)), none, none, some (.lst false (nums (natD p.1))), some (.int (p.2 : Int)), none], [y0, some (.lst false (rowF (J.map natD))), y2, none, some (.int (x : Int)), none, none, some (.lst false (nums (natD p.1))), some (.int (p.2 : Int)), none], rfl, ?_, fun _ => rfl, fun _ => ⟨_, xN rfl rfl, rfl⟩⟩
      unfold lt10__law_is_schedule
      exact cE (xOss rfl rfl in_nat rfl)
  have fr := first_row J 0 (x := x) (by
    obtain ⟨row, h1, h2⟩ := List.mem_flatten.mp hx
    exact ⟨row, h1, h2⟩)
  rw [Nat.zero_add] at fr
  unfold le11__law_is_schedule
  exact xTup (xACons (xN rfl rfl) (xACons (xOvv c xC (ix_at (i := 0) (Int.le_refl 0) fr rfl) rfl) xANil)) rfl (fzL_c fz_i (fzL_c fz_i fzL_n))
theorem law_turn {f : Nat → Nat} {kvs : List (L2.Key × D)} (hk : Kn f (List.range ss.length) kvs) {k : Nat} {s : Int} (es : ss[k]? = some s) (lS : ss.length ≤ 1000) (y1 y2 y6 : Option D) :
    if lateB ss f k = true then ∃ st, fb18__law_is_schedule [some (.lst false (nums ss)), y1, y2, some (.dic true kvs), some (.int (k : Int)), some (.int s), y6, none, none, none] = .ret (.bl false) st
    else ∃ z6, fb18__law_is_schedule [some (.lst false (nums ss)), y1, y2, some (.dic true kvs), some (.int (k : Int)), some (.int s), y6, none, none, none] = .next [some (.lst false (nums ss)), y1, y2, some (.dic true kvs), some (.int (k : Int)), some (.int s), z6, none, none, none] := by
  have hks := (List.getElem?_eq_some_iff.mp es).1
  have gs : ss.getD k 0 = s := getD_at es
  have ix : ∀ j, j < k → oIx [.lst false (nums ss), .int (j : Int)] = some (.val (.int (ss.getD j 0))) := fun j hj => by
    refine ix_at (Int.natCast_nonneg j) ?_ rfl
    rw [Int.toNat_natCast]
    unfold nums
    rw [List.getElem?_map, List.getElem?_eq_getElem (show j < ss.length by omega), List.getD_eq_getElem?_getD, List.getElem?_eq_getElem (show j < ss.length by omega)]
    rfl
  have c1 : eLc (iR1 (eN 4)) lg13__law_is_schedule lt13__law_is_schedule le13__law_is_schedule [9] [some (.lst false (nums ss)), y1, y2, some (.dic true kvs), some (.int (k : Int)), some (.int s), y6, none, none, none] = .ok (.lst true (nums (natD ((List.range k).filter fun j => decide ((if ss.getD j 0 - ss.getD k 0 < 0 then -(ss.getD j 0 - ss.getD k 0) else ss.getD j 0 - ss.getD k 0) < 2))))) [some (.lst false (nums ss)), y1, y2, some (.dic true kvs), some (.int (k : Int)), some (.int s), y6, none, none, none] := by
    refine xLc (fun (j : Nat) => D.int (j : Int)) (fun (j : Nat) => D.int (j : Int)) (fun j => decide ((if ss.getD j 0 - ss.getD k 0 < 0 then -(ss.getD j 0 - ss.getD k 0) else ss.getD j 0 - ss.getD k 0) < 2)) (List.range k) (ds := rangeD 0 k) (st1 := [some (.lst false (nums ss)), y1, y2, some (.dic true kvs), some (.int (k : Int)), some (.int s), y6, none, none, none]) (wR1 (n := k) (xN rfl rfl) rfl (small62_nat (by omega))) (by unfold rangeD; exact List.map_congr_left fun j _ => by rw [Int.zero_add]) (by rw [List.length_range]; omega) (by show 9 < 10; decide) rfl (fun j _ => rfl) (fun j hj => ?_) (fun j _ _ => xN rfl rfl) ?_
    · show lt13__law_is_schedule [some (.lst false (nums ss)), y1, y2, some (.dic true kvs), some (.int (k : Int)), some (.int s), y6, none, none, some (.int (j : Int))] = _
      unfold lt13__law_is_schedule
      rw [gs]
      exact cE (xOvv (xOv (xOvs (xOss rfl rfl (ix j (List.mem_range.mp hj)) rfl) rfl sub_i rfl) abs_i rfl) xC lt_i rfl)
    · unfold nums natD
      rw [List.map_map]
      rfl
  generalize hN : ((List.range k).filter fun j => decide ((if ss.getD j 0 - ss.getD k 0 < 0 then -(ss.getD j 0 - ss.getD k 0) else ss.getD j 0 - ss.getD k 0) < 2)) = N at c1
  have lN : N.length ≤ k ∧ ∀ j ∈ N, j < k := by
    subst hN
    exact ⟨Nat.le_trans (List.length_filter_le _ _) (by rw [List.length_range]; exact Nat.le_refl k), fun j hj => List.mem_range.mp (List.mem_filter.mp hj).1⟩
  have eB : lateB ss f k = N.any fun j => decide (f k ≤ f j) := by rw [← hN]; rfl
  have kk := hk k (List.mem_range.mpr hks)
  have c2 : eLc (iE (eN 6) lstItems) lg15__law_is_schedule lt15__law_is_schedule le15__law_is_schedule [9] [some (.lst false (nums ss)), y1, y2, some (.dic true kvs), some (.int (k : Int)), some (.int s), some (.lst true (nums (natD N))), none, none, none] = .ok (.lst true (nums (natD (N.filter fun j => decide (f k ≤ f j))))) [some (.lst false (nums ss)), y1, y2, some (.dic true kvs), some (.int (k : Int)), some (.int s), some (.lst false (nums (natD N))), none, none, none] := by
    refine xLc (fun (j : Nat) => D.int (j : Int)) (fun (j : Nat) => D.int (j : Int)) (fun j => decide (f k ≤ f j)) N (ds := nums (natD N)) (st1 := [some (.lst false (nums ss)), y1, y2, some (.dic true kvs), some (.int (k : Int)), some (.int s), some (.lst false (nums (natD N))), none, none, none]) (wE (xNf rfl rfl fz_l rfl) lst_it (nums_colds _)) (by unfold nums natD; rw [List.map_map]; rfl) (by omega) (by show 9 < 10; decide) rfl (fun j _ => rfl) (fun j hj => ?_) (fun j _ _ => xN rfl rfl) (by unfold nums natD; rw [List.map_map]; rfl)
    show lt15__law_is_schedule [some (.lst false (nums ss)), y1, y2, some (.dic true kvs), some (.int (k : Int)), some (.int s), some (.lst false (nums (natD N))), none, none, some (.int (j : Int))] = _
    have kj := hk j (List.mem_range.mpr (by have := lN.2 j hj; omega))
    have ge : f2 pGe [.int (f j : Int), .int (f k : Int)] = some (.val (.bl (decide ((f k : Int) ≤ (f j : Int))))) := ge_i
    have e : decide ((f k : Int) ≤ (f j : Int)) = decide (f k ≤ f j) := by
      by_cases q : f k ≤ f j
      · rw [decide_eq_true q, decide_eq_true (by omega)]
      · rw [decide_eq_false q, decide_eq_false (by omega)]
    rw [e] at ge
    unfold lt15__law_is_schedule
    exact cE (xOvv (xOss rfl rfl (oDx_i kj rfl) rfl) (xOss rfl rfl (oDx_i kk rfl) rfl) ge rfl)
  have ne := ne_of (pNe_lst true true (natD (N.filter fun j => decide (f k ≤ f j))) [])
  have en : decide (natD (N.filter fun j => decide (f k ≤ f j)) = []) = !lateB ss f k := by
    rw [eB, ← filter_any]
    unfold natD
    by_cases q : (N.filter fun j => decide (f k ≤ f j)) = []
    · rw [q]; rfl
    · rw [decide_eq_false q, decide_eq_false fun z => q (List.map_eq_nil_iff.mp z)]
  rw [en, Bool.not_not] at ne
  have t : (tE (eOp (f2 pNe) [.v (eLc (iE (eN 6) lstItems) lg15__law_is_schedule lt15__law_is_schedule le15__law_is_schedule [9]), .v (eLst aNil)])) [some (.lst false (nums ss)), y1, y2, some (.dic true kvs), some (.int (k : Int)), some (.int s), some (.lst true (nums (natD N))), none, none, none] = .ok (lateB ss f k) [some (.lst false (nums ss)), y1, y2, some (.dic true kvs), some (.int (k : Int)), some (.int s), some (.lst false (nums (natD N))), none, none, none] := cE (xOvv c2 (xLst xANil rfl) ne rfl)
  have pre : ∀ {R : SR}, st17__law_is_schedule [some (.lst false (nums ss)), y1, y2, some (.dic true kvs), some (.int (k : Int)), some (.int s), some (.lst true (nums (natD N))), none, none, none] = R → fb18__law_is_schedule [some (.lst false (nums ss)), y1, y2, some (.dic true kvs), some (.int (k : Int)), some (.int s), y6, none, none, none] = R := fun h => by
    unfold fb18__law_is_schedule
    exact zSeq (zAsg c1 rfl) h
  cases c : lateB ss f k with
  | true =>
    rw [c] at t
    exact ⟨_, pre (zYes t (zRet xC))⟩
  | false =>
    rw [c] at t
    exact ⟨_, pre (zNo t rfl)⟩
/-- the law's answer of rounds -/
theorem law_good {rows : List D} (g : Good ss.length rows J) (lr : rows.length ≤ 60) (lS : ss.length ≤ 1000)
    (pre : ∀ {R : SR}, (sSeq st12__law_is_schedule (sSeq (sFor (iEn (eN 0)) fg18__law_is_schedule fb18__law_is_schedule) st20__law_is_schedule)) [some (.lst false (nums ss)), some (.lst false rows), some (.lst false (nums (natD J.flatten))), none, none, none, none, none, none, none] = R → b__law_is_schedule [some (.lst false (nums ss)), some (.lst false rows), none, none, none, none, none, none, none, none] = R) :
    ∃ ps, m__law_is_schedule [.lst false (nums ss), .lst false rows] = .ok (.bl (!(List.range ss.length).any (lateB ss (rowOf J)))) ps := by
  obtain ⟨e, ne, pm⟩ := g
  subst e
  have lJ : J.length ≤ 60 := by
    unfold rowF at lr
    rw [List.length_map, List.length_map] at lr
    omega
  have nd : J.flatten.Nodup := pm.nodup_iff.mpr List.nodup_range
  have lf : J.flatten.length = ss.length := by rw [pm.length_eq, List.length_range]
  have c : eLc (iE (eN 2) lstItems) lg11__law_is_schedule tYesM le11__law_is_schedule [4] [some (.lst false (nums ss)), some (.lst false (rowF (J.map natD))), some (.lst false (nums (natD J.flatten))), none, none, none, none, none, none, none] = .ok (.lst true (J.flatten.map fun (x : Nat) => D.tup [.int (x : Int), .int (rowOf J x : Int)])) [some (.lst false (nums ss)), some (.lst false (rowF (J.map natD))), some (.lst false (nums (natD J.flatten))), none, none, none, none, none, none, none] :=
    xLcA (fun (x : Nat) => D.int (x : Int)) (fun (x : Nat) => D.tup [.int (x : Int), .int (rowOf J x : Int)]) J.flatten (ds := nums (natD J.flatten)) (st1 := [some (.lst false (nums ss)), some (.lst false (rowF (J.map natD))), some (.lst false (nums (natD J.flatten))), none, none, none, none, none, none, none]) (wE (xN rfl rfl) lst_it (nums_colds _)) (by unfold nums natD; rw [List.map_map]; rfl) (by omega) (by show 4 < 10; decide) rfl (fun j _ => rfl) (fun j hj => num_one nd lJ hj _ _) rfl
  have d : eDctI (eLc (iE (eN 2) lstItems) lg11__law_is_schedule tYesM le11__law_is_schedule [4]) [some (.lst false (nums ss)), some (.lst false (rowF (J.map natD))), some (.lst false (nums (natD J.flatten))), none, none, none, none, none, none, none] = .ok (.dic true (mergeDI (J.flatten.map fun (x : Nat) => ((Sum.inl (x : Int) : L2.Key), D.int (rowOf J x : Int))))) [some (.lst false (nums ss)), some (.lst false (rowF (J.map natD))), some (.lst false (nums (natD J.flatten))), none, none, none, none, none, none, none] := by
    unfold eDctI
    rw [c]
    show (match pairsI (J.flatten.map fun (x : Nat) => D.tup [.int (x : Int), .int (rowOf J x : Int)]) with | some kvs => Res.ok (D.dic true (mergeDI kvs)) _ | none => .fail) = _
    rw [pairsI_map]
  have hk : Kn (rowOf J) (List.range ss.length) (mergeDI (J.flatten.map fun (x : Nat) => ((Sum.inl (x : Int) : L2.Key), D.int (rowOf J x : Int)))) := fun x hx => kn_merge (rowOf J) J.flatten x (pm.mem_iff.mpr hx)
  generalize mergeDI (J.flatten.map fun (x : Nat) => ((Sum.inl (x : Int) : L2.Key), D.int (rowOf J x : Int))) = kvs at d hk
  have F := forD_dec (g := fg18__law_is_schedule) (body := fb18__law_is_schedule) (fun k st => ∃ y4 y5 y6, st = [some (.lst false (nums ss)), some (.lst false (rowF (J.map natD))), some (.lst false (nums (natD J.flatten))), some (.dic true kvs), y4, y5, y6, none, none, none]) (.bl false) (lateB ss (rowOf J))
    (enumD 0 (nums ss)) 0 [some (.lst false (nums ss)), some (.lst false (rowF (J.map natD))), some (.lst false (nums (natD J.flatten))), some (.dic true kvs), none, none, none, none, none, none] ⟨none, none, none, rfl⟩ (fun j hj => absurd hj (Nat.not_lt_zero j)) (fun k d st ed ok hI => by
      obtain ⟨y4, y5, y6, rfl⟩ := hI
      rw [Nat.zero_add]
      obtain ⟨d', e3, rfl⟩ := enumD_get ed
      rw [Nat.zero_add]
      unfold nums at e3
      rw [List.getElem?_map] at e3
      cases es : ss[k]? with
      | none => rw [es] at e3; cases e3
      | some s =>
        rw [es] at e3
        cases e3
        refine ⟨_, rfl, ?_⟩
        have S := law_turn hk es lS (some (.lst false (rowF (J.map natD)))) (some (.lst false (nums (natD J.flatten)))) y6
        cases c : lateB ss (rowOf J) k with
        | true =>
          rw [c] at S
          exact S
        | false =>
          rw [c] at S
          obtain ⟨z6, h2⟩ := S
          exact ⟨_, h2, _, _, _, rfl⟩)
  rw [Nat.zero_add, enumD_length, nums_len] at F
  have go : ∀ {st : Sl} {b : Bool}, b__law_is_schedule [some (.lst false (nums ss)), some (.lst false (rowF (J.map natD))), none, none, none, none, none, none, none, none] = .ret (.bl b) st → ∃ ps, m__law_is_schedule [.lst false (nums ss), .lst false (rowF (J.map natD))] = .ok (.bl b) ps := fun h => ⟨_, fn_go (n := 2) (w := 10) (L := [0, 1]) (ds := [.lst false (nums ss), .lst false (rowF (J.map natD))]) rfl h⟩
  cases c : (List.range ss.length).any (lateB ss (rowOf J)) with
  | true =>
    rw [c] at F
    obtain ⟨st', F⟩ := F
    exact go (pre (zSeq (zAsg d rfl) (zSeqR (zFor (wEn0 (xN rfl rfl) (nums_colds _)) F))))
  | false =>
    rw [c] at F
    obtain ⟨st', F, _⟩ := F
    exact go (pre (zSeq (zAsg d rfl) (zSeq (zFor (wEn0 (xN rfl rfl) (nums_colds _)) F) (zRet xC))))
/-! ### all values -/
inductive V54 : D → Prop
  | list (rows : List D) (h : ∀ r ∈ rows, Rw r) (l : rows.length ≤ 60) : V54 (.lst false rows)
  | one (d : D) (it : It d) (n : isL d = false) (rq : Rq 400000 4 (toPy d)) : V54 d
  | dic : V54 (.dic false [])
theorem V54.hot {v : D} (h : V54 v) : hot v = false := by
  cases h with
  | list rows h l => rfl
  | one d it n rq => exact it.hot
  | dic => rfl
theorem V54.frz {v : D} (h : V54 v) : frz v = v := by
  cases h with
  | list rows h l => exact (it_list fun d hd => (h d hd).it).frz
  | one d it n rq => exact it.frz
  | dic => rfl
theorem both_ok {v : D} (h : V54 v) (lS : ss.length ≤ 1000) (w : Int) : ∃ b p q, m_is_schedule [net false w ss, v] = .ok (.bl b) p ∧ m__law_is_schedule [.lst false (nums ss), v] = .ok (.bl b) q := by
  have other : ∀ v : D, DL.hot v = false → oIsiB "list" [v, .ty "list"] = some (.val (.bl false)) → ∃ b p q, m_is_schedule [net false w ss, v] = .ok (.bl b) p ∧ m__law_is_schedule [.lst false (nums ss), v] = .ok (.bl b) q := fun v hv isl => by
    have e1 : m_round_by_index [net false w ss, v] = .ok .non (keepL [0, 1] 2 [some (net false w ss), some v, none, none, none, none, none]) := by
      refine fn_go (n := 2) (w := 7) (L := [0, 1]) (ds := [net false w ss, v]) rfl ?_
      show b_round_by_index [some (net false w ss), some v, none, none, none, none, none] = _
      unfold b_round_by_index
      exact zSeqR (zYes (cOrT (cNotT (cE (p := false) (xOsv rfl xC rfl isl rfl)))) (zRet xC))
    obtain ⟨p, e⟩ := isch_none (w := w) (ss := ss) hv e1
    refine ⟨false, p, _, e, fn_go (n := 2) (w := 10) (L := [0, 1]) (ds := [.lst false (nums ss), v]) (st := [some (.lst false (nums ss)), some v, none, none, none, none, none, none, none, none]) rfl ?_⟩
    show b__law_is_schedule [some (.lst false (nums ss)), some v, none, none, none, none, none, none, none, none] = _
    unfold b__law_is_schedule
    exact zSeqR (zYes (cOrT (cNotT (cE (p := false) (xOsv rfl xC rfl isl rfl)))) (zRet xC))
  cases h with
  | list rows h l =>
    rcases law_pre (ss := ss) h l lS with ⟨no, q, eq⟩ | ⟨J, g, pre⟩
    · obtain ⟨p1, e1⟩ := round_no (w := w) lS h l no
      obtain ⟨p, e⟩ := isch_none (w := w) (ss := ss) rfl e1
      exact ⟨false, p, q, e, eq⟩
    · obtain ⟨q, eq⟩ := law_good g l lS pre
      obtain ⟨p, e⟩ := isch_good (w := w) g l lS
      exact ⟨_, p, q, e, eq⟩
  | one d it n rq =>
    have isl := isi_list it
    rw [n] at isl
    exact other v it.hot isl
  | dic => exact other _ rfl (by simp [oIsiB, tyName, noScr, kb_dict_list])
end
/-! ### later rounds than necessary -/
theorem frz_rowT : ∀ L : List (List Int), frz (.lst true (L.map rowT)) = .lst false (rowF L) := fun L => fz_lst (frz_rows L)
theorem own_rowT (L : List (List Int)) : (L.map rowT).all ownRow = true := by
  rw [List.all_map]
  exact List.all_eq_true.mpr fun r _ => nums_flat r
/-- rows under way: the indices lie below k -/
structure Lt (k : Nat) (L : List (List Int)) : Prop where
  len : L.length ≤ 3 * k
  row : ∀ r ∈ L, r.length ≤ k ∧ ∀ x ∈ r, 0 ≤ x ∧ x < k
theorem xInsR {a b r : Int} {a' b' : Int} {k : Nat} {s at_ : Int} {ss A : List Int} {L : List (List Int)} {j : Nat} {row : List Int} {p : Option D} (hj : at_ = (j : Int)) (hr : L[j]? = some row) (lL : L.length ≤ 1000) (lr : row.length ≤ 1000)
    (d : m__law_draw [.lst true [.int a, .int b], .int ((row.length : Int) + 1)] = .ok (.int r) [some (.lst true [.int a', .int b']), p]) (r0 : 0 ≤ r) (r1 : r ≤ 1000) :
    eInsR 2 [1] (eN 6) (eCallL m__law_draw aNil 0 (aCons (eOp oAdd [.v (eOp oLen [.v (eOp oIx [.s 2, .s 6])]), .v (eC (.int 1))]) aNil)) (eN 3) [some (.lst true [.int a, .int b]), some (.lst false (nums ss)), some (.lst true (L.map rowT)), some (.int (k : Int)), some (.int s), some (.lst true (nums A)), some (.int at_), none, none] =
      .ok .non [some (.lst true [.int a', .int b']), some (.lst false (nums ss)), some (.lst true ((L.set j (row.take r.toNat ++ [(k : Int)] ++ row.drop r.toNat)).map rowT)), some (.int (k : Int)), some (.int s), some (.lst true (nums A)), some (.int at_), none, none] := by
  subst hj
  have jl := (List.getElem?_eq_some_iff.mp hr).1
  have ix : oIx [.lst false (rowF L), .int (j : Int)] = some (.val (.lst false (nums row))) := by
    refine ix_at (Int.natCast_nonneg j) ?_ rfl
    rw [Int.toNat_natCast]
    unfold rowF
    rw [List.getElem?_map, hr]
    rfl
  have lenr : oLen [.lst false (nums row)] = some (.val (.int (row.length : Int))) := by rw [len_any, nums_len]
  have m1 : eCallL m__law_draw aNil 0 (aCons (eOp oAdd [.v (eOp oLen [.v (eOp oIx [.s 2, .s 6])]), .v (eC (.int 1))]) aNil) [some (.lst true [.int a, .int b]), some (.lst false (nums ss)), some (.lst false (rowF L)), some (.int (k : Int)), some (.int s), some (.lst true (nums A)), some (.int (j : Int)), none, none] = .ok (.int r) [some (.lst true [.int a', .int b']), some (.lst false (nums ss)), some (.lst false (rowF L)), some (.int (k : Int)), some (.int s), some (.lst true (nums A)), some (.int (j : Int)), none, none] :=
    xCallL (x := .lst true [.int a, .int b]) (es := [.int ((row.length : Int) + 1)]) xANil rfl (xACons (xOvv (xOv (xOss rfl rfl ix rfl) lenr rfl) xC add_i rfl) xANil) rfl rfl d rfl rfl
  unfold eInsR
  show (if (L.map rowT).all ownRow = true ∧ _ ∧ _ then _ else _) = _
  rw [if_pos ⟨own_rowT L, rfl, rfl⟩, frz_rowT L]
  rw [show ([some (.lst true [.int a, .int b]), some (.lst false (nums ss)), some (.lst true (L.map rowT)), some (.int (k : Int)), some (.int s), some (.lst true (nums A)), some (.int (j : Int)), none, none] : Sl).set 2 (some (.lst false (rowF L))) = [some (.lst true [.int a, .int b]), some (.lst false (nums ss)), some (.lst false (rowF L)), some (.int (k : Int)), some (.int s), some (.lst true (nums A)), some (.int (j : Int)), none, none] from rfl]
  rw [xN (i := 6) (st := [some (.lst true [.int a, .int b]), some (.lst false (nums ss)), some (.lst false (rowF L)), some (.int (k : Int)), some (.int s), some (.lst true (nums A)), some (.int (j : Int)), none, none]) rfl rfl]
  dsimp only
  rw [List.length_map, ixN_nat (Int.natCast_nonneg j) (by omega), Int.toNat_natCast]
  dsimp only
  rw [List.getElem?_map, hr]
  dsimp only [Option.map_some, rowT]
  rw [m1]
  dsimp only
  rw [xN (i := 3) (st := [some (.lst true [.int a', .int b']), some (.lst false (nums ss)), some (.lst false (rowF L)), some (.int (k : Int)), some (.int s), some (.lst true (nums A)), some (.int (j : Int)), none, none]) rfl rfl]
  dsimp only
  unfold insR
  dsimp only
  have th : thawC [some (.lst true [.int a', .int b']), some (.lst false (nums ss)), some (.lst false (rowF L)), some (.int (k : Int)), some (.int s), some (.lst true (nums A)), some (.int (j : Int)), none, none] 2 [1] = true := by
    have n : noL (.lst true (nums A)) = true := noL_nums
    have n2 : noL (.lst true [.int a', .int b']) = true := rfl
    unfold thawC
    show ((List.range 9).all fun j => _) = true
    rw [show List.range 9 = [0, 1, 2, 3, 4, 5, 6, 7, 8] from rfl]
    rw [noL] at n n2
    simp [getS, noL] at n n2 ⊢
    exact ⟨n2, n⟩
  rw [if_pos ⟨rfl, r0, by omega, by rw [nums_len]; omega, th⟩]
  have e : ((L.map rowT).set j (.lst true ((nums row).take r.toNat ++ [.int (k : Int)] ++ (nums row).drop r.toNat))) = (L.set j (row.take r.toNat ++ [(k : Int)] ++ row.drop r.toNat)).map rowT := by
    rw [List.map_set]
    unfold rowT nums
    rw [List.map_append, List.map_append, List.map_take, List.map_drop]
    rfl
  show Res.ok D.non (backC [1] _ _) = _
  rw [e]
  rfl
section
variable {ss : List Int}
def nearI (ss : List Int) (s x : Int) : Bool := decide ((if ss.getD x.toNat 0 - s < 0 then -(ss.getD x.toNat 0 - s) else ss.getD x.toNat 0 - s) < 2)
theorem ix_int {x : Int} {o : Bool} (h0 : 0 ≤ x) (h1 : x < (ss.length : Int)) : oIx [.lst o (nums ss), .int x] = some (.val (.int (ss.getD x.toNat 0))) := by
  refine ix_at h0 ?_ rfl
  unfold nums
  rw [List.getElem?_map, List.getElem?_eq_getElem (show x.toNat < ss.length by omega), List.getD_eq_getElem?_getD, List.getElem?_eq_getElem (show x.toNat < ss.length by omega)]
  rfl
theorem ahead_ok {k : Nat} {s : Int} {L : List (List Int)} (hL : Lt k L) (hk : k ≤ ss.length) (lS : ss.length ≤ 100) (a b : Int) (y5 y6 : Option D) :
    ∃ A : List Int, (∀ x ∈ A, 0 ≤ x ∧ x < L.length) ∧ A.length ≤ L.length ∧ eRo (eLc (iEn (eN 2)) lg1__law_late lt3__law_late le1__law_late [6, 7]) [some (.lst true [.int a, .int b]), some (.lst false (nums ss)), some (.lst true (L.map rowT)), some (.int (k : Int)), some (.int s), y5, y6, none, none] =
      .ok (.lst true (nums A)) [some (.lst true [.int a, .int b]), some (.lst false (nums ss)), some (.lst true (L.map rowT)), some (.int (k : Int)), some (.int s), y5, y6, none, none] := by
  have lL := hL.len
  refine ⟨((L.zipIdx 0).filter fun p => !decide (p.1.filter (nearI ss s) = [])).map fun p => (p.2 : Int), fun x hx => ?_, by rw [List.length_map]; exact Nat.le_trans (List.length_filter_le _ _) (by rw [List.length_zipIdx]; exact Nat.le_refl _), ?_⟩
  · obtain ⟨p, hp, rfl⟩ := List.mem_map.mp hx
    have := (List.mem_zipIdx (List.mem_filter.mp hp).1).2.1
    omega
  · have fs : frzS [some (.lst true [.int a, .int b]), some (.lst false (nums ss)), some (.lst true (L.map rowT)), some (.int (k : Int)), some (.int s), y5, y6, none, none] = [some (.lst false [.int a, .int b]), some (.lst false (nums ss)), some (.lst false (rowF L)), some (.int (k : Int)), some (.int s), y5.map frz, y6.map frz, none, none] := by
      unfold frzS
      simp only [List.map_cons, List.map_nil, Option.map_some, Option.map_none, frz_rowT, fz_l, fz_i]
      rw [fz_lst (fzL_c fz_i (fzL_c fz_i fzL_n))]
    have c : eLc (iEn (eN 2)) lg1__law_late lt3__law_late le1__law_late [6, 7] [some (.lst false [.int a, .int b]), some (.lst false (nums ss)), some (.lst false (rowF L)), some (.int (k : Int)), some (.int s), y5.map frz, y6.map frz, none, none] = .ok (.lst true (nums (((L.zipIdx 0).filter fun p => !decide (p.1.filter (nearI ss s) = [])).map fun p => (p.2 : Int)))) [some (.lst false [.int a, .int b]), some (.lst false (nums ss)), some (.lst false (rowF L)), some (.int (k : Int)), some (.int s), y5.map frz, none, none, none] := by
      refine xLc2n (fun p : List Int × Nat => D.tup [.int (p.2 : Int), .lst false (nums p.1)]) (fun p => D.int (p.2 : Int)) (fun p => !decide (p.1.filter (nearI ss s) = [])) (L.zipIdx 0) (ds := enumD 0 (rowF L)) (st1 := [some (.lst false [.int a, .int b]), some (.lst false (nums ss)), some (.lst false (rowF L)), some (.int (k : Int)), some (.int s), y5.map frz, y6.map frz, none, none]) (st2 := [some (.lst false [.int a, .int b]), some (.lst false (nums ss)), some (.lst false (rowF L)), some (.int (k : Int)), some (.int s), y5.map frz, none, none, none]) (wEn0 (xN rfl rfl) (rowF_cold _)) (enumD_map (fun r => D.lst false (nums r)) L 0) (by rw [List.length_zipIdx]; omega) rfl (fun p hp => ?_) (by unfold nums; rw [List.map_map]; rfl)
      have hr := hL.row p.1 (List.fst_mem_of_mem_zipIdx hp)
      refine ⟨[some (.lst false [.int a, .int b]), some (.lst false (nums ss)), some (.lst false (rowF L)), some (.int (k : Int)), some (.int s), y5.map frz, some (.int (p.2 : Int)), some (.lst false (nums p.1)), none], [some (.lst false [.int a, .int b]), some (.lst false (nums ss)), some (.lst false (rowF L)), some (.int (k : Int)), some (.int s), y5.map frz, some (.int (p.2 : Int)), some (.lst false (nums p.1)), none], rfl, ?_, fun _ => rfl, fun _ => ⟨_, xN rfl rfl, rfl⟩⟩
      have c2 : eLc (iE (eN 7) lstItems) lg2__law_late lt2__law_late le2__law_late [8] [some (.lst false [.int a, .int b]), some (.lst false (nums ss)), some (.lst false (rowF L)), some (.int (k : Int)), some (.int s), y5.map frz, some (.int (p.2 : Int)), some (.lst false (nums p.1)), none] = .ok (.lst true (nums (p.1.filter (nearI ss s)))) [some (.lst false [.int a, .int b]), some (.lst false (nums ss)), some (.lst false (rowF L)), some (.int (k : Int)), some (.int s), y5.map frz, some (.int (p.2 : Int)), some (.lst false (nums p.1)), none] := by
        refine xLc D.int D.int (nearI ss s) p.1 (ds := nums p.1) (st1 := [some (.lst false [.int a, .int b]), some (.lst false (nums ss)), some (.lst false (rowF L)), some (.int (k : Int)), some (.int s), y5.map frz, some (.int (p.2 : Int)), some (.lst false (nums p.1)), none]) (wE (xN rfl rfl) lst_it (nums_colds _)) rfl (by omega) (by show 8 < 9; decide) rfl (fun j _ => rfl) (fun x hx => ?_) (fun j _ _ => xN rfl rfl) rfl
        obtain ⟨x0, x1⟩ := hr.2 x hx
        show lt2__law_late [some (.lst false [.int a, .int b]), some (.lst false (nums ss)), some (.lst false (rowF L)), some (.int (k : Int)), some (.int s), y5.map frz, some (.int (p.2 : Int)), some (.lst false (nums p.1)), some (.int x)] = _
        unfold lt2__law_late
        exact cE (xOvv (xOv (xOvs (xOss rfl rfl (ix_int x0 (by omega)) rfl) rfl sub_i rfl) abs_i rfl) xC lt_i rfl)
      unfold lt3__law_late
      exact cE (xOvv c2 (xLst xANil rfl) (ne_of (pNe_lst true true _ [])) rfl)
    unfold eRo
    rw [fs, c]
    show (if (nums _).all flat = true then _ else _) = _
    rw [if_pos (nums_flat _)]
theorem more_rows {a b s at_ : Int} {k : Nat} {y5 : Option D} : ∀ (m fuel : Nat) (L : List (List Int)), at_ + 1 ≤ L.length + m → m < fuel → L.length + m ≤ 1000 → ∃ m', m' ≤ m ∧ at_ < L.length + m' ∧ whileD wt4__law_late wb4__law_late fuel [some (.lst true [.int a, .int b]), some (.lst false (nums ss)), some (.lst true (L.map rowT)), some (.int (k : Int)), some (.int s), y5, some (.int at_), none, none] = .next [some (.lst true [.int a, .int b]), some (.lst false (nums ss)), some (.lst true ((L ++ List.replicate m' []).map rowT)), some (.int (k : Int)), some (.int s), y5, some (.int at_), none, none]
  | m, 0, L, _, h, _ => absurd h (Nat.not_lt_zero m)
  | m, fuel + 1, L, h1, h2, h3 => by
    have le : f2 pLe [.int (L.length : Int), .int at_] = some (.val (.bl (decide ((L.length : Int) ≤ at_)))) := le_i
    have t : wt4__law_late [some (.lst true [.int a, .int b]), some (.lst false (nums ss)), some (.lst true (L.map rowT)), some (.int (k : Int)), some (.int s), y5, some (.int at_), none, none] = .ok (decide ((L.length : Int) ≤ at_)) [some (.lst true [.int a, .int b]), some (.lst false (nums ss)), some (.lst true (L.map rowT)), some (.int (k : Int)), some (.int s), y5, some (.int at_), none, none] := by
      unfold wt4__law_late
      exact cE (xOvs (xOs (o := .val (.int (L.length : Int))) rfl (by rw [len_any, List.length_map]) rfl) rfl le rfl)
    by_cases q : (L.length : Int) ≤ at_
    · rw [decide_eq_true q] at t
      obtain ⟨m0, rfl⟩ : ∃ m0, m = m0 + 1 := ⟨m - 1, by omega⟩
      obtain ⟨m', g1, g2, e⟩ := more_rows (a := a) (b := b) (s := s) (k := k) (y5 := y5) (at_ := at_) m0 fuel (L ++ [[]]) (by rw [List.length_append, List.length_singleton]; omega) (by omega) (by rw [List.length_append, List.length_singleton]; omega)
      rw [List.length_append, List.length_singleton] at g2
      refine ⟨m' + 1, by omega, by omega, ?_⟩
      refine zWhile t (st2 := [some (.lst true [.int a, .int b]), some (.lst false (nums ss)), some (.lst true ((L ++ [[]]).map rowT)), some (.int (k : Int)), some (.int s), y5, some (.int at_), none, none]) ?_ ?_
      · unfold wb4__law_late
        refine zExpr (xApp rfl rfl (xLst xANil rfl) rfl (by rw [List.length_map]; omega) ?_)
        rw [List.map_append]
        rfl
      · rw [e, List.replicate_succ, List.append_assoc]
        rfl
    · rw [decide_eq_false q] at t
      exact ⟨0, Nat.zero_le m, by omega, by rw [List.replicate_zero, List.append_nil]; exact zWhile0 t⟩
theorem late_turn {k : Nat} {s : Int} {L : List (List Int)} (hL : Lt k L) (hk : k < ss.length) (lS : ss.length ≤ 12) (a b : Int) (y5 y6 : Option D) :
    ∃ a' b' L' z5 z6, Lt (k + 1) L' ∧ fb5__law_late [some (.lst true [.int a, .int b]), some (.lst false (nums ss)), some (.lst true (L.map rowT)), some (.int (k : Int)), some (.int s), y5, y6, none, none] = .next [some (.lst true [.int a', .int b']), some (.lst false (nums ss)), some (.lst true (L'.map rowT)), some (.int (k : Int)), some (.int s), z5, z6, none, none] := by
  have lL := hL.len
  obtain ⟨A, hA, lA, eA⟩ := ahead_ok (s := s) hL (Nat.le_of_lt hk) (by omega) a b y5 y6
  obtain ⟨r1, a1, b1, r10, r11, e1⟩ := draw_ok a b 2 (by decide) (by decide)
  obtain ⟨r2, a2, b2, r20, r21, e2⟩ := draw_ok a1 b1 3 (by decide) (by decide)
  have hm : ∃ m : Int, -1 ≤ m ∧ m < L.length ∧ oMaxL [.lst true (nums (A ++ [-1]))] = some (.val (.int m)) := by
    have hi := intsD_nums (A ++ [-1])
    cases e : A ++ [-1] with
    | nil => simp at e
    | cons n ns =>
      rw [e] at hi
      obtain ⟨p, q⟩ := maxI_spec ns n
      rw [← e] at p q
      refine ⟨maxI n ns, q (-1) (List.mem_append_right _ List.mem_cons_self), ?_, ?_⟩
      · rcases List.mem_append.mp p with h | h
        · exact (hA _ h).2
        · have := List.mem_singleton.mp h; omega
      · show (match intsD (nums (n :: ns)) with | some (n :: ns) => some (Out.val (.int (maxI n ns))) | _ => none) = _
        rw [hi]
  obtain ⟨m, m0, m1, em⟩ := hm
  have add1 : oAdd [.lst true (nums A), .lst true [.int (-1)]] = some (.newL (nums (A ++ [-1]))) := by
    have := add_any (o := true) (p := true) (xs := nums A) (ys := [.int (-1)]) (by unfold colds; rw [List.all_append]; exact Bool.and_eq_true_iff.mpr ⟨nums_colds A, rfl⟩) (by rw [nums_len, List.length_singleton]; omega)
    rw [this]
    unfold nums
    rw [List.map_append]
    rfl
  have mul : oMul [.int r1, .int r2] = some (.val (.int (r1 * r2))) := oMul_v (by
    rcases (show r1 = 0 ∨ r1 = 1 by omega) with h | h <;> subst h <;> omega)
  have hp : 0 ≤ r1 * r2 ∧ r1 * r2 ≤ 2 := by
    rcases (show r1 = 0 ∨ r1 = 1 by omega) with h | h <;> subst h <;> omega
  generalize r1 * r2 = rr at mul hp
  have eAt : (eOp oAdd [.v (eOp oAdd [.v (eOp oMaxL [.v (eOp oAdd [.s 5, .v (eLst (aCons (eOp oNeg [.v (eC (.int 1))]) aNil))])]), .v (eC (.int 1))]), .v (eOp oMul [.v (eCallL m__law_draw aNil 0 (aCons (eC (.int 2)) aNil)), .v (eCallL m__law_draw aNil 0 (aCons (eC (.int 3)) aNil))])]) [some (.lst true [.int a, .int b]), some (.lst false (nums ss)), some (.lst true (L.map rowT)), some (.int (k : Int)), some (.int s), some (.lst true (nums A)), y6, none, none] = .ok (.int (m + 1 + rr)) [some (.lst true [.int a2, .int b2]), some (.lst false (nums ss)), some (.lst true (L.map rowT)), some (.int (k : Int)), some (.int s), some (.lst true (nums A)), y6, none, none] :=
    xOvv (xOvv (xOv (xOsv rfl (xLst (xACons (xOv xC neg_i rfl) xANil) rfl) rfl add1 rfl) em rfl) xC add_i rfl) (xOvv (xCallL (x := .lst true [.int a, .int b]) (es := [.int 2]) xANil rfl (xACons xC xANil) rfl rfl e1 rfl rfl) (xCallL (x := .lst true [.int a1, .int b1]) (es := [.int 3]) xANil rfl (xACons xC xANil) rfl rfl e2 rfl rfl) mul rfl) add_i rfl
  obtain ⟨m', g1, g2, eW⟩ := more_rows (ss := ss) (a := a2) (b := b2) (s := s) (k := k) (at_ := m + 1 + rr) (y5 := some (.lst true (nums A))) 3 100 L (by omega) (by decide) (by omega)
  obtain ⟨j, hj⟩ : ∃ j : Nat, m + 1 + rr = (j : Int) := ⟨(m + 1 + rr).toNat, by omega⟩
  have lR : (L ++ List.replicate m' ([] : List Int)).length = L.length + m' := by rw [List.length_append, List.length_replicate]
  have jl : j < (L ++ List.replicate m' ([] : List Int)).length := by omega
  have hR : ∀ r ∈ L ++ List.replicate m' ([] : List Int), r.length ≤ k ∧ ∀ x ∈ r, 0 ≤ x ∧ x < k := fun r hr => by
    rcases List.mem_append.mp hr with hr | hr
    · exact hL.row r hr
    · rw [(List.mem_replicate.mp hr).2]
      exact ⟨Nat.zero_le k, fun x hx => by cases hx⟩
  obtain ⟨row, hrow⟩ : ∃ row, (L ++ List.replicate m' ([] : List Int))[j]? = some row := ⟨_, List.getElem?_eq_getElem jl⟩
  have hrw := hR row (List.mem_of_getElem? hrow)
  obtain ⟨r3, a3, b3, r30, r31, e3⟩ := draw_ok a2 b2 ((row.length : Int) + 1) (by omega) (by omega)
  have eI := xInsR (A := A) (ss := ss) (k := k) (s := s) hj hrow (by omega) (by omega) e3 r30 (by omega)
  refine ⟨a3, b3, (L ++ List.replicate m' ([] : List Int)).set j (row.take r3.toNat ++ [(k : Int)] ++ row.drop r3.toNat), some (.lst true (nums A)), some (.int (m + 1 + rr)), ⟨by rw [List.length_set]; omega, fun r hr => ?_⟩, ?_⟩
  · rcases List.mem_or_eq_of_mem_set hr with hr | rfl
    · have := hR r hr
      exact ⟨by omega, fun x hx => by have := this.2 x hx; omega⟩
    · refine ⟨?_, fun x hx => ?_⟩
      · rw [List.length_append, List.length_append, List.length_take, List.length_drop, List.length_singleton]
        omega
      · rcases List.mem_append.mp hx with hx | hx
        · rcases List.mem_append.mp hx with hx | hx
          · have := hrw.2 x (List.mem_of_mem_take hx); omega
          · rw [List.mem_singleton.mp hx]; omega
        · have := hrw.2 x (List.mem_of_mem_drop hx); omega
  · unfold fb5__law_late
    refine zSeq (zAsg eA rfl) ?_
    refine zSeq (zAsg eAt rfl) ?_
    exact zSeq eW (zExpr eI)
/-- the law's late schedules -/
theorem late_ok (lS : ss.length ≤ 12) (a b : Int) : ∃ (L : List (List Int)) (a' b' : Int) (p : Option D), L.length ≤ 36 ∧ (∀ r ∈ L, r.length ≤ 12 ∧ ∀ x ∈ r, 0 ≤ x ∧ x < 12) ∧ m__law_late [.lst true [.int a, .int b], .lst false (nums ss)] = .ok (.lst true (rowF L)) [some (.lst true [.int a', .int b']), p] := by
  obtain ⟨st', F, a', b', L, y3, y4, y5, y6, hL, rfl⟩ := forD_ok (g := fg5__law_late) (body := fb5__law_late) (fun k st => ∃ (a b : Int) (L : List (List Int)) (y3 y4 y5 y6 : Option D), Lt k L ∧ st = [some (.lst true [.int a, .int b]), some (.lst false (nums ss)), some (.lst true (L.map rowT)), y3, y4, y5, y6, none, none])
    (enumD 0 (nums ss)) 0 [some (.lst true [.int a, .int b]), some (.lst false (nums ss)), some (.lst true []), none, none, none, none, none, none] ⟨a, b, [], none, none, none, none, ⟨Nat.zero_le _, fun r hr => by cases hr⟩, rfl⟩ (fun k d st ed hI => by
      obtain ⟨a, b, L, y3, y4, y5, y6, hL, rfl⟩ := hI
      rw [Nat.zero_add] at hL ⊢
      obtain ⟨d', e3, rfl⟩ := enumD_get ed
      rw [Nat.zero_add]
      unfold nums at e3
      rw [List.getElem?_map] at e3
      cases es : ss[k]? with
      | none => rw [es] at e3; cases e3
      | some s =>
        rw [es] at e3
        cases e3
        obtain ⟨a2, b2, L2, z5, z6, h2, e⟩ := late_turn (s := s) hL (List.getElem?_eq_some_iff.mp es).1 lS a b y5 y6
        exact ⟨_, _, rfl, .inl e, a2, b2, L2, _, _, _, _, h2, rfl⟩)
  rw [Nat.zero_add, enumD_length, nums_len] at hL
  have lL := hL.len
  have c : eLc (iE (eN 2) lstItems) lg6__law_late lt6__law_late le6__law_late [7] [some (.lst true [.int a', .int b']), some (.lst false (nums ss)), some (.lst true (L.map rowT)), y3, y4, y5, y6, none, none] = .ok (.lst true (rowF (L.filter fun r => !decide (r = [])))) [some (.lst true [.int a', .int b']), some (.lst false (nums ss)), some (.lst false (rowF L)), y3, y4, y5, y6, none, none] := by
    refine xLc (fun r : List Int => D.lst false (nums r)) (fun r : List Int => D.lst false (nums r)) (fun r => !decide (r = [])) L (ds := rowF L) (st1 := [some (.lst true [.int a', .int b']), some (.lst false (nums ss)), some (.lst false (rowF L)), y3, y4, y5, y6, none, none]) (wE (xNf rfl rfl (frz_rowT L) rfl) lst_it (rowF_cold _)) rfl (by omega) (by show 7 < 9; decide) rfl (fun j _ => rfl) (fun r hr => ?_) (fun r _ _ => xN rfl rfl) rfl
    show lt6__law_late [some (.lst true [.int a', .int b']), some (.lst false (nums ss)), some (.lst false (rowF L)), y3, y4, y5, y6, some (.lst false (nums r)), none] = _
    unfold lt6__law_late
    exact cE (xOsv rfl (xLst xANil rfl) rfl (ne_of (pNe_lst false true r [])) rfl)
  refine ⟨L.filter fun r => !decide (r = []), a', b', _, Nat.le_trans (List.length_filter_le _ _) (by omega), fun r hr => ?_, fn_go (n := 2) (w := 9) (L := [0, 1]) (ds := [.lst true [.int a, .int b], .lst false (nums ss)]) (st := [some (.lst true [.int a', .int b']), some (.lst false (nums ss)), some (.lst false (rowF L)), y3, y4, y5, y6, none, none]) rfl ?_⟩
  · have := hL.row r (List.mem_filter.mp hr).1
    exact ⟨by omega, fun x hx => by have := this.2 x hx; omega⟩
  · show b__law_late [some (.lst true [.int a, .int b]), some (.lst false (nums ss)), none, none, none, none, none, none, none] = _
    unfold b__law_late
    refine zSeq (st1 := [some (.lst true [.int a, .int b]), some (.lst false (nums ss)), some (.lst true []), none, none, none, none, none, none]) (zAsg (xLst xANil rfl) rfl) ?_
    exact zSeq (zFor (wEn0 (xN rfl rfl) (nums_colds _)) F) (zRet c)
end
/-! ### changed schedules -/
theorem s11_d {ds : List D} {k : Nat} {j : Int} (hj : j = (k : Int) + 2) (hc : colds ds = true) (hl : ds.length ≤ 1000000) : ∃ c, c ≤ 2 ∧ cutA (some (k : Int)) (some j) [.lst false ds] = some (.newL ((ds.drop (min k ds.length)).take c)) := by
  have e1 : HT.sIx ds.length 0 (some (k : Int)) = min k ds.length := HT.sIx_nat _ _ _
  have e2 : HT.sIx ds.length ds.length (some j) = min (k + 2) ds.length := by
    rw [hj, show (k : Int) + 2 = ((k + 2 : Nat) : Int) by omega]
    exact HT.sIx_nat _ _ _
  refine ⟨min (k + 2) ds.length - min k ds.length, by omega, ?_⟩
  show newLc (cutD ds (some (k : Int)) (some j)) = _
  have e : cutD ds (some (k : Int)) (some j) = (ds.drop (min k ds.length)).take (min (k + 2) ds.length - min k ds.length) := by
    unfold cutD
    rw [e1, e2]
  rw [e]
  unfold newLc
  have hc2 : colds ((ds.drop (min k ds.length)).take (min (k + 2) ds.length - min k ds.length)) = true := by
    unfold colds at hc ⊢
    exact List.all_eq_true.mpr fun x hx => List.all_eq_true.mp hc x (List.mem_of_mem_drop (List.mem_of_mem_take hx))
  rw [hc2, List.length_take, List.length_drop]
  exact if_pos (by simp; omega)
theorem rq_w0 : Rq 200 2 (.str "0") := by
  refine ⟨by kernel_rfl, by kernel_rfl, by kernel_rfl, by decide +kernel, by rw [PySem.PyData.depth]; omega, by kernel_rfl⟩
theorem rq_we : Rq 200 2 (.str "") := by
  refine ⟨by kernel_rfl, by kernel_rfl, by kernel_rfl, by decide +kernel, by rw [PySem.PyData.depth]; omega, by kernel_rfl⟩
theorem rq_non : Rq 200 2 .none := ⟨rfl, rfl, rfl, by rw [PySem.PyData.weight]; omega, by rw [PySem.PyData.depth]; omega, by kernel_rfl⟩
theorem rq_bl : ∀ b : Bool, Rq 200 2 (.bool b) := fun b => by
  cases b
  · exact ⟨rfl, rfl, rfl, by rw [PySem.PyData.weight]; omega, by rw [PySem.PyData.depth]; omega, by kernel_rfl⟩
  · exact ⟨rfl, rfl, rfl, by rw [PySem.PyData.weight]; omega, by rw [PySem.PyData.depth]; omega, by kernel_rfl⟩
theorem cl_i {i : Int} (h : i.natAbs < 10 ^ 25) : Cl (.int i) := ⟨.int i, (Rq.int (m := 2) h).mono (by omega) (Nat.le_refl 2)⟩
theorem cls_i {l : List Int} (h : ∀ x ∈ l, x.natAbs < 10 ^ 25) : ∀ d ∈ nums l, Cl d := fun d hd => by
  obtain ⟨x, hx, rfl⟩ := List.mem_map.mp hd
  exact cl_i (h x hx)
theorem rw_i {l : List Int} (h : ∀ x ∈ l, x.natAbs < 10 ^ 25) (hl : l.length ≤ 24) : Rw (.lst false (nums l)) := .row _ (cls_i h) (by rw [nums_len]; exact hl)
theorem cl_0 : Cl (.lst false [.int 0]) := by
  refine ⟨it_nums [0], ?_⟩
  exact (rq_lst (z := false) (ds := [.int 0]) (n := 84) (m := 1) fun d hd => by
    rw [List.mem_singleton.mp hd]
    exact Rq.int (by decide)).mono (by decide) (by omega)
/-- the invalid items -/
def invI : List D := [.int (-1), .int 99, .non, .bl true, .bl false, .str "0", .lst false [.int 0], .int (10 ^ 20)]
theorem invI_cl : ∀ d ∈ invI, Cl d := fun d hd => by
  unfold invI at hd
  simp only [List.mem_cons, List.not_mem_nil, or_false] at hd
  rcases hd with rfl | rfl | rfl | rfl | rfl | rfl | rfl | rfl
  · exact cl_i (by decide)
  · exact cl_i (by decide)
  · exact ⟨.non, rq_non⟩
  · exact ⟨.bl _, rq_bl _⟩
  · exact ⟨.bl _, rq_bl _⟩
  · exact ⟨.str _, rq_w0⟩
  · exact cl_0
  · exact cl_i (by decide)
theorem ix_any {xs : List D} {P : D → Prop} (h : ∀ d ∈ xs, P d ∧ cold d = true) {r : Int} (r0 : 0 ≤ r) (r1 : r < xs.length) (o : Bool) : ∃ d, oIx [.lst o xs, .int r] = some (.val d) ∧ P d := by
  have l : r.toNat < xs.length := by omega
  have m := h xs[r.toNat] (List.getElem_mem l)
  exact ⟨xs[r.toNat], ix_at r0 (List.getElem?_eq_getElem l) m.2, m.1⟩
def fixV : List D := [.lst false [.lst false []], .lst false [.lst false [.int 0]], .non, .tup [], .lst false [.int 0], .dic false [], .str ""]
theorem fixV_ok : ∀ d ∈ fixV, V54 d ∧ cold d = true := fun d hd => by
  have r0 : Rw (.lst false []) := .row [] (fun d hd => by cases hd) (by decide)
  have r1 : Rw (.lst false [.int 0]) := rw_i (l := [0]) (fun x hx => by rw [List.mem_singleton.mp hx]; decide) (by decide)
  have r2 : Rw (.int 0) := .one _ (.int 0) rfl ((Rq.int (m := 3) (by decide)).mono (by decide) (by omega))
  have one : ∀ x : D, Rw x → V54 (.lst false [x]) := fun x hx => .list _ (fun r hr => by rw [List.mem_singleton.mp hr]; exact hx) (by decide : 1 ≤ 60)
  unfold fixV at hd
  simp only [List.mem_cons, List.not_mem_nil, or_false] at hd
  rcases hd with rfl | rfl | rfl | rfl | rfl | rfl | rfl
  · exact ⟨one _ r0, rfl⟩
  · exact ⟨one _ r1, rfl⟩
  · exact ⟨.one _ .non rfl (rq_non.mono (by decide) (by decide)), rfl⟩
  · exact ⟨.one _ (.tup [] fzL_n) rfl ((RqL.tuple (m := 0) RqL.nil).mono (by decide) (by decide)), rfl⟩
  · exact ⟨one _ r2, rfl⟩
  · exact ⟨.dic, rfl⟩
  · exact ⟨.one _ (.str "") rfl (rq_we.mono (by decide) (by decide)), rfl⟩
section
variable {L : List (List Int)}
theorem colds_app {xs ys : List D} (h1 : colds xs = true) (h2 : colds ys = true) : colds (xs ++ ys) = true := by
  unfold colds at *
  rw [List.all_append, h1, h2]
  rfl
theorem colds_take {xs : List D} (h : colds xs = true) (k : Nat) : colds (xs.take k) = true := by
  unfold colds at *
  exact List.all_eq_true.mpr fun x hx => List.all_eq_true.mp h x (List.mem_of_mem_take hx)
theorem changed_ok (lL : L.length ≤ 36) (hL : ∀ r ∈ L, r.length ≤ 12 ∧ ∀ x ∈ r, 0 ≤ x ∧ x < 12) (a b : Int) : ∃ (v : D) (a' b' : Int) (p : Option D), V54 (frz v) ∧ m__law_changed [.lst true [.int a, .int b], .lst false (rowF L)] = .ok v [some (.lst true [.int a', .int b']), p] := by
  have go : ∀ {a' b' : Int} {v : D} {x2 x3 x4 x5 x6 x7 x8 x9 x10 : Option D}, V54 (frz v) → b__law_changed [some (.lst true [.int a, .int b]), some (.lst false (rowF L)), none, none, none, none, none, none, none, none, none] = .ret v [some (.lst true [.int a', .int b']), some (.lst false (rowF L)), x2, x3, x4, x5, x6, x7, x8, x9, x10] → ∃ (v : D) (a' b' : Int) (p : Option D), V54 (frz v) ∧ m__law_changed [.lst true [.int a, .int b], .lst false (rowF L)] = .ok v [some (.lst true [.int a', .int b']), p] := fun h e =>
    ⟨_, _, _, _, h, fn_go (n := 2) (w := 11) (L := [0, 1]) (ds := [.lst true [.int a, .int b], .lst false (rowF L)]) rfl e⟩
  have small : ∀ r ∈ L, ∀ x ∈ r, x.natAbs < 10 ^ 25 := fun r hr x hx => by have := (hL r hr).2 x hx; omega
  have rws : ∀ d ∈ rowF L, Rw d := fun d hd => by
    obtain ⟨r, hr, rfl⟩ := List.mem_map.mp hd
    exact rw_i (small r hr) (by have := (hL r hr).1; omega)
  have lF : (rowF L).length = L.length := by unfold rowF; rw [List.length_map]
  have cF := rowF_cold L
  have t2 : (tE (eOp (f2 pEq) [.s 1, .v (eLst aNil)])) [some (.lst true [.int a, .int b]), some (.lst false (rowF L)), none, none, none, none, none, none, none, none, none] = .ok (decide (rowF L = [])) [some (.lst true [.int a, .int b]), some (.lst false (rowF L)), none, none, none, none, none, none, none, none, none] := cE (xOsv rfl (xLst xANil rfl) rfl (nil_eq (rws_rq rws (by omega)) (by omega)) rfl)
  by_cases hn : rowF L = []
  · rw [decide_eq_true hn] at t2
    obtain ⟨r, a1, b1, r0, r1, e⟩ := draw_ok a b 7 (by decide) (by decide)
    obtain ⟨d, ed, hd⟩ := ix_any fixV_ok r0 (show r < fixV.length from r1) false
    have lst : eFz (eLst (aCons (eLst (aCons (eLst aNil) aNil)) (aCons (eLst (aCons (eLst (aCons (eC (.int 0)) aNil)) aNil)) (aCons (eC .non) (aCons (eTup aNil) (aCons (eLst (aCons (eC (.int 0)) aNil)) (aCons eDn (aCons (eC (.str "")) aNil)))))))) [some (.lst true [.int a, .int b]), some (.lst false (rowF L)), none, none, none, none, none, none, none, none, none] = .ok (.lst false fixV) [some (.lst true [.int a, .int b]), some (.lst false (rowF L)), none, none, none, none, none, none, none, none, none] := rfl
    suffices h : b__law_changed [some (.lst true [.int a, .int b]), some (.lst false (rowF L)), none, none, none, none, none, none, none, none, none] = .ret d [some (.lst true [.int a1, .int b1]), some (.lst false (rowF L)), none, none, none, none, none, none, none, none, none] from go (by rw [hd.frz]; exact hd) h
    unfold b__law_changed
    exact zSeqR (zYes t2 (zRet (xOvv lst (xCallL (x := .lst true [.int a, .int b]) (es := [.int 7]) xANil rfl (xACons xC xANil) rfl rfl e rfl rfl) ed rfl)))
  · rw [decide_eq_false hn] at t2
    have hpos : 0 < L.length := by
      rw [← lF]
      exact List.length_pos_iff.mpr hn
    have lenr : oLen [.lst false (rowF L)] = some (.val (.int (L.length : Int))) := by rw [len_any, lF]
    obtain ⟨at_, a1, b1, at0, at1, e1⟩ := draw_ok a b (L.length : Int) (by omega) (by omega)
    obtain ⟨ot, a2, b2, ot0, ot1, e2⟩ := draw_ok a1 b1 (L.length : Int) (by omega) (by omega)
    obtain ⟨i, rfl⟩ : ∃ i : Nat, at_ = (i : Int) := ⟨at_.toNat, by omega⟩
    obtain ⟨i2, rfl⟩ : ∃ i : Nat, ot = (i : Int) := ⟨ot.toNat, by omega⟩
    obtain ⟨row, hrow⟩ : ∃ row, L[i]? = some row := ⟨_, List.getElem?_eq_getElem (show i < L.length by omega)⟩
    obtain ⟨oth, hoth⟩ : ∃ row, L[i2]? = some row := ⟨_, List.getElem?_eq_getElem (show i2 < L.length by omega)⟩
    have mr := List.mem_of_getElem? hrow
    have mo := List.mem_of_getElem? hoth
    obtain ⟨lr, br⟩ := hL row mr
    obtain ⟨lo, bo⟩ := hL oth mo
    have sr := small row mr
    have so := small oth mo
    have ixr : oIx [.lst false (rowF L), .int (i : Int)] = some (.val (.lst false (nums row))) := by
      refine ix_at (Int.natCast_nonneg i) ?_ rfl
      rw [Int.toNat_natCast]
      unfold rowF
      rw [List.getElem?_map, hrow]
      rfl
    have ixo : oIx [.lst false (rowF L), .int (i2 : Int)] = some (.val (.lst false (nums oth))) := by
      refine ix_at (Int.natCast_nonneg i2) ?_ rfl
      rw [Int.toNat_natCast]
      unfold rowF
      rw [List.getElem?_map, hoth]
      rfl
    obtain ⟨rv, a3, b3, rv0, rv1, e3⟩ := draw_ok a2 b2 8 (by decide) (by decide)
    obtain ⟨iv, eiv, hiv⟩ := ix_any (xs := invI) (P := Cl) (fun d hd => ⟨invI_cl d hd, (invI_cl d hd).it.cold⟩) rv0 (show rv < invI.length from rv1) false
    obtain ⟨way, a4, b4, w0, w1, e4⟩ := draw_ok a3 b3 14 (by decide) (by decide)
    have lst5 : eFz (eLst (aCons (eOp oNeg [.v (eC (.int 1))]) (aCons (eC (.int 99)) (aCons (eC .non) (aCons (eC (.bl true)) (aCons (eC (.bl false)) (aCons (eC (.str "0")) (aCons (eLst (aCons (eC (.int 0)) aNil)) (aCons (eOp oPow [.v (eC (.int 10)), .v (eC (.int 20))]) aNil))))))))) [some (.lst true [.int a2, .int b2]), some (.lst false (rowF L)), some (.int (i : Int)), some (.int (i2 : Int)), some (.lst false (nums row)), none, none, none, none, none, none] = .ok (.lst false invI) [some (.lst true [.int a2, .int b2]), some (.lst false (rowF L)), some (.int (i : Int)), some (.int (i2 : Int)), some (.lst false (nums row)), none, none, none, none, none, none] := by kernel_rfl
    -- the eight rows
    have cl_row := cls_i sr
    have cd : colds (nums row) = true := nums_colds row
    have q1 : oS10 [.lst false (nums row), .int 1] = some (.newL (nums (row.drop 1))) := s10_n (k := 1) rfl (by omega)
    have q2 : oS01 [.lst false (nums row), .int 1] = some (.newL (nums (row.take 1))) := s01_n (k := 1) rfl (by omega)
    have q3 : oAdd [.lst false (nums row), .lst false (nums (row.take 1))] = some (.newL (nums row ++ nums (row.take 1))) := add_any (colds_app cd (nums_colds _)) (by rw [nums_len, nums_len, List.length_take]; omega)
    have civ : colds [iv] = true := by unfold colds; rw [List.all_cons, hiv.it.cold]; rfl
    have q4 : oAdd [.lst false (nums row), .lst true [iv]] = some (.newL (nums row ++ [iv])) := add_any (colds_app cd civ) (by rw [nums_len, List.length_singleton]; omega)
    have q5 : oAdd [.lst true [iv], .lst false (nums (row.drop 1))] = some (.newL ([iv] ++ nums (row.drop 1))) := add_any (colds_app civ (nums_colds _)) (by rw [nums_len, List.length_singleton, List.length_drop]; omega)
    have q6 : oTuple [.lst false (nums row)] = some (.newT (nums row)) := tup_l (by omega)
    have q7 : oAdd [.lst false (nums row), .lst false (nums oth)] = some (.newL (nums row ++ nums oth)) := add_any (colds_app cd (nums_colds _)) (by rw [nums_len, nums_len]; omega)
    have fi : frz iv = iv := hiv.it.frz
    have cls_app : ∀ {xs ys : List D}, (∀ d ∈ xs, Cl d) → (∀ d ∈ ys, Cl d) → ∀ d ∈ xs ++ ys, Cl d := fun h1 h2 d hd => (List.mem_append.mp hd).elim (h1 d) (h2 d)
    have clv : ∀ d ∈ [iv], Cl d := fun d hd => by rw [List.mem_singleton.mp hd]; exact hiv
    have cl_tk : ∀ d ∈ nums (row.take 1), Cl d := cls_i fun x hx => sr x (List.mem_of_mem_take hx)
    have cl_dr : ∀ d ∈ nums (row.drop 1), Cl d := cls_i fun x hx => sr x (List.mem_of_mem_drop hx)
    have fz_of : ∀ {xs : List D} {z : Bool}, (∀ d ∈ xs, Cl d) → frz (.lst z xs) = .lst false xs := fun h => fz_lst (its_frz fun d hd => (h d hd).it)
    have lst6 : eFz (eLst (aCons (eFz (eOp oS10 [.s 4, .v (eC (.int 1))])) (aCons (eOp oAdd [.s 4, .v (eFz (eOp oS01 [.s 4, .v (eC (.int 1))]))]) (aCons (eOp oAdd [.s 4, .v (eLst (aCons (eN 5) aNil))]) (aCons (eOp oAdd [.v (eLst (aCons (eN 5) aNil)), .v (eFz (eOp oS10 [.s 4, .v (eC (.int 1))]))]) (aCons (eOp oTuple [.s 4]) (aCons (eC .non) (aCons (eLst aNil) (aCons (eOp oAdd [.s 4, .v (eOp oIx [.s 1, .s 3])]) aNil))))))))) [some (.lst true [.int a3, .int b3]), some (.lst false (rowF L)), some (.int (i : Int)), some (.int (i2 : Int)), some (.lst false (nums row)), some iv, none, none, none, none, none] =
        .ok (.lst false [.lst false (nums (row.drop 1)), .lst false (nums row ++ nums (row.take 1)), .lst false (nums row ++ [iv]), .lst false ([iv] ++ nums (row.drop 1)), .tup (nums row), .non, .lst false [], .lst false (nums row ++ nums oth)]) [some (.lst true [.int a3, .int b3]), some (.lst false (rowF L)), some (.int (i : Int)), some (.int (i2 : Int)), some (.lst false (nums row)), some iv, none, none, none, none, none] :=
      xFz (xLst (xACons (xFz (xOsv rfl xC rfl q1 rfl) fz_l) (xACons (xOsv rfl (xFz (xOsv rfl xC rfl q2 rfl) fz_l) rfl q3 rfl) (xACons (xOsv rfl (xLst (xACons (xN rfl hiv.it.hot) xANil) rfl) rfl q4 rfl) (xACons (xOvv (xLst (xACons (xN rfl hiv.it.hot) xANil) rfl) (xFz (xOsv rfl xC rfl q1 rfl) fz_l) q5 rfl) (xACons (xOs rfl q6 rfl) (xACons xC (xACons (xLst xANil rfl) (xACons (xOsv rfl (xOss rfl rfl ixo rfl) rfl q7 rfl) xANil)))))))) rfl)
        (fz_lst (fzL_c fz_l (fzL_c (fz_of (cls_app cl_row cl_tk)) (fzL_c (fz_of (cls_app cl_row clv)) (fzL_c (fz_of (cls_app clv cl_dr)) (fzL_c fz_t (fzL_c fz_n (fzL_c (fz_lst fzL_n) (fzL_c (fz_of (cls_app cl_row (cls_i so))) fzL_n)))))))))
    have all8 : ∀ d ∈ [D.lst false (nums (row.drop 1)), .lst false (nums row ++ nums (row.take 1)), .lst false (nums row ++ [iv]), .lst false ([iv] ++ nums (row.drop 1)), .tup (nums row), .non, .lst false [], .lst false (nums row ++ nums oth)], Rw d ∧ cold d = true := fun d hd => by
      simp only [List.mem_cons, List.not_mem_nil, or_false] at hd
      rcases hd with rfl | rfl | rfl | rfl | rfl | rfl | rfl | rfl
      · exact ⟨.row _ cl_dr (by rw [nums_len, List.length_drop]; omega), rfl⟩
      · exact ⟨.row _ (cls_app cl_row cl_tk) (by rw [List.length_append, nums_len, nums_len, List.length_take]; omega), rfl⟩
      · exact ⟨.row _ (cls_app cl_row clv) (by rw [List.length_append, nums_len, List.length_singleton]; omega), rfl⟩
      · exact ⟨.row _ (cls_app clv cl_dr) (by rw [List.length_append, nums_len, List.length_singleton, List.length_drop]; omega), rfl⟩
      · refine ⟨.one _ (it_tup row) rfl ?_, rfl⟩
        rw [toPy]
        exact ((rqls fun d hd => (cl_row d hd).rq).tuple).mono (by rw [nums_len]; omega) (by omega)
      · exact ⟨.one _ .non rfl (rq_non.mono (by omega) (by omega)), rfl⟩
      · exact ⟨.row _ (fun d hd => by cases hd) (by decide), rfl⟩
      · exact ⟨.row _ (cls_app cl_row (cls_i so)) (by rw [List.length_append, nums_len, nums_len]; omega), rfl⟩
    have l8 : (([D.lst false (nums (row.drop 1)), .lst false (nums row ++ nums (row.take 1)), .lst false (nums row ++ [iv]), .lst false ([iv] ++ nums (row.drop 1)), .tup (nums row), .non, .lst false [], .lst false (nums row ++ nums oth)] : List D).length : Int) = 8 := rfl
    generalize [D.lst false (nums (row.drop 1)), .lst false (nums row ++ nums (row.take 1)), .lst false (nums row ++ [iv]), .lst false ([iv] ++ nums (row.drop 1)), .tup (nums row), .non, .lst false [], .lst false (nums row ++ nums oth)] = some8 at lst6 all8 l8
    -- pieces of the rows
    have s1 : oS01 [.lst false (rowF L), .int (i : Int)] = some (.newL ((rowF L).take i)) := s01_d cF (by omega)
    have s2 : oS10 [.lst false (rowF L), .int ((i : Int) + 1)] = some (.newL ((rowF L).drop (i + 1))) := s10_d (k := i + 1) (by omega) cF (by omega)
    have s3 : oS10 [.lst false (rowF L), .int ((i : Int) + 2)] = some (.newL ((rowF L).drop (i + 2))) := s10_d (k := i + 2) (by omega) cF (by omega)
    have s4 : oS10 [.lst false (rowF L), .int (i : Int)] = some (.newL ((rowF L).drop i)) := s10_d (k := i) rfl cF (by omega)
    have ct := colds_take cF i
    have cr : ∀ k, colds ((rowF L).drop k) = true := fun k => drop_d cF
    have lt : ((rowF L).take i).length ≤ 36 := by rw [List.length_take]; omega
    have ld : ∀ k, ((rowF L).drop k).length ≤ 36 := fun k => by rw [List.length_drop]; omega
    have ltd : ∀ k, i ≤ k → ((rowF L).take i).length + ((rowF L).drop k).length ≤ 36 := fun k hk => by rw [List.length_take, List.length_drop]; omega
    have rt : ∀ d ∈ (rowF L).take i, Rw d := fun d hd => rws d (List.mem_of_mem_take hd)
    have rd : ∀ k, ∀ d ∈ (rowF L).drop k, Rw d := fun k d hd => rws d (List.mem_of_mem_drop hd)
    have rapp : ∀ {xs ys : List D}, (∀ d ∈ xs, Rw d) → (∀ d ∈ ys, Rw d) → ∀ d ∈ xs ++ ys, Rw d := fun h1 h2 d hd => (List.mem_append.mp hd).elim (h1 d) (h2 d)
    have r1 : ∀ {x : D}, Rw x → ∀ d ∈ [x], Rw d := fun h d hd => by rw [List.mem_singleton.mp hd]; exact h
    have rcol : ∀ {xs : List D}, (∀ d ∈ xs, Rw d) → colds xs = true := fun h => rws_colds h
    have rfz : ∀ {xs : List D} {z : Bool}, (∀ d ∈ xs, Rw d) → frz (.lst z xs) = .lst false xs := fun h => fz_lst (rws_frz h)
    have lt8 : f2 pLt [.int way, .int 8] = some (.val (.bl (decide (way < 8)))) := lt_i
    have pre : ∀ {R : SR}, (sSeq st9__law_changed (sSeq st10__law_changed (sSeq st11__law_changed (sSeq st12__law_changed st13__law_changed)))) [some (.lst true [.int a4, .int b4]), some (.lst false (rowF L)), some (.int (i : Int)), some (.int (i2 : Int)), some (.lst false (nums row)), some iv, some (.lst false some8), some (.int way), none, none, none] = R → b__law_changed [some (.lst true [.int a, .int b]), some (.lst false (rowF L)), none, none, none, none, none, none, none, none, none] = R := fun h => by
      unfold b__law_changed
      refine zSeq (zNo t2 rfl) ?_
      refine zSeq (st1 := [some (.lst true [.int a2, .int b2]), some (.lst false (rowF L)), some (.int (i : Int)), some (.int (i2 : Int)), none, none, none, none, none, none, none]) (zPar (a := .int (i : Int)) (b := .int (i2 : Int)) (xACons (xCallL (x := .lst true [.int a, .int b]) (es := [.int (L.length : Int)]) xANil rfl (xACons (xOs rfl lenr rfl) xANil) rfl rfl e1 rfl rfl) (xACons (xCallL (x := .lst true [.int a1, .int b1]) (es := [.int (L.length : Int)]) xANil rfl (xACons (xOs rfl lenr rfl) xANil) rfl rfl e2 rfl rfl) xANil)) rfl rfl) ?_
      refine zSeq (zAsg (xOss rfl rfl ixr rfl) rfl) ?_
      refine zSeq (zAsg (xOvv lst5 (xCallL (x := .lst true [.int a2, .int b2]) (es := [.int 8]) xANil rfl (xACons xC xANil) rfl rfl e3 rfl rfl) eiv rfl) rfl) ?_
      refine zSeq (zAsg lst6 rfl) ?_
      exact zSeq (zAsg (xCallL (x := .lst true [.int a3, .int b3]) (es := [.int 14]) xANil rfl (xACons xC xANil) rfl rfl e4 rfl rfl) rfl) h
    by_cases hw : way < 8
    · rw [decide_eq_true hw] at lt8
      obtain ⟨d, ed, hd⟩ := ix_any all8 w0 (show way < (some8.length : Int) by omega) false
      have p1 : oAdd [.lst true ((rowF L).take i), .lst true [d]] = some (.newL ((rowF L).take i ++ [d])) := add_any (rcol (rapp rt (r1 hd))) (by rw [List.length_singleton]; omega)
      have p2 : oAdd [.lst true ((rowF L).take i ++ [d]), .lst true ((rowF L).drop (i + 1))] = some (.newL ((rowF L).take i ++ [d] ++ (rowF L).drop (i + 1))) := add_any (rcol (rapp (rapp rt (r1 hd)) (rd _))) (by have := ld (i + 1); rw [List.length_append, List.length_singleton]; omega)
      refine go (x2 := some (.int (i : Int))) (x3 := some (.int (i2 : Int))) (x4 := some (.lst false (nums row))) (x5 := some iv) (x6 := some (.lst false some8)) (x7 := some (.int way)) (x8 := none) (x9 := none) (x10 := none) (a' := a4) (b' := b4) (v := .lst true ((rowF L).take i ++ [d] ++ (rowF L).drop (i + 1))) ?_ (pre (zSeqR (zYes (cE (xOsv rfl xC rfl lt8 rfl)) (zRet (xOvv (xOvv (xOss rfl rfl s1 rfl) (xLst (xACons (xOss rfl rfl ed rfl) xANil) rfl) p1 rfl) (xOsv rfl (xOsv rfl xC rfl add_i rfl) rfl s2 rfl) p2 rfl)))))
      rw [rfz (rapp (rapp rt (r1 hd)) (rd _))]
      exact .list _ (rapp (rapp rt (r1 hd)) (rd _)) (by have := ltd (i + 1) (by omega); rw [List.length_append, List.length_append, List.length_singleton]; omega)
    · rw [decide_eq_false hw] at lt8
      -- joined
      obtain ⟨c, hc, e11⟩ := s11_d (ds := rowF L) (k := i) (j := (i : Int) + 2) rfl cF (by omega)
      have sub : ((rowF L).drop (min i (rowF L).length)).take c = rowF ((L.drop (min i L.length)).take c) := by
        rw [lF]
        unfold rowF
        rw [← List.map_drop, ← List.map_take]
      rw [sub] at e11
      have hS : ∀ r ∈ (L.drop (min i L.length)).take c, r ∈ L := fun r hr => List.mem_of_mem_drop (List.mem_of_mem_take hr)
      have lS : ((L.drop (min i L.length)).take c).length ≤ 2 := by rw [List.length_take]; omega
      generalize (L.drop (min i L.length)).take c = S at e11 hS lS
      have lf : S.flatten.length ≤ 24 := by
        have key : ∀ T : List (List Int), (∀ r ∈ T, r ∈ L) → T.flatten.length ≤ 12 * T.length := fun T => by
          induction T with
          | nil => intro _; exact Nat.zero_le _
          | cons a T ih =>
            intro h
            have := (hL a (h a List.mem_cons_self)).1
            have := ih fun r hr => h r (List.mem_cons_of_mem _ hr)
            rw [List.flatten_cons, List.length_append, List.length_cons]
            omega
        have := key S hS
        omega
      have sf : ∀ x ∈ S.flatten, x.natAbs < 10 ^ 25 := fun x hx => by
        obtain ⟨r, hr, hx⟩ := List.mem_flatten.mp hx
        exact small r (hS r hr) x hx
      have sum : oSumL [.lst true (rowF S)] = some (.newL (nums S.flatten)) := by
        have e : rowF S = (S.map nums).map (D.lst false) := by unfold rowF; rw [List.map_map]; rfl
        have := sum_cells (z := true) (R := S.map nums) (fun ds hds => by
          obtain ⟨r, _, rfl⟩ := List.mem_map.mp hds
          exact nums_colds r) (by rw [flat_nums54, nums_len]; omega)
        rw [← e, flat_nums54] at this
        exact this
      have rj : Rw (.lst false (nums S.flatten)) := rw_i sf lf
      have j1 : oAdd [.lst true ((rowF L).take i), .lst true [.lst false (nums S.flatten)]] = some (.newL ((rowF L).take i ++ [.lst false (nums S.flatten)])) := add_any (rcol (rapp rt (r1 rj))) (by rw [List.length_singleton]; omega)
      have j2 : oAdd [.lst true ((rowF L).take i ++ [.lst false (nums S.flatten)]), .lst true ((rowF L).drop (i + 2))] = some (.newL ((rowF L).take i ++ [.lst false (nums S.flatten)] ++ (rowF L).drop (i + 2))) := add_any (rcol (rapp (rapp rt (r1 rj)) (rd _))) (by have := ld (i + 2); rw [List.length_append, List.length_singleton]; omega)
      have hj := rapp (rapp rt (r1 rj)) (rd (i + 2))
      have lj : ((rowF L).take i ++ [D.lst false (nums S.flatten)] ++ (rowF L).drop (i + 2)).length ≤ 60 := by have := ltd (i + 2) (by omega); rw [List.length_append, List.length_append, List.length_singleton]; omega
      -- split
      have rs1 : Rw (.lst false (nums (row.take 1))) := .row _ cl_tk (by rw [nums_len, List.length_take]; omega)
      have rs2 : Rw (.lst false (nums (row.drop 1))) := .row _ cl_dr (by rw [nums_len, List.length_drop]; omega)
      have rs : ∀ d ∈ [D.lst false (nums (row.take 1)), .lst false (nums (row.drop 1))], Rw d := fun d hd => by
        simp only [List.mem_cons, List.not_mem_nil, or_false] at hd
        rcases hd with rfl | rfl
        · exact rs1
        · exact rs2
      have p1 : oAdd [.lst true ((rowF L).take i), .lst true [.lst false (nums (row.take 1)), .lst false (nums (row.drop 1))]] = some (.newL ((rowF L).take i ++ [.lst false (nums (row.take 1)), .lst false (nums (row.drop 1))])) := add_any (rcol (rapp rt rs)) (by show _ + 2 ≤ _; omega)
      have hs := rapp (rapp rt rs) (rd (i + 1))
      have p2 : oAdd [.lst true ((rowF L).take i ++ [.lst false (nums (row.take 1)), .lst false (nums (row.drop 1))]), .lst true ((rowF L).drop (i + 1))] = some (.newL ((rowF L).take i ++ [.lst false (nums (row.take 1)), .lst false (nums (row.drop 1))] ++ (rowF L).drop (i + 1))) := add_any (rcol hs) (by have := ld (i + 1); rw [List.length_append]; show _ + 2 + _ ≤ _; omega)
      have ls : ((rowF L).take i ++ [D.lst false (nums (row.take 1)), .lst false (nums (row.drop 1))] ++ (rowF L).drop (i + 1)).length ≤ 60 := by have := ltd (i + 1) (by omega); rw [List.length_append, List.length_append]; show _ + 2 + _ ≤ _; omega
      -- the others
      have o1 : oRevA [.lst false (rowF L)] = some (.newL (rowF L).reverse) := rev_dd cF (by omega)
      have hr : ∀ d ∈ (rowF L).reverse, Rw d := fun d hd => rws d (List.mem_reverse.mp hd)
      have o2 : oAdd [.lst true ((rowF L).take i), .lst true ((rowF L).drop (i + 1))] = some (.newL ((rowF L).take i ++ (rowF L).drop (i + 1))) := add_any (rcol (rapp rt (rd _))) (by have := ld (i + 1); omega)
      have o3 : oTuple [.lst false (rowF L)] = some (.newT (rowF L)) := by
        show (if colds (rowF L) && decide ((rowF L).length ≤ 16777216) then some (Out.newT (rowF L)) else none) = _
        rw [cF, decide_eq_true (by omega)]
        rfl
      have o4 : oAdd [.lst true ((rowF L).drop i), .lst true ((rowF L).take i)] = some (.newL ((rowF L).drop i ++ (rowF L).take i)) := add_any (rcol (rapp (rd _) rt)) (by have := ld i; omega)
      have ft : frz (.tup (rowF L)) = .tup (rowF L) := fz_tup (rws_frz rws)
      generalize hJ : ((rowF L).take i ++ [D.lst false (nums S.flatten)] ++ (rowF L).drop (i + 2)) = J at j2 hj lj
      generalize hP : ((rowF L).take i ++ [D.lst false (nums (row.take 1)), .lst false (nums (row.drop 1))] ++ (rowF L).drop (i + 1)) = P at p2 hs ls
      have sl : eS11 1 (eN 2) (eOp oAdd [.s 2, .v (eC (.int 2))]) [some (.lst true [.int a4, .int b4]), some (.lst false (rowF L)), some (.int (i : Int)), some (.int (i2 : Int)), some (.lst false (nums row)), some iv, some (.lst false some8), some (.int way), none, none, none] = .ok (.lst true (rowF S)) [some (.lst true [.int a4, .int b4]), some (.lst false (rowF L)), some (.int (i : Int)), some (.int (i2 : Int)), some (.lst false (nums row)), some iv, some (.lst false some8), some (.int way), none, none, none] := by
        unfold eS11
        show (match cutA (some (i : Int)) (some ((i : Int) + 2)) [.lst false (rowF L)] with | some o => Res.ok o.d _ | none => .fail) = _
        rw [e11]
        rfl
      have lst12 : eFz (eLst (aCons (eN 8) (aCons (eN 9) (aCons (eOp oRevA [.s 1]) (aCons (eOp oAdd [.v (eOp oS01 [.s 1, .s 2]), .v (eOp oS10 [.s 1, .v (eOp oAdd [.s 2, .v (eC (.int 1))])])]) (aCons (eOp oTuple [.s 1]) (aCons (eOp oAdd [.v (eOp oS10 [.s 1, .s 2]), .v (eOp oS01 [.s 1, .s 2])]) aNil))))))) [some (.lst true [.int a4, .int b4]), some (.lst false (rowF L)), some (.int (i : Int)), some (.int (i2 : Int)), some (.lst false (nums row)), some iv, some (.lst false some8), some (.int way), some (.lst true J), some (.lst true P), none] =
          .ok (.lst false [.lst false J, .lst false P, .lst false (rowF L).reverse, .lst false ((rowF L).take i ++ (rowF L).drop (i + 1)), .tup (rowF L), .lst false ((rowF L).drop i ++ (rowF L).take i)]) [some (.lst true [.int a4, .int b4]), some (.lst false (rowF L)), some (.int (i : Int)), some (.int (i2 : Int)), some (.lst false (nums row)), some iv, some (.lst false some8), some (.int way), some (.lst false J), some (.lst false P), none] :=
        xFz (xLst (xACons (xNf rfl rfl (rfz hj) rfl) (xACons (xNf rfl rfl (rfz hs) rfl) (xACons (xOs rfl o1 rfl) (xACons (xOvv (xOss rfl rfl s1 rfl) (xOsv rfl (xOsv rfl xC rfl add_i rfl) rfl s2 rfl) o2 rfl) (xACons (xOs rfl o3 rfl) (xACons (xOvv (xOss rfl rfl s4 rfl) (xOss rfl rfl s1 rfl) o4 rfl) xANil)))))) rfl)
          (fz_lst (fzL_c (rfz hj) (fzL_c (rfz hs) (fzL_c (rfz hr) (fzL_c (rfz (rapp rt (rd _))) (fzL_c ft (fzL_c (rfz (rapp (rd _) rt)) fzL_n)))))))
      have all6 : ∀ d ∈ [D.lst false J, .lst false P, .lst false (rowF L).reverse, .lst false ((rowF L).take i ++ (rowF L).drop (i + 1)), .tup (rowF L), .lst false ((rowF L).drop i ++ (rowF L).take i)], V54 d ∧ cold d = true := fun d hd => by
        simp only [List.mem_cons, List.not_mem_nil, or_false] at hd
        rcases hd with rfl | rfl | rfl | rfl | rfl | rfl
        · exact ⟨.list _ hj lj, rfl⟩
        · exact ⟨.list _ hs ls, rfl⟩
        · exact ⟨.list _ hr (by rw [List.length_reverse]; omega), rfl⟩
        · exact ⟨.list _ (rapp rt (rd _)) (by have := ltd (i + 1) (by omega); rw [List.length_append]; omega), rfl⟩
        · refine ⟨.one _ (.tup _ (rws_frz rws)) rfl ?_, rfl⟩
          rw [toPy]
          exact ((rqls fun d hd => (rws d hd).rq).tuple).mono (by omega) (by omega)
        · exact ⟨.list _ (rapp (rd _) rt) (by have := ltd i (Nat.le_refl i); rw [List.length_append]; omega), rfl⟩
      obtain ⟨d, ed, hd⟩ := ix_any (r := way - 8) all6 (by omega) (show way - 8 < 6 by omega) false
      refine go (x2 := some (.int (i : Int))) (x3 := some (.int (i2 : Int))) (x4 := some (.lst false (nums row))) (x5 := some iv) (x6 := some (.lst false some8)) (x7 := some (.int way)) (x8 := some (.lst false J)) (x9 := some (.lst false P)) (x10 := some (.lst false [.lst false J, .lst false P, .lst false (rowF L).reverse, .lst false ((rowF L).take i ++ (rowF L).drop (i + 1)), .tup (rowF L), .lst false ((rowF L).drop i ++ (rowF L).take i)])) (a' := a4) (b' := b4) (v := d) (by rw [hd.frz]; exact hd) (pre (zSeq (zNo (cE (xOsv rfl xC rfl lt8 rfl)) rfl) ?_))
      refine zSeq (st1 := [some (.lst true [.int a4, .int b4]), some (.lst false (rowF L)), some (.int (i : Int)), some (.int (i2 : Int)), some (.lst false (nums row)), some iv, some (.lst false some8), some (.int way), some (.lst true J), none, none]) (zAsg (xOvv (xOvv (xOss rfl rfl s1 rfl) (xLst (xACons (xFz (xOv sl sum rfl) fz_l) xANil) rfl) j1 rfl) (xOsv rfl (xOsv rfl xC rfl add_i rfl) rfl s3 rfl) j2 rfl) rfl) ?_
      refine zSeq (st1 := [some (.lst true [.int a4, .int b4]), some (.lst false (rowF L)), some (.int (i : Int)), some (.int (i2 : Int)), some (.lst false (nums row)), some iv, some (.lst false some8), some (.int way), some (.lst true J), some (.lst true P), none]) (zAsg (xOvv (xOvv (xOss rfl rfl s1 rfl) (xLst (xACons (xFz (xOsv rfl xC rfl q2 rfl) fz_l) (xACons (xFz (xOsv rfl xC rfl q1 rfl) fz_l) xANil)) rfl) p1 rfl) (xOsv rfl (xOsv rfl xC rfl add_i rfl) rfl s2 rfl) p2 rfl) rfl) ?_
      exact zSeq (zAsg lst12 rfl) (zRet (xOsv rfl (xOsv rfl xC rfl sub_i rfl) rfl ed rfl))
end
/-! ### the law -/
theorem V54.repr {v : D} (h : V54 v) : ∃ t : Str, oReprV [v] = some (.val (.str t)) ∧ f2 pNe [.str t, .str t] = some (.val (.bl false)) := by
  cases h with
  | list rows h l =>
    obtain ⟨t, e, n⟩ := (rws_rq (z := false) h l).text (by omega) (by omega) rfl
    refine ⟨t, ?_, n⟩
    have : oReprV [.lst false rows] = oRepr [.lst false rows] := by
      unfold oReprV
      split
      · rename_i z' x z2 e
        injection e with e1 e2
        injection e1 with e3 e4
        subst e4
        have := (h (.dic z2 []) (by simp)).it
        cases this
      · rfl
    rw [this, e]
  | one d it n rq =>
    obtain ⟨t, e, n2⟩ := rq.text (by omega) (by omega) rfl
    refine ⟨t, ?_, n2⟩
    rw [← e]
    cases it with
    | lst xs h => cases n
    | _ => rfl
  | dic => exact ⟨"{}", rfl, by kernel_rfl⟩
theorem st16_ok : ∀ st, st16_law st = .ret (.bl true) st := by
  intro st
  rfl
section
variable {ns : List Int} {i : Int} {W : Nat} {ss : List Int}
/-- one value -/
theorem value_ok (lS : ss.length ≤ 1000) {v : D} (h : V54 v) (q : Bool) (y0 y1 y2 y3 y6 y7 y9 y10 y11 : Option D) :
    ∃ z9, fb12_law [y0, y1, y2, y3, some (.lst false (nums ss)), some (net q (W : Int) ss), y6, y7, some v, y9, y10, y11] = .next [y0, y1, y2, y3, some (.lst false (nums ss)), some (net false (W : Int) ss), y6, y7, some v, z9, y10, y11] := by
  obtain ⟨t, e, n⟩ := h.repr
  obtain ⟨b, p1, p2, c1, c2⟩ := both_ok h lS (W : Int)
  have n5 : eN 5 [y0, y1, y2, y3, some (.lst false (nums ss)), some (net q (W : Int) ss), y6, y7, some v, some (.str t), y10, y11] = .ok (net false (W : Int) ss) [y0, y1, y2, y3, some (.lst false (nums ss)), some (net false (W : Int) ss), y6, y7, some v, some (.str t), y10, y11] := by
    cases q
    · exact xN rfl rfl
    · exact xNf rfl rfl frz_net rfl
  have rb : oReprV [.bl b] = some (.val (.str (if b then "True" else "False"))) := repr_bl b
  have nb : f2 pNe [.str (if b then "True" else "False"), .str (if b then "True" else "False")] = some (.val (.bl false)) := by
    cases b <;> kernel_rfl
  refine ⟨some (.str t), ?_⟩
  unfold fb12_law
  refine zSeq (st1 := [y0, y1, y2, y3, some (.lst false (nums ss)), some (net q (W : Int) ss), y6, y7, some v, some (.str t), y10, y11]) (zAsg (xOs rfl e rfl) rfl) ?_
  exact zNo (cOrF (cE (p := false) (xOvv (xOv (xCall (xACons n5 (xACons (xN rfl h.hot) xANil)) c1) rb rfl) (xOv (xCall (xACons (xN rfl rfl) (xACons (xN rfl h.hot) xANil)) c2) rb rfl) nb rfl)) (cE (xOvs (xOs rfl e rfl) rfl n rfl))) rfl
end
theorem turn_ok (ns : List Int) (hns : ns.length ≤ 63) (i : Int) (hi0 : 0 ≤ i) (hi : i < 100) (y2 y3 y4 y5 y6 y7 y8 y9 : Option D) : ∃ z2 z3 z4 z5 z6 z7 z8 z9, fb14_law [some (.scr ns), some (.int i), y2, y3, y4, y5, y6, y7, y8, y9, none, none] = .next [some (.scr ns), some (.int i), z2, z3, z4, z5, z6, z7, z8, z9, none, none] := by
  obtain ⟨a, b, ps, e1⟩ := source_ok ns i hi0 hi hns
  obtain ⟨w0, a1, b1, w00, w01, e2⟩ := draw_ok a b 8 (by decide) (by decide)
  obtain ⟨W, hW⟩ : ∃ W : Nat, 1 + w0 = (W : Int) := ⟨(1 + w0).toNat, by omega⟩
  obtain ⟨ss, a2, b2, hS, lS, e3⟩ := steps2_ok a1 b1 (w := (W : Int)) (n := 12) (by omega) (by omega) (by omega)
  obtain ⟨p4, e4⟩ := init_ok (w := (W : Int)) (ss := ss) (by omega) (by omega) hS (by omega) false
  obtain ⟨L, a3, b3, p5, lL, hL, e5⟩ := late_ok (ss := ss) lS a2 b2
  have rws : ∀ d ∈ rowF L, Rw d := fun d hd => by
    obtain ⟨r, hr, rfl⟩ := List.mem_map.mp hd
    exact rw_i (fun x hx => by have := (hL r hr).2 x hx; omega) (by have := (hL r hr).1; omega)
  have lF : (rowF L).length = L.length := by unfold rowF; rw [List.length_map]
  let SG : List (List Int) := (List.range ss.length).map fun (j : Nat) => [(j : Int)]
  have rsg : ∀ d ∈ rowF SG, Rw d := fun d hd => by
    obtain ⟨r, hr, rfl⟩ := List.mem_map.mp hd
    obtain ⟨j, hj, rfl⟩ := List.mem_map.mp hr
    have := List.mem_range.mp hj
    exact rw_i (fun x hx => by rw [List.mem_singleton.mp hx]; omega) (by show 1 ≤ 24; decide)
  have lsg : (rowF SG).length ≤ 60 := by
    show ((SG.map _).length) ≤ 60
    rw [List.length_map, List.length_map, List.length_range]
    omega
  let V4 : List D := [.lst false (rowF L), .lst false (rowF SG), .lst false [], .lst false [.lst false []]]
  have v4 : ∀ d ∈ V4, V54 d := fun d hd => by
    simp only [V4, List.mem_cons, List.not_mem_nil, or_false] at hd
    rcases hd with rfl | rfl | rfl | rfl
    · exact .list _ rws (by omega)
    · exact .list _ rsg lsg
    · exact .list _ (fun d hd => by cases hd) (by decide)
    · exact .list _ (fun d hd => by rw [List.mem_singleton.mp hd]; exact .row [] (fun d hd => by cases hd) (by decide)) (by decide : 1 ≤ 60)
  have c7 : eLc (iR1 (eOp oLen [.s 4])) lg6_law tYesM le6_law [10] [some (.scr ns), some (.int i), some (.lst true [.int a3, .int b3]), some (.int (W : Int)), some (.lst false (nums ss)), some (net true (W : Int) ss), some (.lst false (rowF L)), y7, y8, y9, none, none] = .ok (.lst true (SG.map rowT)) [some (.scr ns), some (.int i), some (.lst true [.int a3, .int b3]), some (.int (W : Int)), some (.lst false (nums ss)), some (net true (W : Int) ss), some (.lst false (rowF L)), y7, y8, y9, none, none] := by
    refine xLcA (fun (j : Nat) => D.int (j : Int)) (fun (j : Nat) => D.lst true [.int (j : Int)]) (List.range ss.length) (ds := rangeD 0 ss.length) (st1 := [some (.scr ns), some (.int i), some (.lst true [.int a3, .int b3]), some (.int (W : Int)), some (.lst false (nums ss)), some (net true (W : Int) ss), some (.lst false (rowF L)), y7, y8, y9, none, none]) (wR1 (n := ss.length) (xOs (o := .val (.int (ss.length : Int))) rfl (by rw [len_any, nums_len]) rfl) rfl (small62_nat (by omega))) (by unfold rangeD; exact List.map_congr_left fun j _ => by rw [Int.zero_add]) (by rw [List.length_range]; omega) (by show 10 < 12; decide) rfl (fun j _ => rfl) (fun j _ => ?_) (by show _ = ((List.range ss.length).map _).map rowT; rw [List.map_map]; rfl)
    show le6_law [some (.scr ns), some (.int i), some (.lst true [.int a3, .int b3]), some (.int (W : Int)), some (.lst false (nums ss)), some (net true (W : Int) ss), some (.lst false (rowF L)), y7, y8, y9, some (.int (j : Int)), none] = _
    unfold le6_law
    exact xLst (xACons (xN rfl rfl) xANil) rfl
  have e7 : eFz (eLst (aCons (eN 6) (aCons (eLc (iR1 (eOp oLen [.s 4])) lg6_law tYesM le6_law [10]) (aCons (eLst aNil) (aCons (eLst (aCons (eLst aNil) aNil)) aNil))))) [some (.scr ns), some (.int i), some (.lst true [.int a3, .int b3]), some (.int (W : Int)), some (.lst false (nums ss)), some (net true (W : Int) ss), some (.lst true (rowF L)), y7, y8, y9, none, none] = .ok (.lst false V4) [some (.scr ns), some (.int i), some (.lst true [.int a3, .int b3]), some (.int (W : Int)), some (.lst false (nums ss)), some (net true (W : Int) ss), some (.lst false (rowF L)), y7, y8, y9, none, none] :=
    xFz (xLst (xACons (xNf rfl rfl (fz_lst (rowF_frz L)) rfl) (xACons c7 (xACons (xLst xANil rfl) (xACons (xLst (xACons (xLst xANil rfl) xANil) rfl) xANil)))) rfl) (fz_lst (fzL_c (fz_lst (rowF_frz L)) (fzL_c (frz_rowT SG) (fzL_c (fz_lst fzL_n) (fzL_c (fz_lst (fzL_c (fz_lst fzL_n) fzL_n)) fzL_n)))))
  -- the changed ones
  obtain ⟨acc, st8, h8, ⟨a4, b4, rfl⟩, hv, l8⟩ := compD_ok (g := lg8_law) (t := tYesM) (e := le8_law) (vs := [11]) (fun k st acc => (∃ a b : Int, st = [some (.scr ns), some (.int i), some (.lst true [.int a, .int b]), some (.int (W : Int)), some (.lst false (nums ss)), some (net true (W : Int) ss), some (.lst false (rowF L)), some (.lst false V4), y8, y9, none, none]) ∧ (∀ d ∈ acc, V54 d) ∧ acc.length = k) (rangeD 0 12) 0 [some (.scr ns), some (.int i), some (.lst true [.int a3, .int b3]), some (.int (W : Int)), some (.lst false (nums ss)), some (net true (W : Int) ss), some (.lst false (rowF L)), some (.lst false V4), y8, y9, none, none] [] ⟨⟨a3, b3, rfl⟩, fun d hd => (by cases hd), rfl⟩ (fun k d st acc ed hI => by
      obtain ⟨⟨a, b, rfl⟩, hv, la⟩ := hI
      obtain ⟨kk, rfl⟩ := rangeD_get ed
      obtain ⟨v, a', b', p, hV, e⟩ := changed_ok lL hL a b
      refine ⟨_, true, _, rfl, rfl, fun h => (by cases h), fun _ => ⟨by omega, frz v, [some (.scr ns), some (.int i), some (.lst true [.int a', .int b']), some (.int (W : Int)), some (.lst false (nums ss)), some (net true (W : Int) ss), some (.lst false (rowF L)), some (.lst false V4), y8, y9, none, some (.int (0 + (k : Int)))], ?_, ⟨a', b', rfl⟩, fun d hd => ?_, by rw [List.length_append, la]; rfl⟩⟩
      · unfold le8_law
        exact xFz (xCallL (x := .lst true [.int a, .int b]) (es := [.lst false (rowF L)]) xANil rfl (xACons (xN rfl rfl) xANil) rfl rfl e rfl rfl) rfl
      · rcases List.mem_append.mp hd with hd | hd
        · exact hv d hd
        · rw [List.mem_singleton.mp hd]; exact hV)
  rw [rangeD_len] at l8
  have c8 : eLc (iR1 (eC (.int 12))) lg8_law tYesM le8_law [11] [some (.scr ns), some (.int i), some (.lst true [.int a3, .int b3]), some (.int (W : Int)), some (.lst false (nums ss)), some (net true (W : Int) ss), some (.lst false (rowF L)), some (.lst false V4), y8, y9, none, none] = .ok (.lst true acc) [some (.scr ns), some (.int i), some (.lst true [.int a4, .int b4]), some (.int (W : Int)), some (.lst false (nums ss)), some (net true (W : Int) ss), some (.lst false (rowF L)), some (.lst false V4), y8, y9, none, none] := eLc_v (wR1 (n := 12) xC rfl rfl) h8
  have hall : ∀ d ∈ V4 ++ acc, V54 d := fun d hd => (List.mem_append.mp hd).elim (v4 d) (hv d)
  have call : colds (V4 ++ acc) = true := by
    unfold colds
    exact List.all_eq_true.mpr fun d hd => by
      have := (hall d hd).hot
      unfold cold
      rw [this]
      rfl
  have add := add_any (o := false) (p := true) call (by show 4 + acc.length ≤ _; omega)
  obtain ⟨st', F, q, y8', y9', rfl⟩ := forD_inv (g := fg12_law) (body := fb12_law) (fun st => ∃ q y8 y9, st = [some (.scr ns), some (.int i), some (.lst true [.int a4, .int b4]), some (.int (W : Int)), some (.lst false (nums ss)), some (net q (W : Int) ss), some (.lst false (rowF L)), some (.lst false V4), y8, y9, none, none]) (V4 ++ acc) _ ⟨true, y8, y9, rfl⟩ (fun d st hd hI => by
      obtain ⟨q, y8, y9, rfl⟩ := hI
      obtain ⟨z9, e⟩ := value_ok (W := W) (ss := ss) (by omega) (hall d hd) q (some (.scr ns)) (some (.int i)) (some (.lst true [.int a4, .int b4])) (some (.int (W : Int))) (some (.lst false (rowF L))) (some (.lst false V4)) y9 none none
      exact ⟨_, _, rfl, e, false, _, _, rfl⟩)
  refine ⟨some (.lst true [.int a4, .int b4]), some (.int (W : Int)), some (.lst false (nums ss)), some (net q (W : Int) ss), some (.lst false (rowF L)), some (.lst false V4), y8', y9', ?_⟩
  unfold fb14_law
  refine zSeq (st1 := [some (.scr ns), some (.int i), some (.lst true [.int a, .int b]), y3, y4, y5, y6, y7, y8, y9, none, none]) (zAsg (xCall (xACons (xN rfl rfl) (xACons (xN rfl rfl) xANil)) e1) rfl) ?_
  refine zSeq (st1 := [some (.scr ns), some (.int i), some (.lst true [.int a1, .int b1]), some (.int (W : Int)), y4, y5, y6, y7, y8, y9, none, none]) (zAsg (xOvv xC (xCallL (x := .lst true [.int a, .int b]) (es := [.int 8]) xANil rfl (xACons xC xANil) rfl rfl e2 rfl rfl) add_i (by show D.int _ = _; rw [hW])) rfl) ?_
  refine zSeq (zAsg (xCallL (x := .lst true [.int a1, .int b1]) (es := [.int (W : Int), .int 12]) xANil rfl (xACons (xN rfl rfl) (xACons xC xANil)) rfl rfl e3 rfl rfl) rfl) ?_
  refine zSeq (zAsg (xMake (xACons (xN rfl rfl) (xACons (xNf rfl rfl fz_l rfl) xANil)) e4) rfl) ?_
  refine zSeq (zAsg (xCallL (x := .lst true [.int a2, .int b2]) (es := [.lst false (nums ss)]) xANil rfl (xACons (xN rfl rfl) xANil) rfl rfl e5 rfl rfl) rfl) ?_
  refine zSeq (zAsg e7 rfl) ?_
  exact zFor (wE (xOsv rfl c8 rfl add rfl) lst_it call) F
theorem law_ok (ns : List Int) (hns : ns.length ≤ 63) : ∃ ps, m_law [.scr ns] = .ok (.bl true) ps := by
  obtain ⟨st', e⟩ := tail_ok (ns := ns) (n := 8) (c := 8) (g := fg14_law) (B := fb14_law) (fin := st16_law) (by decide) (by decide) st16_ok (I := fun st => ∃ y1 y2 y3 y4 y5 y6 y7 y8 y9, st = [some (.scr ns), y1, y2, y3, y4, y5, y6, y7, y8, y9, none, none]) (fun st h => by obtain ⟨y1, y2, y3, y4, y5, y6, y7, y8, y9, rfl⟩ := h; rfl) (fun st i hi hI => by
    obtain ⟨y1, y2, y3, y4, y5, y6, y7, y8, y9, rfl⟩ := hI
    obtain ⟨z2, z3, z4, z5, z6, z7, z8, z9, e⟩ := turn_ok ns hns i (by omega) (by omega) y2 y3 y4 y5 y6 y7 y8 y9
    exact ⟨_, _, rfl, e, _, _, _, _, _, _, _, _, _, rfl⟩) (st := [some (.scr ns), none, none, none, none, none, none, none, none, none, none, none]) ⟨none, none, none, none, none, none, none, none, none, rfl⟩
  exact ⟨_, fn_go (n := 1) (w := 12) (L := [0]) (ds := [.scr ns]) rfl e⟩
end Lw54

set_option maxRecDepth 100000 in
set_option maxHeartbeats 0 in
theorem PySem.Challenge.cw_nearswap_k54_schedules_checked_holds : PySem.Challenge.rw_nearswap_k54_schedules_checked.Holds := by
  w_on; o_law; k_head; (case hw => w_witness2)
  k_fill
  refine DL.walk_lawG (l := PySem.Challenge.rw_nearswap_k54_schedules_checked) (k := 6) (m := Lw54.m_law) rfl rfl ⟨rfl, by decide, by decide⟩ (fun w h Y => PySem.W.kIn_of Y) ?F Lw54.law_ok
  case F =>
    intro w mg fa h KX G hmg
    refine' Lw54.walk_fact (Lw54.all_mk KX G hmg ?a_Network ?a__law_source ?l__law_source ?q__law_source ?k__law_source ?a__law_draw ?l__law_draw ?q__law_draw ?k__law_draw ?a__law_steps ?l__law_steps ?q__law_steps ?k__law_steps ?a_is_integer ?l_is_integer ?q_is_integer ?k_is_integer ?a_check_width ?l_check_width ?q_check_width ?k_check_width ?a_check_steps ?l_check_steps ?q_check_steps ?k_check_steps ?a_Network___init__ ?i_Network___init__ ?l_Network___init__ ?q_Network___init__ ?k_Network___init__ ?a__law_late ?l__law_late ?q__law_late ?k__law_late ?a__law_changed ?l__law_changed ?q__law_changed ?k__law_changed ?a_Network___len__ ?i_Network___len__ ?l_Network___len__ ?q_Network___len__ ?k_Network___len__ ?a_round_by_index ?l_round_by_index ?q_round_by_index ?k_round_by_index ?a_is_schedule ?l_is_schedule ?q_is_schedule ?k_is_schedule ?a__law_is_schedule ?l__law_is_schedule ?q__law_is_schedule ?k__law_is_schedule ?a_Network_empty ?rc_Network_empty ?i_Network_empty ?l_Network_empty ?q_Network_empty ?k_Network_empty ?a_law ?l_law ?q_law ?k_law ?a_Network_steps ?ge_Network_steps ?ta_Network_steps ?rc_Network_steps ?l_Network_steps ?q_Network_steps ?k_Network_steps ?pg_Network ?hd_Network ?po_Network ?sa_Network ?mk_Network ?kc_Network ?xl_Network ?xn_Network ?ss_Network ?nl_Network ?na_Network_own_steps ?na_Network_own_width ?rd_Network ?ga_Network ?cv_Network_MAX_STEPS ?cv_Network_MAX_WIDTH ?z_abs ?z_any ?z_bool ?z_dict ?z_enumerate ?z_int ?z_isinstance ?z_len ?z_list ?z_max ?z_min ?z_range ?z_repr ?z_sorted ?z_sum ?z_tuple)
    (case a_Network => k_is)
    (case a__law_source => k_is)
    (case l__law_source => k_is)
    (case q__law_source => k_is)
    (case k__law_source => k_is)
    (case a__law_draw => k_is)
    (case l__law_draw => k_is)
    (case q__law_draw => k_is)
    (case k__law_draw => k_is)
    (case a__law_steps => k_is)
    (case l__law_steps => k_is)
    (case q__law_steps => k_is)
    (case k__law_steps => k_is)
    (case a_is_integer => k_is)
    (case l_is_integer => k_is)
    (case q_is_integer => k_is)
    (case k_is_integer => k_is)
    (case a_check_width => k_is)
    (case l_check_width => k_is)
    (case q_check_width => k_is)
    (case k_check_width => k_is)
    (case a_check_steps => k_is)
    (case l_check_steps => k_is)
    (case q_check_steps => k_is)
    (case k_check_steps => k_is)
    (case a_Network___init__ => k_is)
    (case i_Network___init__ => k_is)
    (case l_Network___init__ => k_is)
    (case q_Network___init__ => k_is)
    (case k_Network___init__ => k_is)
    (case a__law_late => k_is)
    (case l__law_late => k_is)
    (case q__law_late => k_is)
    (case k__law_late => k_is)
    (case a__law_changed => k_is)
    (case l__law_changed => k_is)
    (case q__law_changed => k_is)
    (case k__law_changed => k_is)
    (case a_Network___len__ => k_is)
    (case i_Network___len__ => k_is)
    (case l_Network___len__ => k_is)
    (case q_Network___len__ => k_is)
    (case k_Network___len__ => k_is)
    (case a_round_by_index => k_is)
    (case l_round_by_index => k_is)
    (case q_round_by_index => k_is)
    (case k_round_by_index => k_is)
    (case a_is_schedule => k_is)
    (case l_is_schedule => k_is)
    (case q_is_schedule => k_is)
    (case k_is_schedule => k_is)
    (case a__law_is_schedule => k_is)
    (case l__law_is_schedule => k_is)
    (case q__law_is_schedule => k_is)
    (case k__law_is_schedule => k_is)
    (case a_Network_empty => k_is)
    (case rc_Network_empty => k_is)
    (case i_Network_empty => k_is)
    (case l_Network_empty => k_is)
    (case q_Network_empty => k_is)
    (case k_Network_empty => k_is)
    (case a_law => k_is)
    (case l_law => k_is)
    (case q_law => k_is)
    (case k_law => k_is)
    (case a_Network_steps => k_is)
    (case ge_Network_steps => k_is)
    (case ta_Network_steps => k_is)
    (case rc_Network_steps => k_is)
    (case l_Network_steps => k_is)
    (case q_Network_steps => k_is)
    (case k_Network_steps => k_is)
    (case pg_Network => k_is)
    (case hd_Network => k_is)
    (case po_Network => k_is)
    (case sa_Network => k_is)
    (case mk_Network => k_is)
    (case kc_Network => k_is)
    (case xl_Network => k_is)
    (case xn_Network => k_is)
    (case ss_Network => kernel_rfl)
    (case nl_Network => k_is)
    (case na_Network_own_steps => k_is)
    (case na_Network_own_width => k_is)
    (case rd_Network => k_is)
    (case ga_Network => k_is)
    (case cv_Network_MAX_STEPS => k_is)
    (case cv_Network_MAX_WIDTH => k_is)
    (case z_abs => k_is)
    (case z_any => k_is)
    (case z_bool => k_is)
    (case z_dict => k_is)
    (case z_enumerate => k_is)
    (case z_int => k_is)
    (case z_isinstance => k_is)
    (case z_len => k_is)
    (case z_list => k_is)
    (case z_max => k_is)
    (case z_min => k_is)
    (case z_range => k_is)
    (case z_repr => k_is)
    (case z_sorted => k_is)
    (case z_sum => k_is)
    (case z_tuple => k_is)
