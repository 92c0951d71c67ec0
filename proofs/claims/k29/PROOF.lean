import PyProof.Rows.All
import Wide.All
import OpenK.AllK
import Wide.FinOn
import HandS.ForMost
import HandS.IsInst
import PyProof.EqLayable
import HandS.ForExc
import HandS.CallSlots
import HandS.Wide
import HandS.Iter
import HandS.Comp
import HandS.Conv
import HandS.Style
import HandS.Property
import HandS.ClsMeth
import PyProof.InstNe
import PyProof.InstSpecial
import KE.GoesMore
import HandS.SortInts
import HandS.Star
import HandS.TupAny
import HandS.TupMul
import HandS.CallLocal
import HandS.RaiseMore
import PyProof.ReprRoads
import KE.GoesEnum
import HandS.ExcInit
import HandS.TryMany
import HandS.ExcField
import KE.KExcIs
import HandS.Deep
import HandS.DictComp
import HandS.SetFor
import HandS.Strs
import KE.KUnpackStar
import KE.KUnpack
import HandS.FStr
import HandS.More
import HandS.TupSets
import KE.KEqNest
import PyProof.NeKinds
import KE.DataMinMax
import HandS.SortKw
import PyProof.Rows.TupDisplay
import PyProof.SumAny
import HandS.WordsDict
import HandS.Text
import HandS.StrMore
import HandS.Codes
import HandS.OwnEq
import PyProof.GenRules
import PyProof.GenQ
import HandS.GenYield
import HandS.GenList
import HandS.Defaults
import HandS.ListItems
import HandS.DictTup
import KE.KDictSum
import KE.KDictPairs
import PySem.Challenge.RW_nearswap_k29_obstacles_checked
set_option Elab.async false
set_option linter.all false
set_option maxRecDepth 100000
/-! DL1: data, states, and the pure meanings of expressions and statements (own work: a data layer over HandS). -/
namespace DL
open PySem (Str)

/-- deep data; the Bool of a list, an instance, a dict: it is owned (nobody else has it) -/
inductive D where
  | non | bl (b : Bool) | int (i : Int) | str (x : Str)
  | lst (o : Bool) (xs : List D)
  | tup (xs : List D)
  | ins (o : Bool) (C : Nat) (fs : List (Str × D))
  | dic (o : Bool) (kvs : List (L2.Key × D))
  | dct (o : Bool) (kvs : List (List L2.Key × D))
  | scr (xs : List Int)
  | cls (C : Nat)
  | ty (n : String)
  | xc (C : Nat) (fs : List (Str × D))
  deriving Inhabited

/-- an exception: its class, its fields -/
structure Xc where
  C : Nat
  fs : List (Str × D)

abbrev Sl := List (Option D)

inductive Res (α : Type) where
  | ok (a : α) (st : Sl) | exc (x : Xc) (st : Sl) | fail

inductive SR where
  | next (st : Sl) | ret (d : D) (st : Sl) | brk (st : Sl) | cont (st : Sl) | exc (x : Xc) (st : Sl) | fail

inductive CR where
  | ok (d : D) (ps : Sl) | exc (x : Xc) (ps : Sl) | fail

abbrev ME := Sl → Res D
abbrev MA := Sl → Res (List D)
abbrev MT := Sl → Res Bool
abbrev MS := Sl → SR
abbrev MF := List D → CR
/-- an assignment's target -/
abbrev MG := D → Sl → Res Unit

mutual
def frz : D → D
  | .lst _ xs => .lst false (frzL xs)
  | .ins _ C fs => .ins false C (frzF fs)
  | .dic _ kvs => .dic false (frzK kvs)
  | .dct _ kvs => .dct false (frzT kvs)
  | .tup xs => .tup (frzL xs)
  | .non => .non
  | .bl b => .bl b
  | .int i => .int i
  | .str x => .str x
  | .scr xs => .scr xs
  | .cls C => .cls C
  | .ty n => .ty n
  | .xc C fs => .xc C fs
def frzL : List D → List D
  | [] => []
  | d :: ds => frz d :: frzL ds
def frzF : List (Str × D) → List (Str × D)
  | [] => []
  | (f, d) :: fs => (f, frz d) :: frzF fs
def frzK : List (L2.Key × D) → List (L2.Key × D)
  | [] => []
  | (f, d) :: fs => (f, frz d) :: frzK fs
def frzT : List (List L2.Key × D) → List (List L2.Key × D)
  | [] => []
  | (f, d) :: fs => (f, frz d) :: frzT fs
end

/-- owned at the top -/
def hot : D → Bool
  | .lst o _ => o
  | .ins o _ _ => o
  | .dic o _ => o
  | .dct o _ => o
  | _ => false

/-- what is read out of an owned thing must not be owned itself -/
def cold : D → Bool := fun d => !hot d

/-- the answer of an operation: a value without owned parts, a new list, a new tuple (of values without owned parts) -/
inductive Out where
  | val (d : D) | newL (ds : List D) | newT (ds : List D)
def Out.d : Out → D
  | .val d => d
  | .newL ds => .lst true ds
  | .newT ds => .tup ds

/-- an operand: any expression, or a slot that is only looked at (late) -/
inductive Opd where
  | v (m : ME) | s (i : Nat)

def Res.bind {α β : Type} (r : Res α) (k : α → Sl → Res β) : Res β :=
  match r with
  | .ok a st => k a st
  | .exc x st => .exc x st
  | .fail => .fail

def getS (st : Sl) (i : Nat) : Option D := (st[i]?).join

/-- operands from the left; k gets how their data is read at the end -/
def opds {β : Type} : List Opd → Sl → ((Sl → Option (List D)) → Sl → Res β) → Res β
  | [], st, k => k (fun _ => some []) st
  | .v m :: os, st, k => (m st).bind fun d st1 => opds os st1 fun gs st2 => k (fun s => (gs s).map (d :: ·)) st2
  | .s i :: os, st, k => if (getS st i).isSome then opds os st fun gs st2 => k (fun s => (getS s i).bind fun d => (gs s).map (d :: ·)) st2 else .fail

/-! ### expressions -/
def eC (d : D) : ME := fun st => .ok d st
/-- a name, its value handed on (frozen where it is owned) -/
def eN (i : Nat) : ME := fun st => match getS st i with
  | some d => if hot d then .ok (frz d) (st.set i (some (frz d))) else .ok d st
  | none => .fail
/-- a name for the last time -/
def eMv (i : Nat) : ME := fun st => match getS st i with
  | some d => .ok d (st.set i none)
  | none => .fail
/-- an operation that only looks at its operands -/
def eOp (f : List D → Option Out) (ks : List Opd) : ME := fun st => opds ks st fun gs st2 =>
  match (gs st2).bind f with
  | some o => .ok o.d st2
  | none => .fail
def eAnd (a b : ME) : ME := fun st => (a st).bind fun d st1 => match d with
  | .bl true => b st1
  | .bl false => .ok (.bl false) st1
  | _ => .fail
def eOr (a b : ME) : ME := fun st => (a st).bind fun d st1 => match d with
  | .bl true => .ok (.bl true) st1
  | .bl false => b st1
  | _ => .fail
def eNot (a : ME) : ME := fun st => (a st).bind fun d st1 => match d with
  | .bl b => .ok (.bl (!b)) st1
  | _ => .fail
def eIf (c : MT) (a b : ME) : ME := fun st => (c st).bind fun k st1 => if k then a st1 else b st1
/-- a op1 b op2 c -/
def eChain (f g : D → D → Option D) (a b c : ME) : ME := fun st => (a st).bind fun x st1 => (b st1).bind fun y st2 =>
  match f x y with
  | some (.bl true) => (c st2).bind fun z st3 => match g y z with
    | some r => .ok r st3
    | none => .fail
  | some (.bl false) => .ok (.bl false) st2
  | _ => .fail
/-- arguments whose values are handed over -/
def aNil : MA := fun st => .ok [] st
def aCons (m : ME) (ms : MA) : MA := fun st => (m st).bind fun d st1 => (ms st1).bind fun ds st2 => .ok (d :: ds) st2
/-- a list's display: its items may be owned -/
def eLst (ms : MA) : ME := fun st => (ms st).bind fun ds st1 => if ds.length ≤ 16777216 then .ok (.lst true ds) st1 else .fail
/-- a tuple's display: its items are frozen -/
def eTup (ms : MA) : ME := fun st => (ms st).bind fun ds st1 => if ds.length ≤ 16777216 then .ok (.tup (frzL ds)) st1 else .fail

/-! ### tests -/
def tE (m : ME) : MT := fun st => (m st).bind fun d st1 => match d with
  | .bl b => .ok b st1
  | _ => .fail
def tAndM (a b : MT) : MT := fun st => (a st).bind fun k st1 => if k then b st1 else .ok false st1
def tOrM (a b : MT) : MT := fun st => (a st).bind fun k st1 => if k then .ok true st1 else b st1
def tNotM (a : MT) : MT := fun st => (a st).bind fun k st1 => .ok (!k) st1

/-! ### calls of the text's defs -/
/-- a call; its arguments are handed over -/
def eCall (f : MF) (ms : MA) : ME := fun st => (ms st).bind fun ds st1 => match f ds with
  | .ok d _ => .ok d st1
  | .exc x _ => .exc x st1
  | .fail => .fail
/-- a call with a slot lent: ms the arguments ahead of it, ns behind it -/
def eCallL (f : MF) (ms : MA) (i : Nat) (ns : MA) : ME := fun st => (ms st).bind fun ds st1 => if (getS st1 i).isSome then (ns st1).bind fun es st2 =>
  (match getS st2 i with
  | some d => if hot d then (match f (ds ++ d :: es) with
      | .ok r ps => .ok r (st2.set i (getS ps ds.length))
      | .exc x ps => .exc x (st2.set i (getS ps ds.length))
      | .fail => .fail) else (match f (ds ++ d :: es) with
      | .ok r _ => .ok r st2
      | .exc x _ => .exc x st2
      | .fail => .fail)
  | none => .fail) else .fail

/-! ### statements -/
def Res.toS {α : Type} (r : Res α) (k : α → Sl → SR) : SR :=
  match r with
  | .ok a st => k a st
  | .exc x st => .exc x st
  | .fail => .fail
/-- a store's end: what a store raises is not followed -/
def Res.toN (r : Res Unit) (k : Sl → SR) : SR :=
  match r with
  | .ok _ st => k st
  | _ => .fail
def sNext : MS := fun st => .next st
def SR.thn (r : SR) (k : MS) : SR :=
  match r with
  | .next st => k st
  | r => r
def sSeq (a b : MS) : MS := fun st => (a st).thn b
def gN (i : Nat) : MG := fun d st => .ok () (st.set i (some d))
def sAsg (m : ME) (g : MG) : MS := fun st => (m st).toS fun d st1 => (g d st1).toN fun st2 => .next st2
def sExpr (m : ME) : MS := fun st => (m st).toS fun _ st1 => .next st1
def sRet (m : ME) : MS := fun st => (m st).toS fun d st1 => .ret d st1
def sRetN : MS := fun st => .ret .non st
def sIf (c : MT) (a b : MS) : MS := fun st => (c st).toS fun k st1 => if k then a st1 else b st1
def sBrk : MS := fun st => .brk st
def sCont : MS := fun st => .cont st
/-- a loop's turns -/
def forD (g : MG) (body : MS) : List D → Sl → SR
  | [], st => .next st
  | d :: ds, st => (g d st).toN fun st1 => match body st1 with
    | .next st2 => forD g body ds st2
    | .cont st2 => forD g body ds st2
    | .brk st2 => .next st2
    | r => r
/-! ### a def -/
/-- n parameters, w slots in all; L: the parameters that are never stored to -/
def keepL (L : List Nat) (n : Nat) (st : Sl) : Sl := (List.range n).map fun j => if j ∈ L then getS st j else none
def fn (n w : Nat) (L : List Nat) (body : MS) : MF := fun ds =>
  if ds.length = n then match body (ds.map some ++ List.replicate (w - n) none) with
    | .next st => .ok .non (keepL L n st)
    | .ret d st => .ok d (keepL L n st)
    | .exc x st => .exc x (keepL L n st)
    | _ => .fail
  else .fail
end DL

/-! DLO: the operations by data. -/
namespace DL
open PySem (Str)
/-- the items of a list or tuple that is read -/
def items : D → Option (List D)
  | .lst _ xs => some xs
  | .tup xs => some xs
  | .scr xs => some (xs.map .int)
  | _ => none
def colds (xs : List D) : Bool := xs.all cold
def newLc (xs : List D) : Option Out := if colds xs && decide (xs.length ≤ 16777216) then some (.newL xs) else none

def oAdd : List D → Option Out
  | [.int i, .int j] => some (.val (.int (i + j)))
  | [.lst _ xs, .lst _ ys] => newLc (xs ++ ys)
  | [.str x, .str y] => if x.length + y.length ≤ 16777216 then some (.val (.str (x ++ y))) else none
  | _ => none
def oSub : List D → Option Out
  | [.int i, .int j] => some (.val (.int (i - j)))
  | _ => none
def oMul : List D → Option Out
  | [.int i, .int j] => if (-(2 ^ 64) < i ∧ i < 2 ^ 64) ∨ (-(2 ^ 64) < j ∧ j < 2 ^ 64) then some (.val (.int (i * j))) else none
  | [.lst _ xs, .int k] => if colds xs && decide (-(2 ^ 63) ≤ k ∧ k < 2 ^ 63 ∧ xs.length * k.toNat ≤ 16777216) then some (.newL (List.replicate k.toNat xs).flatten) else none
  | _ => none
def oDiv : List D → Option Out
  | [.int i, .int j] => if 0 < j ∧ j.natAbs.log2 < 9000 then some (.val (.int (i / j))) else none
  | _ => none
def oMod : List D → Option Out
  | [.int i, .int j] => if 0 < j then some (.val (.int (i % j))) else none
  | _ => none
def oPow : List D → Option Out
  | [.int i, .int j] => if 0 ≤ j ∧ j ≤ 1000000 ∧ i.natAbs < 2 ^ 64 then some (.val (.int (i ^ j.toNat))) else none
  | _ => none
def oNeg : List D → Option Out
  | [.int i] => some (.val (.int (-i)))
  | _ => none
def pLt : D → D → Option D
  | .int i, .int j => some (.bl (decide (i < j)))
  | _, _ => none
def pLe : D → D → Option D
  | .int i, .int j => some (.bl (decide (i ≤ j)))
  | _, _ => none
def pGt : D → D → Option D
  | .int i, .int j => some (.bl (decide (j < i)))
  | _, _ => none
def pGe : D → D → Option D
  | .int i, .int j => some (.bl (decide (j ≤ i)))
  | _, _ => none
def o2 (p : D → D → Option D) : List D → Option Out
  | [x, y] => (p x y).map .val
  | _ => none

mutual
def toPy : D → PySem.PyData
  | .non => .none
  | .bl b => .bool b
  | .int i => .int i
  | .str x => .str x
  | .lst _ xs => .list (toPyL xs)
  | .tup xs => .tuple (toPyL xs)
  | .scr xs => .list (xs.map .int)
  | .ins _ _ _ => .dict []
  | .dic _ _ => .dict []
  | .dct _ _ => .dict []
  | .cls _ => .dict []
  | .ty _ => .dict []
  | .xc _ _ => .dict []
def toPyL : List D → List PySem.PyData
  | [] => []
  | d :: ds => toPy d :: toPyL ds
end
def pEq (x y : D) : Option D := if PySem.SeqAt.shaped (toPy x) && PySem.SeqAt.shaped (toPy y) then some (.bl (PySem.PyData.eqv (toPy x) (toPy y))) else none
def pNe (x y : D) : Option D := if PySem.SeqAt.shaped (toPy x) && PySem.SeqAt.shaped (toPy y) then some (.bl (!PySem.PyData.eqv (toPy x) (toPy y))) else none
def isN : D → Bool
  | .non => true
  | _ => false
def oIsN : List D → Option Out
  | [x, .non] => some (.val (.bl (isN x)))
  | _ => none
def oNotN : List D → Option Out
  | [x, .non] => some (.val (.bl (!isN x)))
  | _ => none
/-- flat data, for in -/
def flat : D → Bool
  | .non => true
  | .bl _ => true
  | .int _ => true
  | .str _ => true
  | _ => false
def eqF : D → D → Bool
  | .non, .non => true
  | .bl a, .bl b => a == b
  | .bl a, .int b => (if
      a then 1 else 0) == b
  | .int a, .bl b => a == (if
      b then 1 else 0)
  | .int a, .int b => a == b
  | .str a, .str b => a == b
  | _, _ => false
def oIn (neg : Bool) : List D → Option Out
  | [x, y] => match items y with
    | some ys => if flat x && ys.all flat then some (.val (.bl (if neg then !(ys.any fun z => eqF z x) else ys.any fun z => eqF z x))) else none
    | none => none
  | _ => none
/-- xs[i] -/
def oIx : List D → Option Out
  | [x, .int i] => match items x with
    | some xs => match L2.atI xs i with
      | some d => if cold d then some (.val d) else none
      | none => none
    | none => none
  | _ => none
def oLen : List D → Option Out
  | [x] => (items x).map fun xs => .val (.int xs.length)
  | _ => none
def oAbs : List D → Option Out
  | [.int i] => some (.val (.int (if i < 0 then -i else i)))
  | _ => none
def oMax2 : List D → Option Out
  | [.int i, .int j] => some (.val (.int (if j > i then j else i)))
  | _ => none
def oMin2 : List D → Option Out
  | [.int i, .int j] => some (.val (.int (if j < i then j else i)))
  | _ => none
def oInt : List D → Option Out
  | [.int i] => some (.val (.int i))
  | [.bl b] => some (.val (.int (if b then 1 else 0)))
  | _ => none
def asInts : List D → Option (List Int)
  | [] => some []
  | .int i :: r => (asInts r).map (i :: ·)
  | _ => none
def lstItems : D → Option (List D)
  | .lst _ xs => some xs
  | .scr xs => some (xs.map .int)
  | _ => none
def oSum : List D → Option Out
  | [x] => ((lstItems x).bind asInts).map fun ns => .val (.int ns.sum)
  | _ => none
def oList : List D → Option Out
  | [x] => match items x with
    | some xs => newLc xs
    | none => none
  | _ => none
def oTuple : List D → Option Out
  | [.lst _ xs] => if colds xs && decide (xs.length ≤ 16777216) then some (.newT xs) else none
  | [.tup xs] => some (.val (.tup xs))
  | _ => none
/-- xs[lo:hi] of a list -/
def cutD (xs : List D) (lo hi : Option Int) : List D := (xs.drop (HT.sIx xs.length 0 lo)).take (HT.sIx xs.length xs.length hi - HT.sIx xs.length 0 lo)
def tyName : D → Option String
  | .non => some "NoneType"
  | .bl _ => some "bool"
  | .int _ => some "int"
  | .str _ => some "str"
  | .lst _ _ => some "list"
  | .scr _ => some "list"
  | .tup _ => some "tuple"
  | .dic _ _ => some "dict"
  | _ => none
end DL

/-! DL2: how data lie in the heap; the judgements. -/
namespace DL
open PySem L2

/-- all that was tracked is as it
    was -/
abbrev Ex (H H' : Hp) : Prop := ∀ a o, H a = some o → H' a = some o
/-- a region of addresses -/
abbrev Rg := Addr → Prop
abbrev Em : Rg := fun _ => False

theorem rd_ex {Hf Hf' : Hp} {a : Addr} {u : HO} (ef : Ex Hf Hf') (r : Rd Hf a u) : Rd Hf' a u := r.elim (fun e => .inl (ef _ _ e)) fun ⟨o, e⟩ => .inr ⟨o, ef _ _ e⟩
/-- a caught exception: its class, its dict -/
def XcO (a : Addr) (cls : Value) (d : Option Addr) : HO := .ext fun h => ∃ (o : Obj) (vs : Array Value), h.get? a = some o ∧ Zc cls d o ∧ o.data = .fields vs
section
variable (ca : Nat → Addr) (K : PySem.W.Frag)
mutual
/-- v is the datum d; what of it is owned lies in the region S -/
inductive Rep (Hf H : Hp) : Rg → V → D → Prop where
  | non {S} : Rep Hf H S .non .non
  | bl {S b} : Rep Hf H S (.bl b) (.bl b)
  | int {S i} : Rep Hf H S (.int i) (.int i)
  | str {S x} : Rep Hf H S (.str x) (.str x)
  | scr {S a xs} : SqL K Hf a (xs.map V.int) → Rep Hf H S (.ref a) (.scr xs)
  | cls {S C} : Rep Hf H S (.ref (ca C)) (.cls C)
  | ty {S n} : Rep Hf H S (.ty n) (.ty n)
  | lstF {S a vs ds} : Hf a = some (.lst vs) → RepL Hf H Em vs ds → Rep Hf H S (.ref a) (.lst false ds)
  | lstO {S a vs ds} : S a → H a = some (.lst vs) → RepL Hf H (fun b => S b ∧ b ≠ a) vs ds → Rep Hf H S (.ref a) (.lst true ds)
  | tup {S a vs ds} : Hf a = some (.tup vs) → RepL Hf H Em vs ds → Rep Hf H S (.ref a) (.tup ds)
  | insF {S a C dx fs gs} : Hf a = some (.ins (ca C) dx fs) → fs.map (·.1) = gs.map (·.1) → RepL Hf H Em (fs.map (·.2)) (gs.map (·.2)) → Rep Hf H S (.ref a) (.ins false C gs)
  | insO {S a C dx fs gs} : S a → H a = some (.ins (ca C) dx fs) → fs.map (·.1) = gs.map (·.1) → RepL Hf H (fun b => S b ∧ b ≠ a) (fs.map (·.2)) (gs.map (·.2)) → Rep Hf H S (.ref a) (.ins true C gs)
  | dicF {S a kvs ds} : Hf a = some (.dK kvs) → kvs.map (·.1) = ds.map (·.1) → RepL Hf H Em (kvs.map (·.2)) (ds.map (·.2)) → Rep Hf H S (.ref a) (.dic false ds)
  | dicO {S a kvs ds} : S a → H a = some (.dK kvs) → kvs.map (·.1) = ds.map (·.1) → RepL Hf H (fun b => S b ∧ b ≠ a) (kvs.map (·.2)) (ds.map (·.2)) → Rep Hf H S (.ref a) (.dic true ds)
  | dctF {S a kvs ds} : Rd Hf a (.dT kvs) → kvs.map (·.1) = ds.map (·.1) → RepL Hf H Em (kvs.map (·.2)) (ds.map (·.2)) → Rep Hf H S (.ref a) (.dct false ds)
  | dctO {S a kvs ds} : S a → H a = some (.dT kvs) → kvs.map (·.1) = ds.map (·.1) → RepL Hf H (fun b => S b ∧ b ≠ a) (kvs.map (·.2)) (ds.map (·.2)) → Rep Hf H S (.ref a) (.dct true ds)
  | xc {S a dd C fs gs} : Hf a = some (XcO a (.ref (ca C)) (some dd)) → Hf dd = some (.xd fs) → fs.map (·.1) = gs.map (·.1) → RepL Hf H Em (fs.map (·.2)) (gs.map (·.2)) → Rep Hf H S (.ref a) (.xc C gs)
inductive RepL (Hf H : Hp) : Rg → List V → List D → Prop where
  | nil {S} : RepL Hf H S [] []
  | cons {S S1 S2 v d vs ds} : Rep Hf H S1 v d → RepL Hf H S2 vs ds → (∀ b, S1 b → S b) → (∀ b, S2 b → S b) → (∀ b, S1 b → S2 b → False) → RepL Hf H S (v :: vs) (d :: ds)
end
end

section
variable {ca : Nat → Addr} {K : PySem.W.Frag} {Hf H Hf' H' : Hp} {S S' : Rg} {v : V} {d : D} {vs : List V} {ds : List D}

theorem RepL.mono (r : RepL ca K Hf H S vs ds) (h : ∀ b, S b → S' b) : RepL ca K Hf H S' vs ds := by
  cases r with
  | nil => exact .nil
  | cons r1 r2 h1 h2 h3 => exact .cons r1 r2 (fun b q => h b (h1 b q)) (fun b q => h b (h2 b q)) h3
theorem Rep.mono (r : Rep ca K Hf H S v d) (h : ∀ b, S b → S' b) : Rep ca K Hf H S' v d := by
  cases r with
  | non => exact .non
  | bl => exact .bl
  | int => exact .int
  | str => exact .str
  | scr h => exact .scr h
  | cls => exact .cls
  | ty => exact .ty
  | lstF e r => exact .lstF e r
  | lstO s e r => exact .lstO (h _ s) e (r.mono fun b q => ⟨h b q.1, q.2⟩)
  | tup e r => exact .tup e r
  | insF e k r => exact .insF e k r
  | insO s e k r => exact .insO (h _ s) e k (r.mono fun b q => ⟨h b q.1, q.2⟩)
  | dicF e k r => exact .dicF e k r
  | dicO s e k r => exact .dicO (h _ s) e k (r.mono fun b q => ⟨h b q.1, q.2⟩)
  | dctF e k r => exact .dctF e k r
  | dctO s e k r => exact .dctO (h _ s) e k (r.mono fun b q => ⟨h b q.1, q.2⟩)
  | xc e e2 k r => exact .xc e e2 k r
/-- what is not owned lies nowhere -/
theorem Rep.cold (r : Rep ca K Hf H S v d) (h : hot d = false) : Rep ca K Hf H S' v d := by
  cases r with
  | non => exact .non
  | bl => exact .bl
  | int => exact .int
  | str => exact .str
  | scr h' => exact .scr h'
  | cls => exact .cls
  | ty => exact .ty
  | lstF e r => exact .lstF e r
  | lstO s e r => exact absurd h (by simp [hot])
  | tup e r => exact .tup e r
  | insF e k r => exact .insF e k r
  | insO s e k r => exact absurd h (by simp [hot])
  | dicF e k r => exact .dicF e k r
  | dicO s e k r => exact absurd h (by simp [hot])
  | dctF e k r => exact .dctF e k r
  | dctO s e k r => exact absurd h (by simp [hot])
  | xc e e2 k r => exact .xc e e2 k r

mutual
theorem Rep.keep (ef : Ex Hf Hf') : ∀ {S : Rg} {v : V} {d : D}, Rep ca K Hf H S v d → (∀ b, S b → ∀ o, H b = some o → H' b = some o) → Rep ca K Hf' H' S v d
  | _, _, _, .non, _ => .non
  | _, _, _, .bl, _ => .bl
  | _, _, _, .int, _ => .int
  | _, _, _, .str, _ => .str
  | _, _, _, .scr h, _ => .scr (by
      rcases h with h | h
      · refine Or.inl ?_
        rcases h with h | ⟨o, h⟩
        · exact Or.inl (ef _ _ h)
        · exact Or.inr ⟨o, ef _ _ h⟩
      · exact Or.inr h)
  | _, _, _, .cls, _ => .cls
  | _, _, _, .ty, _ => .ty
  | _, _, _, .lstF e r, _ => .lstF (ef _ _ e) (RepL.keep ef r fun _ q => q.elim)
  | _, _, _, .lstO s e r, k => .lstO s (k _ s _ e) (RepL.keep ef r fun b q => k b q.1)
  | _, _, _, .tup e r, _ => .tup (ef _ _ e) (RepL.keep ef r fun _ q => q.elim)
  | _, _, _, .insF e kk r, _ => .insF (ef _ _ e) kk (RepL.keep ef r fun _ q => q.elim)
  | _, _, _, .insO s e kk r, k => .insO s (k _ s _ e) kk (RepL.keep ef r fun b q => k b q.1)
  | _, _, _, .dicF e kk r, _ => .dicF (ef _ _ e) kk (RepL.keep ef r fun _ q => q.elim)
  | _, _, _, .dicO s e kk r, k => .dicO s (k _ s _ e) kk (RepL.keep ef r fun b q => k b q.1)
  | _, _, _, .dctF e kk r, _ => .dctF (rd_ex ef e) kk (RepL.keep ef r fun _ q => q.elim)
  | _, _, _, .dctO s e kk r, k => .dctO s (k _ s _ e) kk (RepL.keep ef r fun b q => k b q.1)
  | _, _, _, .xc e e2 kk r, _ => .xc (ef _ _ e) (ef _ _ e2) kk (RepL.keep ef r fun _ q => q.elim)
theorem RepL.keep (ef : Ex Hf Hf') : ∀ {S : Rg} {vs : List V} {ds : List D}, RepL ca K Hf H S vs ds → (∀ b, S b → ∀ o, H b = some o → H' b = some o) → RepL ca K Hf' H' S vs ds
  | _, _, _, .nil, _ => .nil
  | _, _, _, .cons r1 r2 h1 h2 h3, k => .cons (Rep.keep ef r1 fun b q => k b (h1 b q)) (RepL.keep ef r2 fun b q => k b (h2 b q)) h1 h2 h3
end

theorem frzF_keys : ∀ gs : List (Str × D), (frzF gs).map (·.1) = gs.map (·.1)
  | [] => rfl
  | (f, d) :: r => by simp [frzF, frzF_keys r]
theorem frzK_keys : ∀ gs : List (Key × D), (frzK gs).map (·.1) = gs.map (·.1)
  | [] => rfl
  | (f, d) :: r => by simp [frzK, frzK_keys r]
theorem frzF_vals : ∀ gs : List (Str × D), (frzF gs).map (·.2) = frzL (gs.map (·.2))
  | [] => rfl
  | (f, d) :: r => by simp [frzF, frzL, frzF_vals r]
theorem frzK_vals : ∀ gs : List (Key × D), (frzK gs).map (·.2) = frzL (gs.map (·.2))
  | [] => rfl
  | (f, d) :: r => by simp [frzK, frzL, frzK_vals r]
theorem frzT_keys : ∀ gs : List (List Key × D), (frzT gs).map (·.1) = gs.map (·.1)
  | [] => rfl
  | (f, d) :: r => by simp [frzT, frzT_keys r]
theorem frzT_vals : ∀ gs : List (List Key × D), (frzT gs).map (·.2) = frzL (gs.map (·.2))
  | [] => rfl
  | (f, d) :: r => by simp [frzT, frzL, frzT_vals r]
mutual
/-- the owned parts are let stand: Hf' holds them from now on -/
theorem Rep.frz (ef : Ex Hf Hf') : ∀ {S S' : Rg} {v : V} {d : D}, Rep ca K Hf H S v d → (∀ b, S b → ∀ o, H b = some o → Hf' b = some o) → Rep ca K Hf' H' S' v (DL.frz d)
  | _, _, _, _, .non, _ => by rw [DL.frz]; exact .non
  | _, _, _, _, .bl, _ => by rw [DL.frz]; exact .bl
  | _, _, _, _, .int, _ => by rw [DL.frz]; exact .int
  | _, _, _, _, .str, _ => by rw [DL.frz]; exact .str
  | _, _, _, _, .scr h, _ => by
      rw [DL.frz]
      refine .scr ?_
      rcases h with h | h
      · refine Or.inl ?_
        rcases h with h | ⟨o, h⟩
        · exact Or.inl (ef _ _ h)
        · exact Or.inr ⟨o, ef _ _ h⟩
      · exact Or.inr h
  | _, _, _, _, .cls, _ => by rw [DL.frz]; exact .cls
  | _, _, _, _, .ty, _ => by rw [DL.frz]; exact .ty
  | _, _, _, _, .lstF e r, _ => by rw [DL.frz]; exact .lstF (ef _ _ e) (RepL.frz ef r fun _ q => q.elim)
  | _, _, _, _, .lstO s e r, k => by rw [DL.frz]; exact .lstF (k _ s _ e) (RepL.frz ef r fun b q => k b q.1)
  | _, _, _, _, .tup e r, _ => by rw [DL.frz]; exact .tup (ef _ _ e) (RepL.frz ef r fun _ q => q.elim)
  | _, _, _, _, .insF e kk r, _ => by
      rw [DL.frz]
      exact .insF (ef _ _ e) (kk.trans (frzF_keys _).symm) (by rw [frzF_vals]; exact RepL.frz ef r fun _ q => q.elim)
  | _, _, _, _, .insO s e kk r, k => by
      rw [DL.frz]
      exact .insF (k _ s _ e) (kk.trans (frzF_keys _).symm) (by rw [frzF_vals]; exact RepL.frz ef r fun b q => k b q.1)
  | _, _, _, _, .dicF e kk r, _ => by
      rw [DL.frz]
      exact .dicF (ef _ _ e) (kk.trans (frzK_keys _).symm) (by rw [frzK_vals]; exact RepL.frz ef r fun _ q => q.elim)
  | _, _, _, _, .dicO s e kk r, k => by
      rw [DL.frz]
      exact .dicF (k _ s _ e) (kk.trans (frzK_keys _).symm) (by rw [frzK_vals]; exact RepL.frz ef r fun b q => k b q.1)
  | _, _, _, _, .dctF e kk r, _ => by
      rw [DL.frz]
      exact .dctF (rd_ex ef e) (kk.trans (frzT_keys _).symm) (by rw [frzT_vals]; exact RepL.frz ef r fun _ q => q.elim)
  | _, _, _, _, .dctO s e kk r, k => by
      rw [DL.frz]
      exact .dctF (.inl (k _ s _ e)) (kk.trans (frzT_keys _).symm) (by rw [frzT_vals]; exact RepL.frz ef r fun b q => k b q.1)
  | _, _, _, _, .xc e e2 kk r, _ => by
      rw [DL.frz]
      exact .xc (ef _ _ e) (ef _ _ e2) kk (RepL.keep ef r fun _ q => q.elim)
theorem RepL.frz (ef : Ex Hf Hf') : ∀ {S S' : Rg} {vs : List V} {ds : List D}, RepL ca K Hf H S vs ds → (∀ b, S b → ∀ o, H b = some o → Hf' b = some o) → RepL ca K Hf' H' S' vs (frzL ds)
  | _, _, _, _, .nil, _ => by rw [frzL]; exact .nil
  | _, _, _, _, .cons r1 r2 h1 h2 h3, k => by
      rw [frzL]
      exact .cons (S1 := Em) (S2 := Em) (Rep.frz ef r1 fun b q => k b (h1 b q)) (RepL.frz ef r2 fun b q => k b (h2 b q)) (fun _ q => q.elim) (fun _ q => q.elim) (fun _ q => q.elim)
end
theorem RepL.length : ∀ {S : Rg} {vs : List V} {ds : List D}, RepL ca K Hf H S vs ds → vs.length = ds.length
  | _, _, _, .nil => rfl
  | _, _, _, .cons _ r _ _ _ => by simp [RepL.length r]
theorem RepL.one (r : Rep ca K Hf H S v d) : RepL ca K Hf H S [v] [d] := .cons r (S2 := Em) .nil (fun _ q => q) (fun _ q => q.elim) (fun _ _ q => q)
end

/-! ### the state -/
/-- every tuple that is tracked stands -/
def TpH (Hf H : Hp) : Prop := ∀ b xs, H b = some (.tup xs) → Hf b = some (.tup xs)
/-- tracked, not let stand -/
structure Wl (Hf H : Hp) (S : Rg) : Prop where
  ex : Ex Hf H
  dm : ∀ b, S b → ∃ o, H b = some o
  nf : ∀ b, S b → Hf b = none
  tp : TpH Hf H
theorem TpH.em : TpH (fun _ => none) (fun _ => none) := fun _ _ e => by cases e
/-- no tuple is laid -/
theorem TpH.upd {Hf H : Hp} {a : Addr} {o : HO} (t : TpH Hf H) (h : ∀ xs, o ≠ .tup xs) : TpH Hf (L2.upd H a o) := fun b xs e => by
  by_cases z : b = a
  · subst z; rw [upd_same] at e; cases e; exact (h _ rfl).elim
  · rw [upd_ne z] at e; exact t b xs e
/-- laid and let stand -/
theorem TpH.upd2 {Hf H : Hp} {a : Addr} {o : HO} (t : TpH Hf H) : TpH (L2.upd Hf a o) (L2.upd H a o) := fun b xs e => by
  by_cases z : b = a
  · subst z; rw [upd_same] at e ⊢; exact e
  · rw [upd_ne z] at e ⊢; exact t b xs e
/-- more is let stand -/
theorem TpH.more {Hf Hf' H : Hp} (t : TpH Hf H) (h : Ex Hf Hf') : TpH Hf' H := fun b xs e => h _ _ (t b xs e)
theorem Wl.mono {Hf H : Hp} {S S' : Rg} (w : Wl Hf H S) (h : ∀ b, S' b → S b) : Wl Hf H S' := ⟨w.ex, fun b q => w.dm b (h b q), fun b q => w.nf b (h b q), w.tp⟩

/-- all slots' regions -/
abbrev tot (R : Nat → Rg) : Rg := fun b => ∃ i, R i b
abbrev jn (P : Rg) (R : Nat → Rg) : Rg := fun b => P b ∨ tot R b

/-- the slots hold the data; a pending thing (pp) lies in P -/
structure PR (ca : Nat → Addr) (K : PySem.W.Frag) (Hf H : Hp) (P : Rg) (pp : Prop) (R : Nat → Rg) (σ : L2.St) (st : Sl) : Prop where
  pend : pp
  len : st.length = σ.length
  at_ : ∀ i d, getS st i = some d → ∃ v, σ[i]? = some (some v) ∧ Rep ca K Hf H (R i) v d
  dj : ∀ i j b, R i b → R j b → i = j
  dp : ∀ i b, P b → R i b → False
  w : Wl Hf H (jn P R)

/-- what a step may do: S the region it had, S' the region it leaves -/
structure Tr (S : Rg) (Hf H : Hp) (S' : Rg) (Hf' H' : Hp) : Prop where
  fx : Ex Hf Hf'
  keep : ∀ b o, H b = some o → ¬ S b → H' b = some o
  nw : ∀ b, S' b → S b ∨ H b = none
  fz : ∀ b o, Hf' b = some o → Hf b = some o ∨ S b ∨ H b = none

section
variable {ca : Nat → Addr} {K : PySem.W.Frag} {Hf H Hf1 H1 Hf2 H2 : Hp} {S S1 S2 P : Rg} {R R1 R2 : Nat → Rg} {pp qq : Prop} {σ : L2.St} {st : Sl} {v : V} {d : D}
theorem Tr.refl (h : ∀ b, S1 b → S b) : Tr S Hf H S1 Hf H := ⟨fun _ _ e => e, fun _ _ e _ => e, fun b q => .inl (h b q), fun _ _ e => .inl e⟩
theorem Tr.trans (a : Tr S Hf H S1 Hf1 H1) (b : Tr S1 Hf1 H1 S2 Hf2 H2) : Tr S Hf H S2 Hf2 H2 where
  fx := fun x o e => b.fx x o (a.fx x o e)
  keep := fun x o e n => b.keep x o (a.keep x o e n) fun q => by
    rcases a.nw x q with q | q
    · exact n q
    · rw [e] at q; cases q
  nw := fun x q => by
    rcases b.nw x q with q | q
    · exact a.nw x q
    · cases e : H x with
      | none => exact .inr rfl
      | some o =>
        refine .inl (Classical.byContradiction fun n => ?_)
        rw [a.keep x o e n] at q; cases q
  fz := fun x o q => by
    rcases b.fz x o q with q | q | q
    · exact a.fz x o q
    · rcases a.nw x q with q | q
      · exact .inr (.inl q)
      · exact .inr (.inr q)
    · cases e : H x with
      | none => exact .inr (.inr rfl)
      | some o =>
        refine .inr (.inl (Classical.byContradiction fun n => ?_))
        rw [a.keep x o e n] at q; cases q
/-- a smaller region behind -/
theorem Tr.less (a : Tr S Hf H S1 Hf1 H1) (h : ∀ b, S2 b → S1 b) : Tr S Hf H S2 Hf1 H1 := ⟨a.fx, a.keep, fun b q => a.nw b (h b q), a.fz⟩
theorem Tr.more (a : Tr S Hf H S1 Hf1 H1) (h : ∀ b, S b → S2 b) : Tr S2 Hf H S1 Hf1 H1 :=
  ⟨a.fx, fun b o e n => a.keep b o e fun q => n (h b q), fun b q => (a.nw b q).imp_left (h b), fun b o q => (a.fz b o q).imp_right fun q => q.imp_left (h b)⟩
/-- what lies beside the region stays -/
theorem Tr.beside (a : Tr S Hf H S1 Hf1 H1) (w1 : Wl Hf H P) (dj : ∀ b, P b → S b → False) : (∀ b, P b → ∀ o, H b = some o → H1 b = some o) ∧ (∀ b, P b → S1 b → False) ∧ (∀ b, P b → (∃ o, H1 b = some o) ∧ Hf1 b = none) := by
  refine ⟨fun b q o e => a.keep b o e (dj b q), fun b q r => ?_, fun b q => ⟨?_, ?_⟩⟩
  · rcases a.nw b r with r | r
    · exact dj b q r
    · obtain ⟨o, e⟩ := w1.dm b q
      rw [e] at r; cases r
  · obtain ⟨o, e⟩ := w1.dm b q
    exact ⟨o, a.keep b o e (dj b q)⟩
  · cases e : Hf1 b with
    | none => rfl
    | some o =>
      rcases a.fz b o e with r | r | r
      · rw [w1.nf b q] at r; cases r
      · exact (dj b q r).elim
      · obtain ⟨o, e⟩ := w1.dm b q
        rw [e] at r; cases r
/-- with what lies beside, the step is one of the whole -/
theorem Tr.with (a : Tr S Hf H S1 Hf1 H1) (P : Rg) : Tr (fun b => P b ∨ S b) Hf H (fun b => P b ∨ S1 b) Hf1 H1 :=
  ⟨a.fx, fun b o e n => a.keep b o e fun q => n (.inr q), fun b q => by
    rcases q with q | q
    · exact .inl (.inl q)
    · exact (a.nw b q).imp_left .inr, fun b o q => (a.fz b o q).imp_right fun q => q.imp_left .inr⟩
theorem mkTp {Hf H : Hp} (h : TpH Hf H := by (repeat (first | refine TpH.upd2 ?_ | refine TpH.upd ?_ (by intro _ z; cases z))); first | assumption | exact Wl.tp (by assumption) | exact Wl.tp (PR.w (by assumption)) | exact TpH.more (Wl.tp (by assumption)) (by assumption) | exact TpH.more (Wl.tp (PR.w (by assumption))) (by assumption)) : TpH Hf H := h
theorem PR.drop (p : PR ca K Hf H P pp R σ st) : PR ca K Hf H Em True R σ st :=
  ⟨trivial, p.len, p.at_, p.dj, fun _ _ q => q.elim, p.w.mono fun b q => q.elim (fun q => q.elim) .inr⟩
theorem PR.imp (p : PR ca K Hf H P pp R σ st) (h : pp → qq) : PR ca K Hf H P qq R σ st := ⟨h p.pend, p.len, p.at_, p.dj, p.dp, p.w⟩
/-- the pending thing's region may be taken smaller -/
theorem PR.toP {P' : Rg} (p : PR ca K Hf H P pp R σ st) (h : ∀ b, P' b → P b) (q : qq) : PR ca K Hf H P' qq R σ st :=
  ⟨q, p.len, p.at_, p.dj, fun i b x y => p.dp i b (h b x) y, p.w.mono fun b q => q.imp_left (h b)⟩
theorem PR.put (p : PR ca K Hf H Em True R σ st) (q : Rep ca K Hf H Em v d) : PR ca K Hf H Em (Rep ca K Hf H Em v d) R σ st := p.toP (fun _ q => q) q
end

/-! ### the judgements -/
/-- the exception's wish in any context: what it wants is exactly so -/
def wX (X : Cx) : WX := fun cls d σ H => ∀ u s', XE X (fun c' d' σ' H' => c' = cls ∧ d' = d ∧ σ' = σ ∧ H' = H) u s' → X.xe u s'
theorem takes_wX (X : Cx) : Takes X (wX X) := fun u s' ⟨a, B, sI, pins, σ, H, cls, d, h1, h2, h3, h4, h5, h6, h7, h8, h9⟩ =>
  h9 u s' ⟨a, B, sI, pins, σ, H, cls, d, h1, h2, h3, h4, h5, h6, h7, h8, rfl, rfl, rfl, rfl⟩
theorem wX_of {X : Cx} {W : WX} (t : Takes X W) {cls : Value} {d : Option Addr} {σ : L2.St} {H : Hp} (w : W cls d σ H) : wX X cls d σ H := fun u s' ⟨a, B, sI, pins, σ1, H1, cls1, d1, h1, h2, h3, h4, h5, h6, h7, h8, e1, e2, e3, e4⟩ => by
  subst e1; subst e2; subst e3; subst e4
  exact t u s' ⟨a, B, sI, pins, _, _, _, _, h1, h2, h3, h4, h5, h6, h7, h8, w⟩

structure We (X : Cx) (e : Expr) (σ : L2.St) (H : Hp) (Q : VK) : Prop where
  run : ∀ (pins : List (Addr × Obj)) (s : Shared), Inv X pins σ H s → wpAny (model X.prog X.w) X.A (eval e X.env) (EP X pins σ Q) X.xe s
structure Wt (X : Cx) (e : Expr) (σ : L2.St) (H : Hp) (Q : Bool → Hp → Prop) : Prop where
  run : ∀ (pins : List (Addr × Obj)) (s : Shared), Inv X pins σ H s → wpAny (model X.prog X.w) X.A (isTrue e X.env (eval e X.env)) (TP X pins σ Q) X.xe s
structure Wa (X : Cx) (es : List Expr) (σ : L2.St) (H : Hp) (Q : List V → Hp → Prop) : Prop where
  run : ∀ (pos : Pos) (pins : List (Addr × Obj)) (s : Shared), Inv X pins σ H s → wpAny (model X.prog X.w) X.A (spliced (backTo pos (starEach es X.env))) (AP X pins σ Q) X.xe s
structure Ws (X : Cx) (st : Stmt) (D : Ends) (σ : L2.St) (H : Hp) : Prop where
  run : ∀ (pins : List (Addr × Obj)) (s : Shared), Inv X pins σ H s → wpAny (model X.prog X.w) X.A (exec st X.env) (SP X pins D) X.xe s
structure Wss (X : Cx) (st : List Stmt) (D : Ends) (σ : L2.St) (H : Hp) : Prop where
  run : ∀ (pins : List (Addr × Obj)) (s : Shared), Inv X pins σ H s → wpAny (model X.prog X.w) X.A (execs st X.env) (SP X pins D) X.xe s
instance {X : Cx} {e : Expr} {σ : L2.St} {H : Hp} {Q : VK} : CoeFun (We X e σ H Q) (fun _ => ∀ (pins : List (Addr × Obj)) (s : Shared), Inv X pins σ H s → wpAny (model X.prog X.w) X.A (eval e X.env) (EP X pins σ Q) X.xe s) := ⟨We.run⟩
instance {X : Cx} {e : Expr} {σ : L2.St} {H : Hp} {Q : Bool → Hp → Prop} : CoeFun (Wt X e σ H Q) (fun _ => ∀ (pins : List (Addr × Obj)) (s : Shared), Inv X pins σ H s → wpAny (model X.prog X.w) X.A (isTrue e X.env (eval e X.env)) (TP X pins σ Q) X.xe s) := ⟨Wt.run⟩
instance {X : Cx} {es : List Expr} {σ : L2.St} {H : Hp} {Q : List V → Hp → Prop} : CoeFun (Wa X es σ H Q) (fun _ => ∀ (pos : Pos) (pins : List (Addr × Obj)) (s : Shared), Inv X pins σ H s → wpAny (model X.prog X.w) X.A (spliced (backTo pos (starEach es X.env))) (AP X pins σ Q) X.xe s) := ⟨Wa.run⟩
instance {X : Cx} {st : Stmt} {D : Ends} {σ : L2.St} {H : Hp} : CoeFun (Ws X st D σ H) (fun _ => ∀ (pins : List (Addr × Obj)) (s : Shared), Inv X pins σ H s → wpAny (model X.prog X.w) X.A (exec st X.env) (SP X pins D) X.xe s) := ⟨Ws.run⟩
instance {X : Cx} {st : List Stmt} {D : Ends} {σ : L2.St} {H : Hp} : CoeFun (Wss X st D σ H) (fun _ => ∀ (pins : List (Addr × Obj)) (s : Shared), Inv X pins σ H s → wpAny (model X.prog X.w) X.A (execs st X.env) (SP X pins D) X.xe s) := ⟨Wss.run⟩
theorem we_pe (X : Cx) (e : Expr) : PE X e (We X e) := ⟨fun pins s _ _ _ I h => h pins s I⟩
theorem we_of {X : Cx} {e : Expr} {t : TE} (p : PE X e t) {σ : L2.St} {H : Hp} {Q : VK} (h : t σ H Q) : We X e σ H Q := ⟨fun pins s I => p.run pins s σ H Q I h⟩
theorem wt_pt (X : Cx) (e : Expr) : PT X e (Wt X e) := ⟨fun pins s _ _ _ I h => h pins s I⟩
theorem wt_of {X : Cx} {e : Expr} {t : TT} (p : PT X e t) {σ : L2.St} {H : Hp} {Q : Bool → Hp → Prop} (h : t σ H Q) : Wt X e σ H Q := ⟨fun pins s I => p.run pins s σ H Q I h⟩
theorem wa_pa (X : Cx) (es : List Expr) : PA X es (Wa X es) := ⟨fun pos pins s _ _ _ I h => h pos pins s I⟩
theorem wa_of {X : Cx} {es : List Expr} {t : TA} (p : PA X es t) {σ : L2.St} {H : Hp} {Q : List V → Hp → Prop} (h : t σ H Q) : Wa X es σ H Q := ⟨fun pos pins s I => p.run pos pins s σ H Q I h⟩
theorem ws_ps (X : Cx) (st : Stmt) : PS X st (Ws X st) := ⟨fun pins s _ _ _ I h => h pins s I⟩
theorem ws_of {X : Cx} {st : Stmt} {t : TS} (p : PS X st t) {D : Ends} {σ : L2.St} {H : Hp} (h : t D σ H) : Ws X st D σ H := ⟨fun pins s I => p.run pins s σ H D I h⟩
theorem wss_pss (X : Cx) (st : List Stmt) : PSs X st (Wss X st) := ⟨fun pins s _ _ _ I h => h pins s I⟩
theorem wss_of {X : Cx} {st : List Stmt} {t : TS} (p : PSs X st t) {D : Ends} {σ : L2.St} {H : Hp} (h : t D σ H) : Wss X st D σ H := ⟨fun pins s I => p.run pins s σ H D I h⟩

/-- an exception's own dict holds the fields -/
def XcR (ca : Nat → Addr) (K : PySem.W.Frag) (Hf H : Hp) (cls : Value) (dd : Option Addr) (x : Xc) : Prop :=
  cls = .ref (ca x.C) ∧ ∃ (a : Addr) (fs : List (Str × V)), dd = some a ∧ H a = some (.xd fs) ∧ Hf a = some (.xd fs) ∧ fs.map (·.1) = x.fs.map (·.1) ∧ RepL ca K Hf H Em (fs.map (·.2)) (x.fs.map (·.2))

section
variable (ca : Nat → Addr) (X : Cx)
/-- what is wanted of a step's answer, a value: R the slots' regions ahead -/
def Post (Hf H : Hp) (S : Rg) (σ : L2.St) (r : Res D) (Q : VK) : Prop :=
  match r with
  | .ok d st => ∀ Hf' H' P R' v, Tr S Hf H (jn P R') Hf' H' → PR ca X.K Hf' H' P (Rep ca X.K Hf' H' P v d) R' σ st → Q v H'
  | .exc x st => ∀ Hf' H' R' cls dd, Tr S Hf H (jn Em R') Hf' H' → PR ca X.K Hf' H' Em (XcR ca X.K Hf' H' cls dd x) R' σ st → wX X cls dd σ H'
  | .fail => False
def PostL (Hf H : Hp) (S : Rg) (σ : L2.St) (r : Res (List D)) (Q : List V → Hp → Prop) : Prop :=
  match r with
  | .ok ds st => ∀ Hf' H' P R' vs, Tr S Hf H (jn P R') Hf' H' → PR ca X.K Hf' H' P (RepL ca X.K Hf' H' P vs ds) R' σ st → Q vs H'
  | .exc x st => ∀ Hf' H' R' cls dd, Tr S Hf H (jn Em R') Hf' H' → PR ca X.K Hf' H' Em (XcR ca X.K Hf' H' cls dd x) R' σ st → wX X cls dd σ H'
  | .fail => False
def PostB (Hf H : Hp) (S : Rg) (σ : L2.St) (r : Res Bool) (Q : Bool → Hp → Prop) : Prop :=
  match r with
  | .ok k st => ∀ Hf' H' R', Tr S Hf H (jn Em R') Hf' H' → PR ca X.K Hf' H' Em True R' σ st → Q k H'
  | .exc x st => ∀ Hf' H' R' cls dd, Tr S Hf H (jn Em R') Hf' H' → PR ca X.K Hf' H' Em (XcR ca X.K Hf' H' cls dd x) R' σ st → wX X cls dd σ H'
  | .fail => False
/-- the parameters that are never stored to keep their values -/
def Lk (L : List Nat) (σ σ' : L2.St) : Prop := σ'.length = σ.length ∧ ∀ i ∈ L, σ'[i]? = σ[i]?
theorem Lk.refl {L : List Nat} {σ : L2.St} : Lk L σ σ := ⟨rfl, fun _ _ => rfl⟩
theorem Lk.trans {L : List Nat} {σ σ' σ2 : L2.St} (a : Lk L σ σ') (b : Lk L σ' σ2) : Lk L σ σ2 := ⟨b.1.trans a.1, fun j hj => (b.2 j hj).trans (a.2 j hj)⟩
def PostS (L : List Nat) (Hf H : Hp) (S : Rg) (σ : L2.St) (r : SR) (E : Ends) : Prop :=
  match r with
  | .next st => ∀ Hf' H' R' σ', Tr S Hf H (jn Em R') Hf' H' → PR ca X.K Hf' H' Em True R' σ' st → Lk L σ σ' → E.nx σ' H'
  | .brk st => ∀ Hf' H' R' σ', Tr S Hf H (jn Em R') Hf' H' → PR ca X.K Hf' H' Em True R' σ' st → Lk L σ σ' → E.bk σ' H'
  | .cont st => ∀ Hf' H' R' σ', Tr S Hf H (jn Em R') Hf' H' → PR ca X.K Hf' H' Em True R' σ' st → Lk L σ σ' → E.ct σ' H'
  | .ret d st => ∀ Hf' H' P R' σ' v, Tr S Hf H (jn P R') Hf' H' → PR ca X.K Hf' H' P (Rep ca X.K Hf' H' P v d) R' σ' st → Lk L σ σ' → E.rt v H'
  | .exc x st => ∀ Hf' H' R' σ' cls dd, Tr S Hf H (jn Em R') Hf' H' → PR ca X.K Hf' H' Em (XcR ca X.K Hf' H' cls dd x) R' σ' st → Lk L σ σ' → wX X cls dd σ' H'
  | .fail => False

/-- the expression's meaning -/
def CE (e : Expr) (m : ME) : Prop := ∀ (Hf H : Hp) (R : Nat → Rg) (σ : L2.St) (st : Sl) (Q : VK), PR ca X.K Hf H Em True R σ st → Post ca X Hf H (jn Em R) σ (m st) Q → We X e σ H Q
def CT (e : Expr) (m : MT) : Prop := ∀ (Hf H : Hp) (R : Nat → Rg) (σ : L2.St) (st : Sl) (Q : Bool → Hp → Prop), PR ca X.K Hf H Em True R σ st → PostB ca X Hf H (jn Em R) σ (m st) Q → Wt X e σ H Q
def CS (L : List Nat) (s : Stmt) (m : MS) : Prop := ∀ (Hf H : Hp) (R : Nat → Rg) (σ : L2.St) (st : Sl) (E : Ends), PR ca X.K Hf H Em True R σ st → PostS ca X L Hf H (jn Em R) σ (m st) E → Ws X s E σ H
def CSs (L : List Nat) (s : List Stmt) (m : MS) : Prop := ∀ (Hf H : Hp) (R : Nat → Rg) (σ : L2.St) (st : Sl) (E : Ends), PR ca X.K Hf H Em True R σ st → PostS ca X L Hf H (jn Em R) σ (m st) E → Wss X s E σ H
/-- a target's store: the value v of the datum d, lying in P, goes to the slots -/
def CG (L : List Nat) (e : Expr) (t : TG) (m : MG) : Prop := PG X e t ∧ ∀ (Hf H : Hp) (P : Rg) (R : Nat → Rg) (σ : L2.St) (st : Sl) (v : V) (d : D) (Q : L2.St → Hp → Prop), PR ca X.K Hf H P (Rep ca X.K Hf H P v d) R σ st →
  (match m d st with
    | .ok _ st' => ∀ Hf' H' R' σ', Tr (jn P R) Hf H (jn Em R') Hf' H' → PR ca X.K Hf' H' Em True R' σ' st' → Lk L σ σ' → Q σ' H'
    | _ => False) → t v σ H Q
end
end DL

/-! DL3: the rules for expressions: names, constants, operations that look at their operands. -/
namespace DL
open PySem L2 PyProof.Rows
/-- what is only looked at -/
inductive RdL (ca : Nat → Addr) (K : PySem.W.Frag) (Hf H : Hp) : List V → List D → Prop where
  | nil : RdL ca K Hf H [] []
  | cons {S v d vs ds} : Rep ca K Hf H S v d → RdL ca K Hf H vs ds → RdL ca K Hf H (v :: vs) (d :: ds)
def CO (ca : Nat → Addr) (X : Cx) (e : Expr) : Opd → Prop
  | .v m => CE ca X e m
  | .s i => PE X e (tVar i)
inductive COs (ca : Nat → Addr) (X : Cx) : List Expr → List Opd → Prop where
  | nil : COs ca X [] []
  | cons {e o es os} : CO ca X e o → COs ca X es os → COs ca X (e :: es) (o :: os)

section
variable {ca : Nat → Addr} {K : PySem.W.Frag} {Hf H Hf1 H1 Hf2 H2 : Hp} {S S1 S2 P : Rg} {R R1 R2 : Nat → Rg} {pp qq : Prop} {σ σ' : L2.St} {st st' : Sl} {v : V} {d : D} {vs : List V} {ds : List D} {X : Cx} {L : List Nat}

theorem getS_set {st : Sl} {i j : Nat} {o : Option D} : getS (st.set i o) j = if i = j then (if j < st.length then o else none) else getS st j := by
  unfold getS
  rw [List.getElem?_set]
  by_cases h : i = j
  · subst h
    rw [if_pos rfl, if_pos rfl]
    split <;> rfl
  · rw [if_neg h, if_neg h]
theorem getS_lt {st : Sl} {i : Nat} {d : D} (h : getS st i = some d) : i < st.length := by
  unfold getS at h
  cases e : st[i]? with
  | none =>
    rw [e] at h
    cases h
  | some o => exact (List.getElem?_eq_some_iff.mp e).1

/-! ### carrying a wish along a step -/
theorem Post.from {r : Res D} {Q : VK} (t : Tr S Hf H S1 Hf1 H1) (h : Post ca X Hf H S σ r Q) : Post ca X Hf1 H1 S1 σ r Q := by
  cases r with
  | ok d st => exact fun Hf' H' P R' v t' p => h Hf' H' P R' v (t.trans t') p
  | exc x st => exact fun Hf' H' R' cls dd t' p => h Hf' H' R' cls dd (t.trans t') p
  | fail => exact h
theorem PostL.from {r : Res (List D)} {Q : List V → Hp → Prop} (t : Tr S Hf H S1 Hf1 H1) (h : PostL ca X Hf H S σ r Q) : PostL ca X Hf1 H1 S1 σ r Q := by
  cases r with
  | ok d st => exact fun Hf' H' P R' v t' p => h Hf' H' P R' v (t.trans t') p
  | exc x st => exact fun Hf' H' R' cls dd t' p => h Hf' H' R' cls dd (t.trans t') p
  | fail => exact h
theorem PostB.from {r : Res Bool} {Q : Bool → Hp → Prop} (t : Tr S Hf H S1 Hf1 H1) (h : PostB ca X Hf H S σ r Q) : PostB ca X Hf1 H1 S1 σ r Q := by
  cases r with
  | ok d st => exact fun Hf' H' R' t' p => h Hf' H' R' (t.trans t') p
  | exc x st => exact fun Hf' H' R' cls dd t' p => h Hf' H' R' cls dd (t.trans t') p
  | fail => exact h
theorem PostS.from {r : SR} {E : Ends} (t : Tr S Hf H S1 Hf1 H1) (k : Lk L σ σ') (h : PostS ca X L Hf H S σ r E) : PostS ca X L Hf1 H1 S1 σ' r E := by
  have kk : ∀ σ'' : L2.St, Lk L σ' σ'' → Lk L σ σ'' := fun σ'' q => Lk.trans k q
  cases r with
  | next st => exact fun Hf' H' R' s2 t' p q => h Hf' H' R' s2 (t.trans t') p (kk _ q)
  | brk st => exact fun Hf' H' R' s2 t' p q => h Hf' H' R' s2 (t.trans t') p (kk _ q)
  | cont st => exact fun Hf' H' R' s2 t' p q => h Hf' H' R' s2 (t.trans t') p (kk _ q)
  | ret d st => exact fun Hf' H' P R' s2 v t' p q => h Hf' H' P R' s2 v (t.trans t') p (kk _ q)
  | exc x st => exact fun Hf' H' R' s2 cls dd t' p q => h Hf' H' R' s2 cls dd (t.trans t') p (kk _ q)
  | fail => exact h
/-! ### ends of an expression -/
/-- a value without owned parts; nothing changed -/
theorem post_val {Q : VK} (p : PR ca X.K Hf H P pp R σ st) (h : Post ca X Hf H S σ (.ok d st) Q) (hS : ∀ b, tot R b → S b) (r : Rep ca X.K Hf H Em v d) : Q v H :=
  h Hf H Em R v (Tr.refl fun b q => q.elim (fun q => q.elim) (hS b)) (p.drop.put r)
theorem hf_none {a : Addr} (w : Wl Hf H S) (hn : H a = none) : Hf a = none := by
  cases e : Hf a with
  | none => rfl
  | some o => rw [w.ex a o e] at hn; cases hn
theorem wl_new {a : Addr} {o : HO} (w : Wl Hf H S) (hn : H a = none) (ho : ∀ xs, o ≠ .tup xs := by intro _ z; cases z) : Wl Hf (upd H a o) S ∧ Hf a = none := by
  have h0 : Hf a = none := by
    cases e : Hf a with
    | none => rfl
    | some o => rw [w.ex a o e] at hn; cases hn
  refine ⟨⟨fun b u e => ?_, fun b q => ?_, w.nf, w.tp.upd ho⟩, h0⟩
  · by_cases hb : b = a
    · subst hb; rw [h0] at e; cases e
    · rw [upd_ne hb]; exact w.ex b u e
  · obtain ⟨u, e⟩ := w.dm b q
    exact ⟨u, by rw [upd_ne (fun z => by subst z; rw [hn] at e; cases e)]; exact e⟩
theorem upd_keep {a : Addr} {o : HO} (hn : H a = none) : ∀ b u, H b = some u → upd H a o b = some u := fun b u e => by
  rw [upd_ne (fun z => by subst z; rw [hn] at e; cases e)]; exact e
/-- the slots over a heap with one object more -/
theorem PR.grow {a : Addr} {o : HO} (p : PR ca K Hf H Em True R σ st) (hn : H a = none) {P' : Rg} (q : qq) (hP : ∀ b, P' b → b = a) (ho : ∀ xs, o ≠ .tup xs := by intro _ z; cases z) : PR ca K Hf (upd H a o) P' qq R σ st where
  pend := q
  len := p.len
  at_ := fun i d e => by
    obtain ⟨v, e1, r⟩ := p.at_ i d e
    exact ⟨v, e1, r.keep (fun _ _ e => e) fun b _ o e => upd_keep hn b o e⟩
  dj := p.dj
  dp := fun i b h1 h2 => by
    have := hP b h1
    subst this
    obtain ⟨o, e⟩ := p.w.dm b (.inr ⟨i, h2⟩)
    rw [hn] at e; cases e
  w := by
    obtain ⟨w1, w2⟩ := wl_new (o := o) p.w hn ho
    refine ⟨w1.ex, fun b h => ?_, fun b h => ?_, w1.tp⟩
    · rcases h with h | h
      · have := hP b h
        subst this
        exact ⟨o, upd_same⟩
      · exact w1.dm b (.inr h)
    · rcases h with h | h
      · have := hP b h
        subst this
        exact w2
      · exact w1.nf b (.inr h)
/-- a new owned list -/
theorem post_newL {Q : VK} {a : Addr} (p : PR ca X.K Hf H P pp R σ st) (h : Post ca X Hf H S σ (.ok (.lst true ds) st) Q) (hS : ∀ b, tot R b → S b) (hn : H a = none) (r : RepL ca X.K Hf H Em vs ds) : Q (.ref a) (upd H a (.lst vs)) := by
  refine h Hf (upd H a (.lst vs)) (fun b => b = a) R (.ref a) ⟨fun _ _ e => e, fun b o e _ => upd_keep hn b o e, fun b q => ?_, fun _ _ e => .inl e⟩ (p.drop.grow hn (.lstO rfl upd_same ((r.keep (fun _ _ e => e) fun _ q => q.elim).mono fun _ q => q.elim)) fun _ q => q)
  rcases q with q | q
  · subst q; exact .inr hn
  · exact .inl (hS b q)
/-- an object let stand at once -/
theorem PR.stand {a : Addr} {o : HO} (p : PR ca K Hf H Em True R σ st) (hn : H a = none) : PR ca K (upd Hf a o) (upd H a o) Em True R σ st := by
  have h0 := hf_none p.w hn
  have hx : Ex Hf (upd Hf a o) := fun b u e => upd_keep h0 b u e
  refine ⟨trivial, p.len, fun i d e => ?_, p.dj, fun _ _ q => q.elim, ?_⟩
  · obtain ⟨v, e1, r⟩ := p.at_ i d e
    exact ⟨v, e1, r.keep hx fun b _ o e => upd_keep hn b o e⟩
  · refine ⟨fun b u e => ?_, fun b q => ?_, fun b q => ?_, mkTp⟩
    · by_cases hb : b = a
      · subst hb; rw [upd_same] at e ⊢; exact e
      · rw [upd_ne hb] at e ⊢; exact p.w.ex b u e
    · obtain ⟨u, e⟩ := p.w.dm b q
      exact ⟨u, upd_keep hn b u e⟩
    · have : b ≠ a := fun z => by
        subst z
        obtain ⟨u, e⟩ := p.w.dm b q
        rw [hn] at e; cases e
      rw [upd_ne this]; exact p.w.nf b q
theorem post_newT {Q : VK} {a : Addr} (p : PR ca X.K Hf H P pp R σ st) (h : Post ca X Hf H S σ (.ok (.tup ds) st) Q) (hS : ∀ b, tot R b → S b) (hn : H a = none) (r : RepL ca X.K Hf H Em vs ds) : Q (.ref a) (upd H a (.tup vs)) := by
  have h0 := hf_none p.w hn
  have p1 := p.drop.stand (o := .tup vs) hn
  refine h (upd Hf a (.tup vs)) (upd H a (.tup vs)) Em R (.ref a) ⟨fun b u e => upd_keep h0 b u e, fun b o e _ => upd_keep hn b o e, fun b q => ?_, fun b o e => ?_⟩ (p1.put (.tup upd_same (r.keep (fun b u e => upd_keep h0 b u e) fun _ q => q.elim)))
  · rcases q with q | q
    · exact q.elim
    · exact .inl (hS b q)
  · by_cases hb : b = a
    · subst hb; exact .inr (.inr hn)
    · rw [upd_ne hb] at e; exact .inl e

/-! ### constants and names -/
theorem ce_c {e : Expr} (p : PE X e (tC v)) (r : ∀ Hf H, Rep ca X.K Hf H Em v d) : CE ca X e (eC d) := fun Hf H R σ st Q pr h =>
  we_of p (post_val (v := v) pr h (fun b q => .inr q) (r Hf H))
theorem ce_int {i j pos} : CE ca X (.Constant (.int i) j pos) (eC (.int i)) := ce_c pe_int fun _ _ => .int
theorem ce_bl {b j pos} : CE ca X (.Constant (.bool b) j pos) (eC (.bl b)) := ce_c pe_bl fun _ _ => .bl
theorem ce_non {j pos} : CE ca X (.Constant .none j pos) (eC .non) := ce_c pe_non fun _ _ => .non
theorem ce_str {x j pos} : CE ca X (.Constant (.str x) j pos) (eC (.str x)) := ce_c pe_str fun _ _ => .str

theorem set_get {st : Sl} {i j : Nat} {o : Option D} {d : D} (h : getS (st.set i o) j = some d) : (i = j ∧ o = some d) ∨ (i ≠ j ∧ getS st j = some d) := by
  rw [getS_set] at h
  by_cases e : i = j
  · rw [if_pos e] at h
    split at h
    · exact .inl ⟨e, h⟩
    · cases h
  · rw [if_neg e] at h
    exact .inr ⟨e, h⟩
/-- a slot's data let stand -/
theorem PR.freeze {i : Nat} (p : PR ca K Hf H Em True R σ st) (h : getS st i = some d) :
    ∃ Hf' v, σ[i]? = some (some v) ∧ Rep ca K Hf' H Em v (frz d) ∧ Tr (jn Em R) Hf H (jn Em fun j b => j ≠ i ∧ R j b) Hf' H ∧ PR ca K Hf' H Em True (fun j b => j ≠ i ∧ R j b) σ (st.set i (some (frz d))) := by
  obtain ⟨v, e1, r⟩ := p.at_ i d h
  let Hf' : Hp := fun b => if Classical.propDecidable (R i b) |>.decide then H b else Hf b
  have hy : ∀ b, R i b → Hf' b = H b := fun b q => by
    show (if _ then _ else _) = _
    rw [if_pos (by simpa using q)]
  have hno : ∀ b, ¬ R i b → Hf' b = Hf b := fun b q => by
    show (if _ then _ else _) = _
    rw [if_neg (by simpa using q)]
  have hx : Ex Hf Hf' := fun b o e => by
    by_cases q : R i b
    · rw [hy b q]; exact p.w.ex b o e
    · rw [hno b q]; exact e
  have hfz : Rep ca K Hf' H Em v (frz d) := r.frz hx fun b q o e => by rw [hy b q]; exact e
  refine ⟨Hf', v, e1, hfz, ⟨hx, fun _ _ e _ => e, fun b q => .inl ?_, fun b o e => ?_⟩, ⟨trivial, ?_, fun j d' e => ?_, fun j k b q1 q2 => p.dj j k b q1.2 q2.2, fun _ _ q => q.elim, ?_⟩⟩
  · rcases q with q | ⟨j, q⟩
    · exact q.elim
    · exact .inr ⟨j, q.2⟩
  · by_cases q : R i b
    · exact .inr (.inl (.inr ⟨i, q⟩))
    · rw [hno b q] at e; exact .inl e
  · rw [List.length_set]; exact p.len
  · rcases set_get e with ⟨q1, q2⟩ | ⟨q1, q2⟩
    · subst q1
      cases q2
      exact ⟨v, e1, hfz.mono fun _ q => q.elim⟩
    · obtain ⟨v', e2, r2⟩ := p.at_ j d' q2
      exact ⟨v', e2, (r2.keep hx fun _ _ _ e => e).mono fun b q => ⟨Ne.symm q1, q⟩⟩
  · refine ⟨fun b o e => ?_, fun b q => ?_, fun b q => ?_, mkTp⟩
    · by_cases z : R i b
      · rw [hy b z] at e; exact e
      · rw [hno b z] at e; exact p.w.ex b o e
    · rcases q with q | ⟨j, q⟩
      · exact q.elim
      · exact p.w.dm b (.inr ⟨j, q.2⟩)
    · rcases q with q | ⟨j, q⟩
      · exact q.elim
      · rw [hno b fun z => q.1 (p.dj j i b q.2 z)]; exact p.w.nf b (.inr ⟨j, q.2⟩)
theorem ce_n {e : Expr} {i : Nat} (hp : PE X e (tVar i)) : CE ca X e (eN i) := fun Hf H R σ st Q p h => by
  refine we_of hp ?_
  unfold eN at h
  cases g : getS st i with
  | none => rw [g] at h; exact h.elim
  | some d =>
    rw [g] at h
    by_cases hh : hot d
    · simp only [hh, if_true] at h
      obtain ⟨Hf', v, e1, r, t, p1⟩ := p.freeze g
      exact ⟨v, e1, h Hf' H Em _ v (t.less fun b q => q) (p1.put r)⟩
    · simp only [Bool.not_eq_true] at hh
      simp only [hh, Bool.false_eq_true, if_false] at h
      obtain ⟨v, e1, r⟩ := p.at_ i d g
      exact ⟨v, e1, post_val p h (fun b q => .inr q) (r.cold hh)⟩
/-- a slot's data taken out -/
theorem PR.take {i : Nat} (p : PR ca K Hf H Em True R σ st) (h : getS st i = some d) :
    ∃ v, σ[i]? = some (some v) ∧ PR ca K Hf H (R i) (Rep ca K Hf H (R i) v d) (fun j b => j ≠ i ∧ R j b) σ (st.set i none) := by
  obtain ⟨v, e1, r⟩ := p.at_ i d h
  refine ⟨v, e1, r, ?_, fun j d' e => ?_, fun j k b q1 q2 => p.dj j k b q1.2 q2.2, fun j b q1 q2 => q2.1 (p.dj j i b q2.2 q1), ?_⟩
  · rw [List.length_set]; exact p.len
  · rcases set_get e with ⟨q1, q2⟩ | ⟨q1, q2⟩
    · cases q2
    · obtain ⟨v', e2, r2⟩ := p.at_ j d' q2
      exact ⟨v', e2, r2.mono fun b q => ⟨Ne.symm q1, q⟩⟩
  · exact p.w.mono fun b q => q.elim (fun q => .inr ⟨i, q⟩) fun ⟨j, q⟩ => .inr ⟨j, q.2⟩
theorem ce_mv {e : Expr} {i : Nat} (hp : PE X e (tVar i)) : CE ca X e (eMv i) := fun Hf H R σ st Q p h => by
  refine we_of hp ?_
  unfold eMv at h
  cases g : getS st i with
  | none => rw [g] at h; exact h.elim
  | some d =>
    rw [g] at h
    obtain ⟨v, e1, p1⟩ := p.take g
    refine ⟨v, e1, h Hf H (R i) _ v (Tr.refl fun b q => ?_) p1⟩
    rcases q with q | ⟨j, q⟩
    · exact .inr ⟨i, q⟩
    · exact .inr ⟨j, q.2⟩

/-! ### operands -/
theorem RdL.keep (r : RdL ca K Hf H vs ds) (hx : Ex Hf Hf1) (hk : Ex H H1) : RdL ca K Hf1 H1 vs ds := by
  induction r with
  | nil => exact .nil
  | cons r1 _ ih => exact .cons (r1.keep hx fun b _ o e => hk b o e) ih

theorem co_v {e : Expr} {m : ME} (h : CE ca X e m) : CO ca X e (.v m) := h
theorem co_s {e : Expr} {i : Nat} (h : PE X e (tVar i)) : CO ca X e (.s i) := h
/-- expressions from the left -/
def WL (X : Cx) : List Expr → L2.St → Hp → (List V → Hp → Prop) → Prop
  | [], _, H, Q => Q [] H
  | e :: es, σ, H, Q => We X e σ H fun x H1 => WL X es σ H1 fun xs H2 => Q (x :: xs) H2

/-- the wish for exceptions alone -/
theorem ops_sound : ∀ {es : List Expr} {os : List Opd}, COs ca X es os → ∀ {Hf H : Hp} {R : Nat → Rg} {σ : L2.St} {st : Sl} {k : (Sl → Option (List D)) → Sl → Res D} {Q' : VK} {Q : List V → Hp → Prop},
    PR ca X.K Hf H Em True R σ st → Post ca X Hf H (jn Em R) σ (opds os st k) Q' →
    (∀ gs st2 Hf2 H2 R2 vs, Tr (jn Em R) Hf H (jn Em R2) Hf2 H2 → PR ca X.K Hf2 H2 Em True R2 σ st2 → (∀ ds, gs st2 = some ds → RdL ca X.K Hf2 H2 vs ds) → Post ca X Hf2 H2 (jn Em R2) σ (k gs st2) Q' → Q vs H2) → WL X es σ H Q
  | _, _, .nil, Hf, H, R, σ, st, k, Q', Q, p, h, c => c _ st Hf H R [] (Tr.refl fun _ q => q) p (fun ds e => by cases e; exact .nil) h
  | _, _, .cons (o := .v m) (os := os) hc hcs, Hf, H, R, σ, st, k, Q', Q, p, h, c => by
    refine hc Hf H R σ st _ p ?_
    rw [opds] at h
    cases e : m st with
    | fail => rw [e] at h; exact h
    | exc x st1 => rw [e] at h; exact h
    | ok d st1 =>
      rw [e] at h
      intro Hf1 H1 P R1 v t1 p1
      have h1 : Post ca X Hf1 H1 (jn Em R1) σ (opds os st1 fun gs st2 => k (fun s => (gs s).map (d :: ·)) st2) Q' := Post.from (t1.less fun b q => q.elim (fun q => q.elim) .inr) h
      refine ops_sound hcs p1.drop h1 fun gs st2 Hf2 H2 R2 vs t2 p2 hr hk => ?_
      have t1' := t1.less (S2 := jn Em R1) fun b q => q.elim (fun q => q.elim) .inr
      refine c _ st2 Hf2 H2 R2 (v :: vs) (t1'.trans t2) p2 (fun ds e => ?_) hk
      cases g : gs st2 with
      | none => rw [g] at e; cases e
      | some ds' =>
        rw [g] at e
        cases e
        have wP : Wl Hf1 H1 P := p1.w.mono fun b q => .inl q
        have bs := t2.beside wP fun b q1 q2 => q2.elim (fun q => q.elim) fun ⟨i, q⟩ => p1.dp i b q1 q
        exact .cons (p1.pend.keep t2.fx bs.1) (hr _ g)
  | _, _, .cons (e := ex) (o := .s i) (es := es) (os := os) hc hcs, Hf, H, R, σ, st, k, Q', Q, p, h, c => by
    rw [opds] at h
    cases gi : getS st i with
    | none =>
      rw [gi] at h
      exact h.elim
    | some d0 =>
      rw [gi] at h
      obtain ⟨v, ev, _⟩ := p.at_ i d0 gi
      refine we_of hc ⟨v, ev, ?_⟩
      refine ops_sound hcs p h fun gs st2 Hf2 H2 R2 vs t2 p2 hr hk => c _ st2 Hf2 H2 R2 (v :: vs) t2 p2 (fun ds e => ?_) hk
      cases g0 : getS st2 i with
      | none => rw [g0] at e; cases e
      | some d =>
        rw [g0] at e
        cases g : gs st2 with
        | none =>
          rw [g] at e
          cases e
        | some ds' =>
          rw [g] at e
          cases e
          obtain ⟨v', e2, r⟩ := p2.at_ i d g0
          rw [ev] at e2
          cases e2
          exact .cons r (hr _ g)
end
end DL

/-! DL4: operations by data; and, or, not, if; displays; tests. -/
namespace DL
open PySem L2 PyProof.Rows

/-- what an operation that only looks hands on -/
def OutQ (ca : Nat → Addr) (K : PySem.W.Frag) (Hf H : Hp) (o : Out) (Q : VK) : Prop :=
  match o with
  | .val d => ∀ v, Rep ca K Hf H Em v d → Q v H
  | .newL ds => ∀ p vs, H p = none → RepL ca K Hf H Em vs ds → Q (.ref p) (upd H p (.lst vs))
  | .newT ds => ∀ p vs, H p = none → RepL ca K Hf H Em vs ds → Q (.ref p) (upd H p (.tup vs))
def rl1 (r : V → Hp → VK → Prop) : List V → Hp → VK → Prop
  | [x], H, Q => r x H Q
  | _, _, _ => False
def rl2 (r : L2.R2) : List V → Hp → VK → Prop
  | [x, y], H, Q => r x y H Q
  | _, _, _ => False
def f2 (f : D → D → Option D) : List D → Option Out
  | [x, y] => (f x y).map .val
  | _ => none
/-- an operation by values (rl) is what f says of the data -/
def OpS (ca : Nat → Addr) (K : PySem.W.Frag) (rl : List V → Hp → VK → Prop) (f : List D → Option Out) : Prop :=
  ∀ (Hf H : Hp) (vs : List V) (ds : List D) (o : Out) (Q : VK), Ex Hf H → RdL ca K Hf H vs ds → f ds = some o → OutQ ca K Hf H o Q → rl vs H Q

section
variable {ca : Nat → Addr} {K : PySem.W.Frag} {Hf H Hf1 H1 Hf2 H2 : Hp} {S S1 S2 P : Rg} {R R1 R2 : Nat → Rg} {pp qq : Prop} {σ σ' : L2.St} {st st' : Sl} {v : V} {d : D} {vs : List V} {ds : List D} {X : Cx} {L : List Nat}

theorem outQ_of {o : Out} {Q : VK} (p : PR ca X.K Hf H P pp R σ st) (h : Post ca X Hf H S σ (.ok o.d st) Q) (hS : ∀ b, tot R b → S b) : OutQ ca X.K Hf H o Q := by
  cases o with
  | val d => exact fun v r => post_val p h hS r
  | newL ds => exact fun a vs hn r => post_newL p h hS hn r
  | newT ds => exact fun a vs hn r => post_newT p h hS hn r
/-- THE RULE for an operation that only looks at its operands -/
theorem ce_op {e : Expr} {es : List Expr} {os : List Opd} {rl : List V → Hp → VK → Prop} {f : List D → Option Out} (hw : ∀ σ H Q, WL X es σ H (fun vs H2 => rl vs H2 Q) → We X e σ H Q) (hc : COs ca X es os) (ho : OpS ca X.K rl f) : CE ca X e (eOp f os) :=
  fun Hf H R σ st Q p h => by
    refine hw σ H Q (ops_sound hc p h fun gs st2 Hf2 H2 R2 vs t2 p2 hr hk => ?_)
    cases g : gs st2 with
    | none => rw [g] at hk; exact hk.elim
    | some ds =>
      rw [g] at hk
      cases g2 : f ds with
      | none =>
        have hk' : Post ca X Hf2 H2 (jn Em R2) σ (match f ds with | some o => .ok o.d st2 | none => .fail) Q := hk
        rw [g2] at hk'; exact hk'.elim
      | some o =>
        have hk' : Post ca X Hf2 H2 (jn Em R2) σ (match f ds with | some o => .ok o.d st2 | none => .fail) Q := hk
        rw [g2] at hk'
        exact ho Hf2 H2 vs ds o Q p2.w.ex (hr ds g) g2 (outQ_of p2 hk' fun b q => .inr q)
/-! ### the forms -/
theorem ce_bin {a b : Expr} {oa ob : Opd} {op : Operator} {pos : Pos} {r : L2.R2} {f : List D → Option Out} (ho : OpR X (binaryOp op) r) (hs : OpS ca X.K (rl2 r) f) (ha : CO ca X a oa) (hb : CO ca X b ob) :
    CE ca X (.BinOp a op b pos) (eOp f [oa, ob]) := ce_op (es := [a, b]) (rl := rl2 r) (fun σ H Q h => we_of (pe_op ho (we_pe X a) (we_pe X b)) h) (.cons ha (.cons hb .nil)) hs
theorem ce_cmp {a b : Expr} {oa ob : Opd} {op : CmpOp} {pos : Pos} {r : L2.R2} {f : List D → Option Out} (ho : OpR X (compareOp op) r) (hs : OpS ca X.K (rl2 r) f) (ha : CO ca X a oa) (hb : CO ca X b ob) (hm : behindInMarks op b = false) :
    CE ca X (.Compare a [op] [b] pos) (eOp f [oa, ob]) := ce_op (es := [a, b]) (rl := rl2 r) (fun σ H Q h => we_of (pe_cmpR ho (we_pe X a) (we_pe X b) hm) h) (.cons ha (.cons hb .nil)) hs
theorem ce_un {a : Expr} {oa : Opd} {op : UnaryOp} {pos : Pos} {r : V → Hp → VK → Prop} {f : List D → Option Out} (ho : UnR X (unaryOp op) r) (hs : OpS ca X.K (rl1 r) f) (ha : CO ca X a oa) :
    CE ca X (.UnaryOp op a pos) (eOp f [oa]) := ce_op (es := [a]) (rl := rl1 r) (fun σ H Q h => we_of (pe_un ho (we_pe X a)) h) (.cons ha .nil) hs
theorem ce_ix {a b : Expr} {oa ob : Opd} {pos : Pos} {r : L2.R2} {f : List D → Option Out} (hr : IxR X r) (hs : OpS ca X.K (rl2 r) f) (ha : CO ca X a oa) (hb : CO ca X b ob) (hp : PlainIx b) :
    CE ca X (.Subscript a b pos) (eOp f [oa, ob]) := ce_op (es := [a, b]) (rl := rl2 r) (fun σ H Q h => we_of (pe_ix hr (we_pe X a) (we_pe X b) hp) h) (.cons ha (.cons hb .nil)) hs
/-- the arguments of a call of a built-in, by values -/
theorem wa_wl : ∀ {es : List Expr}, (∀ e r, (e :: r) <:+ es → starEach (e :: r) X.env = (false, eval e X.env) :: starEach r X.env) → ∀ {σ : L2.St} {H : Hp} {Q : List V → Hp → Prop}, WL X es σ H Q → Wa X es σ H Q
  | [], _, _, _, _, h => wa_of pa_nil h
  | e :: es, hs, _, _, _, h => wa_of (pa_cons (we_pe X e) (wa_pa X es) (hs e es (List.suffix_refl _))) (We.mk fun pins s I => thn (We.run h pins s I) fun u s1 ⟨v, H1, I1, r1, q1⟩ => ⟨v, H1, I1, r1, wa_wl (fun e' r' q => hs e' r' (q.trans (List.suffix_cons _ _))) q1⟩)
end
/-- no star among the arguments -/
def NoStar : List Expr → Prop
  | [] => True
  | e :: es => (∀ env, starEach (e :: es) env = (false, eval e env) :: starEach es env) ∧ NoStar es
theorem noStar_suf : ∀ {es : List Expr}, NoStar es → ∀ e r, (e :: r) <:+ es → ∀ env, starEach (e :: r) env = (false, eval e env) :: starEach r env
  | [], _, e, r, q, _ => by simp at q
  | x :: es, h, e, r, q, env => by
    rcases List.suffix_cons_iff.mp q with q | q
    · cases q; exact h.1 env
    · exact noStar_suf h.2 e r q env
section
variable {ca : Nat → Addr} {K : PySem.W.Frag} {X : Cx} {L : List Nat}
/-- f(e, ..), f a built-in function; T(e, ..), T a built-in type -/
theorem ce_callB {x : Str} {p pos : Pos} {e : Expr} {es : List Expr} {os : List Opd} {id : String} {r : List V → Hp → VK → Prop} {f : List D → Option Out} (hc : CallR X (.builtin id) r) (hg : Gl X x) (hm : X.mg x = none) (hv : bootBuiltins x = some (.builtin id)) (hs : OpS ca X.K r f)
    (ha : COs ca X (e :: es) os) (hn : x ≠ "__name__" := by decide) (hdb : (x == ("__debug__" : Str)) = false := by decide) (hst : NoStar (e :: es) := by exact ⟨fun _ => rfl, trivial⟩)
    (hpl : (backTo pos (starEach es X.env)).any (·.1) = false := by rfl) : CE ca X (.Call (.Name x p) (e :: es) [] pos) (eOp f os) :=
  ce_op (es := e :: es) (fun σ H Q h => we_of (pe_callB hc hg hm hv (wa_pa X (e :: es)) hn hdb (hst.1 _) hpl) (wa_wl (fun e' r' q => noStar_suf hst e' r' q _) h)) ha hs
theorem ce_callTy {x : Str} {p pos : Pos} {e : Expr} {es : List Expr} {os : List Opd} {T : String} {r : List V → Hp → VK → Prop} {f : List D → Option Out} (hc : CallR X (.type T) r) (hg : Gl X x) (hm : X.mg x = none) (hv : bootBuiltins x = some (.type T)) (hs : OpS ca X.K r f)
    (ha : COs ca X (e :: es) os) (hn : x ≠ "__name__" := by decide) (hdb : (x == ("__debug__" : Str)) = false := by decide) (hst : NoStar (e :: es) := by exact ⟨fun _ => rfl, trivial⟩)
    (hpl : (backTo pos (starEach es X.env)).any (·.1) = false := by rfl) : CE ca X (.Call (.Name x p) (e :: es) [] pos) (eOp f os) :=
  ce_op (es := e :: es) (fun σ H Q h => we_of (pe_callTy hc hg hm hv (wa_pa X (e :: es)) hn hdb (hst.1 _) hpl) (wa_wl (fun e' r' q => noStar_suf hst e' r' q _) h)) ha hs
end

section
variable {ca : Nat → Addr} {K : PySem.W.Frag} {Hf H Hf1 H1 Hf2 H2 : Hp} {S S1 S2 P : Rg} {R R1 R2 : Nat → Rg} {pp qq : Prop} {σ σ' : L2.St} {st st' : Sl} {v : V} {d : D} {vs : List V} {ds : List D} {X : Cx} {L : List Nat}
/-! ### and, or, not, if -/
theorem less0 {P' : Rg} (t : Tr S Hf H (jn P' R1) Hf1 H1) : Tr S Hf H (jn Em R1) Hf1 H1 := t.less fun _ q => q.elim (fun q => q.elim) .inr
theorem rep_bl (r : Rep ca K Hf H S v (.bl b)) : v = .bl b := by cases r; rfl
theorem rep_int (r : Rep ca K Hf H S v (.int i)) : v = .int i := by cases r; rfl
theorem rep_str (r : Rep ca K Hf H S v (.str x)) : v = .str x := by cases r; rfl
theorem rep_non (r : Rep ca K Hf H S v .non) : v = .non := by cases r; rfl
theorem ce_and {a b : Expr} {ma mb : ME} {pos : Pos} (ha : CE ca X a ma) (hb : CE ca X b mb) : CE ca X (.BoolOp .And [a, b] pos) (eAnd ma mb) := fun Hf H R σ st Q p h => by
  refine we_of (pe_and (we_pe X a) (pe_one (we_pe X b))) ?_
  refine ha Hf H R σ st _ p ?_
  unfold eAnd at h
  cases e : ma st with
  | fail => rw [e] at h; exact h
  | exc x st1 => rw [e] at h; exact h
  | ok d st1 =>
    rw [e] at h
    intro Hf1 H1 P R1 v t1 p1
    cases d with
    | bl k =>
      cases k with
      | true => exact ⟨true, rep_bl p1.pend, hb Hf1 H1 R1 σ st1 Q p1.drop (Post.from (less0 t1) h)⟩
      | false => exact ⟨false, rep_bl p1.pend, h Hf1 H1 Em R1 (.bl false) (less0 t1) (p1.drop.put .bl)⟩
    | _ => exact h.elim
theorem ce_and' {a b c : Expr} {r : List Expr} {ma mb : ME} {pos : Pos} (ha : CE ca X a ma) (hb : CE ca X (.BoolOp .And (b :: c :: r) pos) mb) : CE ca X (.BoolOp .And (a :: b :: c :: r) pos) (eAnd ma mb) := fun Hf H R σ st Q p h => by
  refine we_of (pe_and (we_pe X a) (we_pe X _)) ?_
  refine ha Hf H R σ st _ p ?_
  unfold eAnd at h
  cases e : ma st with
  | fail => rw [e] at h; exact h
  | exc x st1 => rw [e] at h; exact h
  | ok d st1 =>
    rw [e] at h
    intro Hf1 H1 P R1 v t1 p1
    cases d with
    | bl k =>
      cases k with
      | true => exact ⟨true, rep_bl p1.pend, hb Hf1 H1 R1 σ st1 Q p1.drop (Post.from (less0 t1) h)⟩
      | false => exact ⟨false, rep_bl p1.pend, h Hf1 H1 Em R1 (.bl false) (less0 t1) (p1.drop.put .bl)⟩
    | _ => exact h.elim
theorem ce_not {a : Expr} {ma : ME} {pos : Pos} (ha : CE ca X a ma) : CE ca X (.UnaryOp .Not a pos) (eNot ma) := fun Hf H R σ st Q p h => by
  refine we_of (pe_not (we_pe X a)) ?_
  refine ha Hf H R σ st _ p ?_
  unfold eNot at h
  cases e : ma st with
  | fail => rw [e] at h; exact h
  | exc x st1 => rw [e] at h; exact h
  | ok d st1 =>
    rw [e] at h
    intro Hf1 H1 P R1 v t1 p1
    cases d with
    | bl k => exact ⟨k, rep_bl p1.pend, h Hf1 H1 Em R1 (.bl !k) (less0 t1) (p1.drop.put .bl)⟩
    | _ => exact h.elim
/-! ### tests -/
theorem ct_e {e : Expr} {m : ME} (hp : PT X e (tB (We X e))) (h : CE ca X e m) : CT ca X e (tE m) := fun Hf H R σ st Q p hq => by
  refine wt_of hp ?_
  refine h Hf H R σ st _ p ?_
  unfold tE at hq
  cases e : m st with
  | fail => rw [e] at hq; exact hq
  | exc x st1 => rw [e] at hq; exact hq
  | ok d st1 =>
    rw [e] at hq
    intro Hf1 H1 P R1 v t1 p1
    cases d with
    | bl k => exact ⟨k, rep_bl p1.pend, hq Hf1 H1 R1 (less0 t1) p1.drop⟩
    | _ => exact hq.elim
/-! ### a op1 b op2 c, of values without owned parts -/
theorem ce_chain {a b c : Expr} {ma mb mc : ME} {op op' : CmpOp} {r r' : L2.R2} {f g : D → D → Option D} {pos : Pos} (ho : OpR X (compareOp op) r) (ho' : OpR X (compareOp op') r')
    (hf : OpS ca X.K (rl2 r) (f2 f))
    (hg : OpS ca X.K (rl2 r') (f2 g))
    (ha : CE ca X a ma) (hb : CE ca X b mb) (hc : CE ca X c mc) (hm : lastMarks [op, op'] [b, c] = false := by with_unfolding_all rfl) :
    CE ca X (.Compare a [op, op'] [b, c] pos) (eChain f g ma mb mc) := fun Hf H R σ st Q p h => by
  refine we_of (pe_chain ho ho' (we_pe X a) (we_pe X b) (we_pe X c) hm) ?_
  refine ha Hf H R σ st _ p ?_
  unfold eChain at h
  cases e : ma st with
  | fail => rw [e] at h; exact h
  | exc x st1 => rw [e] at h; exact h
  | ok d st1 =>
    rw [e] at h
    intro Hf1 H1 P1 R1 v1 t1 p1
    refine hb Hf1 H1 R1 σ st1 _ p1.drop ?_
    have h1 := Post.from (less0 t1) h
    cases e2 : mb st1 with
    | fail => simp only [Res.bind, e2] at h1; exact h1
    | exc x st2 => simp only [Res.bind, e2] at h1; exact h1
    | ok d2 st2 =>
      simp only [Res.bind, e2] at h1
      intro Hf2 H2 P2 R2 v2 t2 p2
      have wP : Wl Hf1 H1 P1 := p1.w.mono fun b q => .inl q
      have bs := t2.beside wP fun b q1 q2 => q2.elim (fun q => q.elim) fun ⟨i, q⟩ => p1.dp i b q1 q
      have r1 := p1.pend.keep t2.fx bs.1
      cases e3 : f d d2 with
      | none => rw [e3] at h1; exact h1.elim
      | some k =>
        rw [e3] at h1
        refine hf Hf2 H2 [v1, v2] [d, d2] (.val k) _ p2.w.ex (.cons r1 (.cons p2.pend .nil)) (by simp [f2, e3]) ?_
        intro vk rk
        cases k with
        | bl kb =>
          refine ⟨kb, rep_bl rk, ?_⟩
          cases kb with
          | true =>
            show We X c σ H2 fun w' H4 => r' v2 w' H4 Q
            refine hc Hf2 H2 R2 σ st2 _ p2.drop ?_
            have h2 := Post.from (less0 t2) h1
            cases e4 : mc st2 with
            | fail => simp only [e4] at h2; exact h2
            | exc x st3 => simp only [e4] at h2; exact h2
            | ok d3 st3 =>
              simp only [e4] at h2
              intro Hf3 H3 P3 R3 v3 t3 p3
              have wP2 : Wl Hf2 H2 P2 := p2.w.mono fun b q => .inl q
              have bs2 := t3.beside wP2 fun b q1 q2 => q2.elim (fun q => q.elim) fun ⟨i, q⟩ => p2.dp i b q1 q
              have r2 := p2.pend.keep t3.fx bs2.1
              cases e5 : g d2 d3 with
              | none => rw [e5] at h2; exact h2.elim
              | some w3 =>
                rw [e5] at h2
                have h3 := Post.from (less0 t3) h2
                exact hg Hf3 H3 [v2, v3] [d2, d3] (.val w3) _ p3.w.ex (.cons r2 (.cons p3.pend .nil)) (by simp [f2, e5]) fun vk rk => post_val p3 h3 (fun b q => .inr q) rk
          | false =>
            show Q (.bl false) H2
            exact post_val p2 (Post.from (less0 t2) h1) (fun b q => .inr q) .bl
        | _ => exact h1.elim
end
end DL

/-! DL5: each operation by data is what the layer's rule says of the values. -/
namespace DL
open PySem L2 PyProof.Rows
section
variable {ca : Nat → Addr} {K : PySem.W.Frag} {Hf H Hf1 H1 Hf2 H2 : Hp} {S S1 S2 P : Rg} {v : V} {d : D} {vs : List V} {ds xs ys : List D} {X : Cx}

theorem rdl1 {ds : List D} (r : RdL ca K Hf H vs ds) : ∀ {d}, ds = [d] → ∃ v S, vs = [v] ∧ Rep ca K Hf H S v d := by
  intro d e; subst e
  cases r with
  | cons r1 r2 => cases r2; exact ⟨_, _, rfl, r1⟩
theorem rdl2 {ds : List D} (r : RdL ca K Hf H vs ds) : ∀ {d e}, ds = [d, e] → ∃ v w S S', vs = [v, w] ∧ Rep ca K Hf H S v d ∧ Rep ca K Hf H S' w e := by
  intro d e q; subst q
  cases r with
  | cons r1 r2 => cases r2 with
    | cons r3 r4 => cases r4; exact ⟨_, _, _, _, rfl, r1, r3⟩
/-- the items of what is read -/
theorem rep_items (hx : Ex Hf H) (r : Rep ca K Hf H S v d) (h : items d = some xs) : ∃ a vs T, v = .ref a ∧ (SqL K H a vs ∨ SqT K H a vs) ∧ RepL ca K Hf H T vs xs := by
  cases r with
  | lstF e r => cases h; exact ⟨_, _, Em, rfl, .inl (.inl (.inl (hx _ _ e))), r⟩
  | lstO s e r => cases h; exact ⟨_, _, _, rfl, .inl (.inl (.inl e)), r⟩
  | tup e r => cases h; exact ⟨_, _, Em, rfl, .inr (.inl (.inl (hx _ _ e))), r⟩
  | scr e =>
    cases h
    rename_i a0 ns0
    refine ⟨_, ns0.map V.int, Em, rfl, .inl ?_, ?_⟩
    · rcases e with e | e
      · refine .inl ?_
        rcases e with e | ⟨o, e⟩
        · exact .inl (hx _ _ e)
        · exact .inr ⟨o, hx _ _ e⟩
      · exact .inr e
    · clear e
      induction ns0 with
      | nil => exact .nil
      | cons n ns ih => exact .cons (S1 := Em) (S2 := Em) .int ih (fun _ q => q) (fun _ q => q) fun _ q _ => q
  | _ => cases h
theorem rep_lst {o : Bool} (hx : Ex Hf H) (r : Rep ca K Hf H S v (.lst o xs)) : ∃ a vs T, v = .ref a ∧ H a = some (.lst vs) ∧ RepL ca K Hf H T vs xs := by
  cases r with
  | lstF e r => exact ⟨_, _, Em, rfl, hx _ _ e, r⟩
  | lstO s e r => exact ⟨_, _, _, rfl, e, r⟩
theorem rep_tup (hx : Ex Hf H) (r : Rep ca K Hf H S v (.tup xs)) : ∃ a vs, v = .ref a ∧ H a = some (.tup vs) ∧ RepL ca K Hf H Em vs xs := by
  cases r with
  | tup e r => exact ⟨_, _, rfl, hx _ _ e, r⟩
theorem repL_mapInt : ∀ {S : Rg} (ns : List Int), RepL ca K Hf H S (ns.map V.int) (ns.map D.int)
  | _, [] => .nil
  | _, n :: ns => .cons (S1 := Em) (S2 := Em) .int (repL_mapInt ns) (fun _ q => q.elim) (fun _ q => q.elim) fun _ q _ => q
theorem rep_lstItems (hx : Ex Hf H) (r : Rep ca K Hf H S v d) (h : lstItems d = some xs) : ∃ a vs T, v = .ref a ∧ SqL K H a vs ∧ RepL ca K Hf H T vs xs := by
  cases r with
  | lstF e r => cases h; exact ⟨_, _, Em, rfl, .inl (.inl (hx _ _ e)), r⟩
  | lstO s e r => cases h; exact ⟨_, _, _, rfl, .inl (.inl e), r⟩
  | scr e =>
    cases h
    rename_i a0 ns0
    refine ⟨a0, ns0.map V.int, Em, rfl, ?_, repL_mapInt ns0⟩
    rcases e with e | e
    · refine .inl ?_
      rcases e with e | ⟨o, e⟩
      · exact .inl (hx _ _ e)
      · exact .inr ⟨o, hx _ _ e⟩
    · exact .inr e
  | _ => cases h
theorem repL_cold0 (r : RepL ca K Hf H S vs ds) : colds ds = true → RepL ca K Hf H Em vs ds := by
  induction ds generalizing vs S with
  | nil => intro _; cases r; exact .nil
  | cons d ds ih =>
    intro h
    cases r with
    | cons r1 r2 h1 h2 h3 =>
      rw [colds, List.all_cons, Bool.and_eq_true] at h
      have hc : hot d = false := by have := h.1; unfold cold at this; simpa using this
      exact .cons (S1 := Em) (S2 := Em) (r1.cold hc) (ih r2 h.2) (fun _ q => q.elim) (fun _ q => q.elim) fun _ q => q.elim
theorem repL_cold (r : RepL ca K Hf H S vs ds) (h : colds ds = true) : RepL ca K Hf H S1 vs ds := (repL_cold0 r h).mono fun _ q => q.elim
theorem repL_app0 (r : RepL ca K Hf H S vs xs) : ∀ {ws : List V} {S2 : Rg}, RepL ca K Hf H S2 ws ys → colds xs = true → colds ys = true → RepL ca K Hf H Em (vs ++ ws) (xs ++ ys) := by
  induction xs generalizing vs S with
  | nil => intro ws S2 r2 _ h; cases r; exact repL_cold r2 h
  | cons d ds ih =>
    intro ws S2 q h h'
    cases r with
    | cons r1 r2 h1 h2 h3 =>
      rw [colds, List.all_cons, Bool.and_eq_true] at h
      have hc : hot d = false := by have := h.1; unfold cold at this; simpa using this
      exact .cons (S1 := Em) (S2 := Em) (r1.cold hc) (ih r2 q h.2 h') (fun _ q => q.elim) (fun _ q => q.elim) fun _ q => q.elim
theorem repL_app (r : RepL ca K Hf H S vs xs) {ws : List V} {S2 : Rg} (r2 : RepL ca K Hf H S2 ws ys) (h : colds xs = true) (h2 : colds ys = true) : RepL ca K Hf H S1 (vs ++ ws) (xs ++ ys) := (repL_app0 r r2 h h2).mono fun _ q => q.elim
theorem repL_at (r : RepL ca K Hf H S vs xs) : ∀ {i : Nat} {d : D}, xs[i]? = some d → ∃ v T, vs[i]? = some v ∧ Rep ca K Hf H T v d ∧ (∀ b, T b → S b) := by
  induction xs generalizing vs S with
  | nil => intro i d h; simp at h
  | cons x xs ih =>
    intro i d h
    cases r with
    | cons r1 r2 h1 h2 h3 =>
      cases i with
      | zero => simp at h; subst h; exact ⟨_, _, rfl, r1, h1⟩
      | succ i =>
        obtain ⟨v, T, e, q, z⟩ := ih r2 (i := i) (d := d) (by simpa using h)
        exact ⟨v, T, by simpa using e, q, fun b y => h2 b (z b y)⟩
theorem repL_ints : ∀ {xs : List D} {vs : List V} {S : Rg} {ns : List Int}, RepL ca K Hf H S vs xs → asInts xs = some ns → vs = ns.map V.int
  | [], _, _, _, r, h => by cases r; cases h; rfl
  | d :: xs, _, _, ns, .cons r1 r2 _ _ _, h => by
    cases d with
    | int i =>
      rw [asInts] at h
      cases e : asInts xs with
      | none =>
        rw [e] at h
        cases h
      | some ns' =>
        rw [e] at h
        cases h
        rw [repL_ints r2 e, rep_int r1]
        rfl
    | _ => simp [asInts] at h
/-! ### arithmetic -/
theorem os_sub : OpS ca K (rl2 (rI0 fun i j => .int (i - j))) oSub := fun Hf H vs ds o Q hx rd h q => by
  match ds, h with
  | [.int i, .int j], h =>
    cases h
    obtain ⟨v, w, S, S', e1, r1, r2⟩ := rdl2 rd rfl
    subst e1
    exact ⟨i, j, rep_int r1, rep_int r2, q _ .int⟩
theorem os_div : OpS ca K (rl2 (rI CDivW fun i j => .int (i / j))) oDiv := fun Hf H vs ds o Q hx rd h q => by
  match ds, h with
  | [.int i, .int j], h =>
    rw [oDiv] at h
    split at h
    · rename_i c
      cases h
      obtain ⟨v, w, S, S', e1, r1, r2⟩ := rdl2 rd rfl
      subst e1
      exact ⟨i, j, rep_int r1, rep_int r2, c, q _ .int⟩
    · cases h
theorem os_mod : OpS ca K (rl2 (rI (fun _ j => 0 < j) fun i j => .int (i % j))) oMod := fun Hf H vs ds o Q hx rd h q => by
  match ds, h with
  | [.int i, .int j], h =>
    rw [oMod] at h
    split at h
    · rename_i c
      cases h
      obtain ⟨v, w, S, S', e1, r1, r2⟩ := rdl2 rd rfl
      subst e1
      exact ⟨i, j, rep_int r1, rep_int r2, c, q _ .int⟩
    · cases h
theorem os_pow : OpS ca K (rl2 (rI CPow fun i j => .int (i ^ j.toNat))) oPow := fun Hf H vs ds o Q hx rd h q => by
  match ds, h with
  | [.int i, .int j], h =>
    rw [oPow] at h
    split at h
    · rename_i c
      cases h
      obtain ⟨v, w, S, S', e1, r1, r2⟩ := rdl2 rd rfl
      subst e1
      exact ⟨i, j, rep_int r1, rep_int r2, c, q _ .int⟩
    · cases h
theorem os_neg : OpS ca K (rl1 (rU fun i => .int (-i))) oNeg := fun Hf H vs ds o Q hx rd h q => by
  match ds, h with
  | [.int i], h =>
    cases h
    obtain ⟨v, S, e1, r1⟩ := rdl1 rd rfl
    subst e1
    exact ⟨i, rep_int r1, q _ .int⟩
theorem f2_some {p : D → D → Option D} {ds : List D} {o : Out} (h : f2 p ds = some o) : ∃ x y z, ds = [x, y] ∧ p x y = some z ∧ o = .val z := by
  match ds, h with
  | [x, y], h =>
    dsimp only [f2] at h
    cases e : p x y with
    | none =>
      rw [e] at h
      cases h
    | some z => rw [e] at h; cases h; exact ⟨x, y, z, rfl, e, rfl⟩
  | [], h => cases h
  | [_], h => cases h
  | _ :: _ :: _ :: _, h =>
      cases h
theorem os_lt : OpS ca K (rl2 (rI0 fun i j => .bl (decide (i < j)))) (f2 pLt) := fun Hf H vs ds o Q hx rd h q => by
  obtain ⟨x, y, z, rfl, h1, rfl⟩ := f2_some h
  obtain ⟨v, w, S, S', e1, r1, r2⟩ := rdl2 rd rfl
  subst e1
  cases x <;> try (cases h1; done)
  cases y <;> try (cases h1; done)
  cases h1
  exact ⟨_, _, rep_int r1, rep_int r2, q _ .bl⟩
theorem os_le : OpS ca K (rl2 (rI0 fun i j => .bl (decide (i ≤ j)))) (f2 pLe) := fun Hf H vs ds o Q hx rd h q => by
  obtain ⟨x, y, z, rfl, h1, rfl⟩ := f2_some h
  obtain ⟨v, w, S, S', e1, r1, r2⟩ := rdl2 rd rfl
  subst e1
  cases x <;> try (cases h1; done)
  cases y <;> try (cases h1; done)
  cases h1
  exact ⟨_, _, rep_int r1, rep_int r2, q _ .bl⟩
theorem os_gt : OpS ca K (rl2 (rI0 fun i j => .bl (decide (j < i)))) (f2 pGt) := fun Hf H vs ds o Q hx rd h q => by
  obtain ⟨x, y, z, rfl, h1, rfl⟩ := f2_some h
  obtain ⟨v, w, S, S', e1, r1, r2⟩ := rdl2 rd rfl
  subst e1
  cases x <;> try (cases h1; done)
  cases y <;> try (cases h1; done)
  cases h1
  exact ⟨_, _, rep_int r1, rep_int r2, q _ .bl⟩
theorem os_ge : OpS ca K (rl2 (rI0 fun i j => .bl (decide (j ≤ i)))) (f2 pGe) := fun Hf H vs ds o Q hx rd h q => by
  obtain ⟨x, y, z, rfl, h1, rfl⟩ := f2_some h
  obtain ⟨v, w, S, S', e1, r1, r2⟩ := rdl2 rd rfl
  subst e1
  cases x <;> try (cases h1; done)
  cases y <;> try (cases h1; done)
  cases h1
  exact ⟨_, _, rep_int r1, rep_int r2, q _ .bl⟩
/-! ### + and * of several kinds -/
def rAddA : L2.R2 := fun x y H Q => rI0 (fun i j => .int (i + j)) x y H Q ∨ rCat x y H Q ∨ (∃ i j, x = .str i ∧ y = .str j ∧ i.length + j.length ≤ sizeLine ∧ Q (.str (i ++ j)) H)
theorem op_addA : OpR X (binaryOp .Add) rAddA := OpR.or op_add (OpR.or op_cat op_add_str)
theorem sz_eq : (16777216 : Nat) = sizeLine := by rw [sizeLine_eq]
theorem newLc_some {xs : List D} {o : Out} (h : newLc xs = some o) : o = .newL xs ∧ colds xs = true ∧ xs.length ≤ sizeLine := by
  unfold newLc at h
  split at h
  · rename_i c
    rw [Bool.and_eq_true, decide_eq_true_eq] at c
    cases h
    exact ⟨rfl, c.1, by rw [← sz_eq]; exact c.2⟩
  · cases h
theorem os_add : OpS ca K (rl2 rAddA) oAdd := fun Hf H vs ds o Q hx rd h q => by
  match ds, h with
  | [.int i, .int j], h =>
    cases h
    obtain ⟨v, w, S, S', e1, r1, r2⟩ := rdl2 rd rfl
    subst e1
    exact .inl ⟨i, j, rep_int r1, rep_int r2, q _ .int⟩
  | [.lst o1 xs, .lst o2 ys], h =>
    obtain ⟨v, w, S, S', e1, r1, r2⟩ := rdl2 rd rfl
    subst e1
    obtain ⟨rfl, hc, hl⟩ := newLc_some h
    obtain ⟨a, vs, T, rfl, e2, r3⟩ := rep_lst hx r1
    obtain ⟨b, ws, T', rfl, e4, r4⟩ := rep_lst hx r2
    have hc' : colds xs = true ∧ colds ys = true := by
      unfold colds at hc ⊢
      rw [List.all_append, Bool.and_eq_true] at hc; exact hc
    refine .inr (.inl ⟨a, b, vs, ws, rfl, rfl, e2, e4, ?_, fun p hp => q p _ hp (repL_app r3 r4 hc'.1 hc'.2)⟩)
    rw [r3.length, r4.length]
    rw [List.length_append] at hl; exact hl
  | [.str x, .str y], h =>
    rw [oAdd] at h
    split at h
    · rename_i c
      cases h
      obtain ⟨v, w, S, S', e1, r1, r2⟩ := rdl2 rd rfl
      subst e1
      exact .inr (.inr ⟨x, y, rep_str r1, rep_str r2, by rw [← sz_eq]; exact c, q _ .str⟩)
    · cases h
def rMulA : L2.R2 := fun x y H Q => rI CMul (fun i j => .int (i * j)) x y H Q ∨ rRep x y H Q
theorem op_mulA : OpR X (binaryOp .Mult) rMulA := OpR.or op_mul op_rep
theorem repL_rep (r : RepL ca K Hf H S vs xs) (hc : colds xs = true) : ∀ k : Nat, RepL ca K Hf H S1 (List.replicate k vs).flatten (List.replicate k xs).flatten ∧ colds (List.replicate k xs).flatten = true
  | 0 => ⟨.nil, rfl⟩
  | k + 1 => by
    obtain ⟨h1, h2⟩ := repL_rep r hc k
    rw [List.replicate_succ, List.replicate_succ,
        List.flatten_cons, List.flatten_cons]
    refine ⟨repL_app r h1 hc h2, ?_⟩
    unfold colds at h2 hc ⊢
    rw [List.all_append, Bool.and_eq_true]; exact ⟨hc, h2⟩
theorem os_mul : OpS ca K (rl2 rMulA) oMul := fun Hf H vs ds o Q hx rd h q => by
  match ds, h with
  | [.int i, .int j], h =>
    rw [oMul] at h
    split at h
    · rename_i c
      cases h
      obtain ⟨v, w, S, S', e1, r1, r2⟩ := rdl2 rd rfl
      subst e1
      exact .inl ⟨i, j, rep_int r1, rep_int r2, c, q _ .int⟩
    · cases h
  | [.lst o1 xs, .int k], h =>
    rw [oMul] at h
    split at h
    · rename_i c
      rw [Bool.and_eq_true, decide_eq_true_eq] at c
      cases h
      obtain ⟨v, w, S, S', e1, r1, r2⟩ := rdl2 rd rfl
      subst e1
      obtain ⟨a, vs, T, rfl, e2, r3⟩ := rep_lst hx r1
      refine .inr ⟨a, k, vs, rfl, rep_int r2, e2, c.2.1, c.2.2.1, ?_, fun p hp => q p _ hp (repL_rep r3 c.1 _).1⟩
      rw [r3.length, ← sz_eq]; exact c.2.2.2
    · cases h
/-! ### ==, != at any depth; is None; in -/
theorem dpAll_ints : ∀ ns : List Int, DpAll K H (ns.map V.int) (ns.map PyData.int)
  | [] => .nil
  | n :: ns => .cons (.int n) (dpAll_ints ns)
mutual
theorem rep_dp (hx : Ex Hf H) : ∀ {S : Rg} {v : V} {d : D}, Rep ca K Hf H S v d → (toPy d).canLay0 = true → Dp K H v (toPy d)
  | _, _, _, .non, _ => by rw [toPy]; exact .non
  | _, _, _, .bl, _ => by rw [toPy]; exact .bl _
  | _, _, _, .int, _ => by rw [toPy]; exact .int _
  | _, _, _, .str, _ => by rw [toPy]; exact .str _
  | _, _, _, .scr (xs := ns) h, _ => by
      rw [toPy]
      refine .lst (xs := ns.map V.int) ?_ ?_
      · rcases h with h | h
        · refine .inl ?_
          rcases h with h | ⟨o, h⟩
          · exact .inl (hx _ _ h)
          · exact .inr ⟨o, hx _ _ h⟩
        · exact .inr h
      · exact dpAll_ints ns
  | _, _, _, .cls, h => by rw [toPy] at h; exact absurd h (by decide)
  | _, _, _, .ty, h => by rw [toPy] at h; exact absurd h (by decide)
  | _, _, _, .lstF e r, h => by
      rw [toPy] at h ⊢
      rw [PySem.PyData.canLay0] at h
      exact .lst (.inl (.inl (hx _ _ e))) (repL_dp hx r h)
  | _, _, _, .lstO s e r, h => by
      rw [toPy] at h ⊢
      rw [PySem.PyData.canLay0] at h
      exact .lst (.inl (.inl e)) (repL_dp hx r h)
  | _, _, _, .tup e r, h => by
      rw [toPy] at h ⊢
      rw [PySem.PyData.canLay0] at h
      exact .tup (.inl (.inl (hx _ _ e))) (repL_dp hx r h)
  | _, _, _, .insF _ _ _, h => by rw [toPy] at h; exact absurd h (by decide)
  | _, _, _, .insO _ _ _ _, h => by rw [toPy] at h; exact absurd h (by decide)
  | _, _, _, .dicF _ _ _, h => by rw [toPy] at h; exact absurd h (by decide)
  | _, _, _, .dicO _ _ _ _, h => by rw [toPy] at h; exact absurd h (by decide)
  | _, _, _, .dctF _ _ _, h => by rw [toPy] at h; exact absurd h (by decide)
  | _, _, _, .dctO _ _ _ _, h => by rw [toPy] at h; exact absurd h (by decide)
theorem repL_dp (hx : Ex Hf H) : ∀ {S : Rg} {vs : List V} {ds : List D}, RepL ca K Hf H S vs ds → PySem.PyData.canLayAll0 (toPyL ds) = true → DpAll K H vs (toPyL ds)
  | _, _, _, .nil, _ => by rw [toPyL]; exact .nil
  | _, _, _, .cons r1 r2 _ _ _, h => by
      rw [toPyL] at h ⊢
      rw [PySem.PyData.canLayAll0, Bool.and_eq_true] at h
      exact .cons (rep_dp hx r1 h.1) (repL_dp hx r2 h.2)
end
theorem shaped_lay {p : PySem.PyData} (h : PySem.SeqAt.shaped p = true) : p.canLay0 = true := by
  unfold PySem.SeqAt.shaped at h
  rw [Bool.and_eq_true] at h; exact h.1
theorem os_eq : OpS ca K (rl2 (rEqD K)) (f2 pEq) := fun Hf H vs ds o Q hx rd h q => by
  obtain ⟨x, y, z, rfl, h1, rfl⟩ := f2_some h
  unfold pEq at h1
  split at h1
  · rename_i c
    rw [Bool.and_eq_true] at c
    cases h1
    obtain ⟨v, w, S, S', e1, r1, r2⟩ := rdl2 rd rfl
    subst e1
    exact ⟨_, _, rep_dp hx r1 (shaped_lay c.1), rep_dp hx r2 (shaped_lay c.2), c.1, c.2, q _ .bl⟩
  · cases h1
theorem os_ne : OpS ca K (rl2 (rNeD K)) (f2 pNe) := fun Hf H vs ds o Q hx rd h q => by
  obtain ⟨x, y, z, rfl, h1, rfl⟩ := f2_some h
  unfold pNe at h1
  split at h1
  · rename_i c
    rw [Bool.and_eq_true] at c
    cases h1
    obtain ⟨v, w, S, S', e1, r1, r2⟩ := rdl2 rd rfl
    subst e1
    exact ⟨_, _, rep_dp hx r1 (shaped_lay c.1), rep_dp hx r2 (shaped_lay c.2), c.1, c.2, q _ .bl⟩
  · cases h1
theorem rep_flat (r : Rep ca K Hf H S v d) (h : flat d = true) : flatV v = true := by cases r <;> first | rfl | cases h
theorem repL_flat : ∀ {ds : List D} {vs : List V} {S : Rg}, RepL ca K Hf H S vs ds → ds.all flat = true → vs.all flatV = true
  | [], _, _, r, _ => by cases r; rfl
  | d :: ds, _, _, .cons r1 r2 _ _ _, h => by
    rw [List.all_cons, Bool.and_eq_true] at h ⊢
    exact ⟨rep_flat r1 h.1, repL_flat r2 h.2⟩
theorem rep_eqF {w : V} {e : D} (r : Rep ca K Hf H S v d) (r2 : Rep ca K Hf H S1 w e) (h : flat d = true) (h2 : flat e = true) : eqV v w = eqF d e := by
  cases r <;> first | (cases h; done) | (cases r2 <;> first | (cases h2; done) | rfl)
theorem repL_eqF {w : V} {e : D} (r2 : Rep ca K Hf H S1 w e) (h2 : flat e = true) : ∀ {ds : List D} {vs : List V} {S : Rg}, RepL ca K Hf H S vs ds → ds.all flat = true → (vs.any fun y => eqV y w) = ds.any fun z => eqF z e
  | [], _, _, r, _ => by cases r; rfl
  | d :: ds, _, _, .cons r1 r3 _ _ _, h => by
    rw [List.all_cons,
        Bool.and_eq_true] at h
    rw [List.any_cons, List.any_cons, rep_eqF r1 r2 h.1 h2, repL_eqF r2 h2 r3 h.2]
theorem os_in {neg : Bool} : OpS ca K (rl2 (rIn K neg)) (oIn neg) := fun Hf H vs ds o Q hx rd h q => by
  match ds, h with
  | [x, y], h =>
    dsimp only [oIn] at h
    split at h
    · rename_i ys ei
      split at h
      · rename_i c
        rw [Bool.and_eq_true] at c
        cases h
        obtain ⟨v, w, S, S', e1, r1, r2⟩ := rdl2 rd rfl
        subst e1
        obtain ⟨a, vs, T, rfl, e2, r3⟩ := rep_items hx r2 ei
        refine ⟨a, vs, rfl, e2, rep_flat r1 c.1, repL_flat r3 c.2, ?_⟩
        have e : inV v vs = ys.any fun z => eqF z x := repL_eqF r1 c.1 r3 c.2
        rw [e]
        exact q _ .bl
      · cases h
    · cases h
/-! ### subscripts, len, built-ins -/
def rIxA (K : PySem.W.Frag) : L2.R2 := fun x y H Q => rIxL K x y H Q ∨ rIxT K x y H Q
theorem ix_A : IxR X (rIxA X.K) := IxR.or ix_list ix_tup
theorem atI_rep {i : Int} (r : RepL ca K Hf H S vs xs) (h : atI xs i = some d) : ∃ v T, atI vs i = some v ∧ Rep ca K Hf H T v d := by
  obtain ⟨j, h1, h2, h3, h4, h5⟩ := atI_get h
  unfold atI at h ⊢
  rw [← r.length] at h
  cases e : ixN vs.length i with
  | none =>
    rw [e] at h
    cases h
  | some k =>
    rw [e] at h
    obtain ⟨v, T, e2, r2, _⟩ := repL_at r (i := k) (d := d) h
    exact ⟨v, T, e2, r2⟩
theorem os_ix : OpS ca K (rl2 (rIxA K)) oIx := fun Hf H vs ds o Q hx rd h q => by
  match ds, h with
  | [x, .int i], h =>
    dsimp only [oIx] at h
    split at h
    · rename_i xs ei
      split at h
      · rename_i dd ea
        split at h
        · rename_i hc
          cases h
          obtain ⟨v, w, S, S', e1, r1, r2⟩ := rdl2 rd rfl
          subst e1
          obtain ⟨a, vs, T, rfl, e2, r3⟩ := rep_items hx r1 ei
          obtain ⟨v', T', e3, r4⟩ := atI_rep r3 ea
          have hc' : hot dd = false := by unfold cold at hc; simpa using hc
          have q' := q v' (r4.cold hc')
          rcases e2 with e2 | e2
          · exact .inl ⟨a, vs, i, v', rfl, rep_int r2, e2, e3, q'⟩
          · exact .inr ⟨a, vs, i, v', rfl, rep_int r2, e2, e3, q'⟩
        · cases h
      · cases h
    · cases h
theorem os_len : OpS ca K (fun xs H Q => ∃ p ys, xs = [.ref p] ∧ (SqL K H p ys ∨ SqT K H p ys) ∧ Q (.int ys.length) H) oLen := fun Hf H vs ds o Q hx rd h q => by
  match ds, h with
  | [x], h =>
    dsimp only [oLen] at h
    cases ei : items x with
    | none => rw [ei] at h; cases h
    | some xs =>
      rw [ei] at h
      cases h
      obtain ⟨v, S, e1, r1⟩ := rdl1 rd rfl
      subst e1
      obtain ⟨a, vs, T, rfl, e2, r3⟩ := rep_items hx r1 ei
      refine ⟨a, vs, rfl, e2, ?_⟩
      rw [r3.length]
      exact q _ .int
theorem os_abs : OpS ca K (fun xs H Q => ∃ i, xs = [.int i] ∧ Q (.int (if i < 0 then -i else i)) H) oAbs := fun Hf H vs ds o Q hx rd h q => by
  match ds, h with
  | [.int i], h =>
    cases h
    obtain ⟨v, S, e1, r1⟩ := rdl1 rd rfl
    subst e1
    rw [rep_int r1]
    exact ⟨i, rfl, q _ .int⟩
theorem os_max2 : OpS ca K (fun xs H Q => ∃ i j, xs = [.int i, .int j] ∧ Q (.int (if j > i then j else i)) H) oMax2 := fun Hf H vs ds o Q hx rd h q => by
  match ds, h with
  | [.int i, .int j], h =>
    cases h
    obtain ⟨v, w, S, S', e1, r1, r2⟩ := rdl2 rd rfl
    subst e1
    rw [rep_int r1, rep_int r2]
    exact ⟨i, j, rfl, q _ .int⟩
theorem os_min2 : OpS ca K (fun xs H Q => ∃ i j, xs = [.int i, .int j] ∧ Q (.int (if j < i then j else i)) H) oMin2 := fun Hf H vs ds o Q hx rd h q => by
  match ds, h with
  | [.int i, .int j], h =>
    cases h
    obtain ⟨v, w, S, S', e1, r1, r2⟩ := rdl2 rd rfl
    subst e1
    rw [rep_int r1, rep_int r2]
    exact ⟨i, j, rfl, q _ .int⟩
theorem os_int : OpS ca K (fun xs H Q => (∃ i, xs = [.int i] ∧ Q (.int i) H) ∨ ∃ k, xs = [.bl k] ∧ Q (.int (if k then 1 else 0)) H) oInt := fun Hf H vs ds o Q hx rd h q => by
  match ds, h with
  | [.int i], h =>
    cases h
    obtain ⟨v, S, e1, r1⟩ := rdl1 rd rfl
    subst e1
    rw [rep_int r1]
    exact .inl ⟨i, rfl, q _ .int⟩
  | [.bl i], h =>
    cases h
    obtain ⟨v, S, e1, r1⟩ := rdl1 rd rfl
    subst e1
    rw [rep_bl r1]
    exact .inr ⟨i, rfl, q _ .int⟩
theorem os_sum : OpS ca K (rSum K) oSum := fun Hf H vs ds o Q hx rd h q => by
  match ds, h with
  | [x], h =>
    dsimp only [oSum] at h
    cases ei : lstItems x with
    | none => rw [ei] at h; cases h
    | some xs =>
      rw [ei] at h
      cases en : asInts xs with
      | none => simp [en] at h
      | some ns =>
        simp only [Option.bind_some, en, Option.map_some, Option.some.injEq] at h
        subst h
        obtain ⟨v, S, e1, r1⟩ := rdl1 rd rfl
        subst e1
        obtain ⟨a, vs, T, rfl, e2, r3⟩ := rep_lstItems hx r1 ei
        rw [repL_ints r3 en] at e2
        exact ⟨a, ns, rfl, e2, q _ .int⟩
theorem os_list : OpS ca K (fun xs H Q => ∃ p ys, xs = [.ref p] ∧ (SqL K H p ys ∨ SqT K H p ys) ∧ ∀ l, H l = none → Q (.ref l) (upd H l (.lst ys))) oList := fun Hf H vs ds o Q hx rd h q => by
  match ds, h with
  | [x], h =>
    dsimp only [oList] at h
    split at h
    · rename_i xs ei
      obtain ⟨rfl, hc, hl⟩ := newLc_some h
      obtain ⟨v, S, e1, r1⟩ := rdl1 rd rfl
      subst e1
      obtain ⟨a, vs, T, rfl, e2, r3⟩ := rep_items hx r1 ei
      exact ⟨a, vs, rfl, e2, fun l hl => q l vs hl (repL_cold r3 hc)⟩
    · cases h
theorem os_tuple : OpS ca K (fun xs H Q => ∃ p ys, xs = [.ref p] ∧ ((SqL K H p ys ∧ ∀ l, H l = none → Q (.ref l) (upd H l (.tup ys))) ∨ (SqT K H p ys ∧ Q (.ref p) H))) oTuple := fun Hf H vs ds o Q hx rd h q => by
  match ds, h with
  | [.lst o xs], h =>
    dsimp only [oTuple] at h
    split at h
    · rename_i c
      rw [Bool.and_eq_true] at c
      cases h
      obtain ⟨v, S, e1, r1⟩ := rdl1 rd rfl
      subst e1
      obtain ⟨a, vs, T, rfl, e2, r3⟩ := rep_lst hx r1
      exact ⟨a, vs, rfl, .inl ⟨.inl (.inl e2), fun l hl => q l vs hl (repL_cold r3 c.1)⟩⟩
    · cases h
  | [.tup xs], h =>
    cases h
    obtain ⟨v, S, e1, r1⟩ := rdl1 rd rfl
    subst e1
    have r1' := r1.cold (S' := Em) rfl
    obtain ⟨a, vs, rfl, e2, r3⟩ := rep_tup hx r1
    exact ⟨a, vs, rfl, .inr ⟨.inl (.inl e2), q _ r1'⟩⟩
/-! ### isinstance with a built-in type -/
theorem rep_ty (hx : Ex Hf H) {n : String} (r : Rep ca K Hf H S v d) (h : tyName d = some n) (hs : ∀ xs, d ≠ .scr xs) : TyX K H v (.type n) := by
  cases r with
  | non => cases h; exact .base .non
  | bl => cases h; exact .base (.bl _)
  | int => cases h; exact .base (.int _)
  | str => cases h; exact .base (.str _)
  | scr e => exact absurd rfl (hs _)
  | cls => cases h
  | ty => cases h
  | lstF e r => cases h; exact .base (.lst (hx _ _ e))
  | lstO s e r => cases h; exact .base (.lst e)
  | tup e r => cases h; exact .base (.tup (hx _ _ e))
  | insF _ _ _ => cases h
  | insO _ _ _ _ => cases h
  | dicF e _ _ => cases h; exact .base (.dK (hx _ _ e))
  | dicO s e _ _ => cases h; exact .base (.dK e)
  | dctF _ _ _ => cases h
  | dctO _ _ _ _ => cases h
  | xc _ _ _ _ => cases h
end
end DL

/-! DL6: targets, statements, loops. -/
namespace DL
open PySem L2 PyProof.Rows

/-! ### more pure meanings -/
/-- several targets of a tuple -/
def gTupM : List MG → List D → Sl → Res Unit
  | [], [], st => .ok () st
  | g :: gs, d :: ds, st => (g d st).bind fun _ st1 => gTupM gs ds st1
  | _, _, _ => .fail
def gT (gs : List MG) : MG := fun d st => match d with
  | .tup ds => gTupM gs ds st
  | _ => .fail
/-- xs[i] = d, xs the slot i0's own list -/
def gIx (i0 : Nat) (mi : ME) : MG := fun d st => if cold d && (getS st i0).isSome then (mi st).bind fun k st1 => (match k with
  | .int k => match getS st1 i0 with
    | some (.lst true xs) => match L2.ixN xs.length k with
      | some j => .ok () (st1.set i0 (some (.lst true (xs.set j d))))
      | none => .fail
    | _ => .fail
  | _ => .fail) else .fail
def sPar (i j : Nat) (ms : MA) : MS := fun st => (ms st).toS fun ds st1 => match ds with
  | [x, y] => .next ((st1.set i (some x)).set j (some y))
  | _ => .fail
/-- x op= e at a slot that holds no owned thing -/
def sAug (i : Nat) (f : List D → Option Out) (m : ME) : MS := fun st => match getS st i with
  | some x => if cold x then (m st).toS fun y st1 => (match f [x, y] with
    | some (.val z) => .next (st1.set i (some z))
    | _ => .fail) else .fail
  | none => .fail
/-- a for -/
def sFor (src : Sl → Res (List D)) (g : MG) (body : MS) : MS := fun st => (src st).toS fun ds st1 => forD g body ds st1
/-- what is walked -/
def iE (m : ME) (p : D → Option (List D)) : Sl → Res (List D) := fun st => (m st).bind fun d st1 => match p d with
  | some ds => if colds ds then .ok ds st1 else .fail
  | none => .fail
def rangeD (lo : Int) (n : Nat) : List D := (List.range n).map fun i => D.int (lo + (i : Nat))
def rangeC (lo : Int) (c : Int) (n : Nat) : List D := (List.range n).map fun i => D.int (lo + (i : Nat) * c)
def small62 (i : Int) : Bool := decide (-(2 ^ 62) ≤ i ∧ i < 2 ^ 62)
section
variable {ca : Nat → Addr} {K : PySem.W.Frag} {Hf H Hf1 H1 Hf2 H2 : Hp} {S S1 S2 P : Rg} {R R1 R2 : Nat → Rg} {pp qq : Prop} {σ σ' : L2.St} {st st' : Sl} {v : V} {d : D} {vs : List V} {ds : List D} {X : Cx} {L : List Nat}

theorem Lk.set {i : Nat} {o : Option V} (h : i ∉ L) : Lk L σ (σ.set i o) := ⟨List.length_set, fun j hj => by
  rw [List.getElem?_set_ne (fun e => h (by rw [e]; exact hj))]⟩

/-! ### targets -/
/-- the pending value goes to the slot i -/
theorem PR.store (i : Nat) (p : PR ca K Hf H P (Rep ca K Hf H P v d) R σ st) : PR ca K Hf H Em True (fun j b => if j = i then P b else R j b) (σ.set i (some v)) (st.set i (some d)) where
  pend := trivial
  len := by rw [List.length_set, List.length_set]; exact p.len
  at_ := fun j d' e => by
    rcases set_get e with ⟨q1, q2⟩ | ⟨q1, q2⟩
    · subst q1
      cases q2
      have := getS_lt e
      rw [List.length_set, p.len] at this
      exact ⟨v, by simp [this], by simpa using p.pend⟩
    · obtain ⟨v', e2, r⟩ := p.at_ j d' q2
      refine ⟨v', by rw [List.getElem?_set_ne q1]; exact e2, ?_⟩
      rw [show (fun b => if j = i then P b else R j b) = R j from by funext b; rw [if_neg (Ne.symm q1)]]
      exact r
  dj := fun j k b h1 h2 => by
    split at h1 <;> split at h2
    · rename_i a c; exact a.trans c.symm
    · exact (p.dp k b h1 h2).elim
    · exact (p.dp j b h2 h1).elim
    · exact p.dj j k b h1 h2
  dp := fun _ _ q => q.elim
  w := p.w.mono fun b q => by
    rcases q with q | ⟨j, q⟩
    · exact q.elim
    · split at q
      · exact .inl q
      · exact .inr ⟨j, q⟩
theorem store_tr (i : Nat) : Tr (jn P R) Hf H (jn Em fun j b => if j = i then P b else R j b) Hf H := Tr.refl fun b q => by
  rcases q with q | ⟨j, q⟩
  · exact q.elim
  · split at q
    · exact .inl q
    · exact .inr ⟨j, q⟩
theorem cg_name {e : Expr} {i : Nat} (hg : PG X e (gName i)) (hi : i ∉ L) : CG ca X L e (gName i) (gN i) :=
  ⟨hg, fun Hf H P R σ st v d Q p h => h Hf H _ _ (store_tr i) (p.store i) (Lk.set hi)⟩
def CGs (ca : Nat → Addr) (X : Cx) (L : List Nat) (es : List Expr) (t : TGs) (gs : List MG) : Prop := PGs X es t ∧ ∀ (ds : List D) (Hf H : Hp) (R : Nat → Rg) (σ : L2.St) (st : Sl) (vs : List V) (Q : L2.St → Hp → Prop), PR ca X.K Hf H Em (RepL ca X.K Hf H Em vs ds) R σ st →
  (match gTupM gs ds st with
    | .ok _ st' => ∀ Hf' H' R' σ', Tr (jn Em R) Hf H (jn Em R') Hf' H' → PR ca X.K Hf' H' Em True R' σ' st' → Lk L σ σ' → Q σ' H'
    | _ => False) → t vs σ H Q
theorem cgs_nil : CGs ca X L [] gNil [] := ⟨pgs_nil, fun ds Hf H R σ st vs Q p h => by
  cases ds with
  | nil =>
    have r := p.pend
    cases r
    exact ⟨rfl, h Hf H R σ (Tr.refl fun _ q => q) p.drop (Lk.refl)⟩
  | cons d ds => exact h.elim⟩
theorem repL_em {ds : List D} {vs : List V} (r : RepL ca K Hf H Em vs ds) (hx : Ex Hf Hf1) : RepL ca K Hf1 H1 Em vs ds := r.keep hx fun _ q => q.elim
theorem cgs_cons {e : Expr} {es : List Expr} {t : TG} {u : TGs} {g : MG} {gs : List MG} (hg : CG ca X L e t g) (hgs : CGs ca X L es u gs)
    (hs : (assignEach (e :: es) X.env).map (·.2) = assign e X.env :: (assignEach es X.env).map (·.2)) : CGs ca X L (e :: es) (gCons t u) (g :: gs) := ⟨pgs_cons hg.1 hgs.1 hs, fun ds Hf H R σ st vs Q p h => by
  cases ds with
  | nil => exact h.elim
  | cons d ds =>
    have r := p.pend
    cases r with
    | cons r1 r2 h1 h2 h3 =>
      rename_i v vs
      have r1' := r1.mono h1
      have r2' := r2.mono h2
      refine ⟨v, vs, rfl, hg.2 Hf H Em R σ st v d _ (p.drop.put r1') ?_⟩
      rw [gTupM] at h
      cases eg : g d st with
      | fail => rw [eg] at h; exact h
      | exc x st1 => rw [eg] at h; exact h
      | ok a st1 =>
        rw [eg] at h
        intro Hf1 H1 R1 σ1 t1 p1 k1
        refine hgs.2 ds Hf1 H1 R1 σ1 st1 vs Q (p1.imp fun _ => repL_em r2' t1.fx) ?_
        have h' : (match gTupM gs ds st1 with
          | .ok _ st' => ∀ Hf' H' R' σ', Tr (jn Em R) Hf H (jn Em R') Hf' H' → PR ca X.K Hf' H' Em True R' σ' st' → Lk L σ σ' → Q σ' H'
          | _ => False) := h
        cases eq : gTupM gs ds st1 with
        | fail => rw [eq] at h'; exact h'
        | exc x st2 => rw [eq] at h'; exact h'
        | ok a st2 =>
          rw [eq] at h'
          exact fun Hf2 H2 R2 σ2 t2 p2 k2 => h' Hf2 H2 R2 σ2 (t1.trans t2) p2 (Lk.trans k1 k2)⟩
theorem cg_tup {es : List Expr} {k : Nat} {pos : Pos} {t : TGs} {gs : List MG} {n : Nat} (hc : X.calm = true) (h : CGs ca X L es t gs) (hl : gs.length = n)
    (hn : (assignEach es X.env).length = n := by rfl) (hst : (assignEach es X.env).findIdx? (·.1) = none := by rfl) : CG ca X L (.Tuple es k pos) (gTup X.K n t) (gT gs) :=
  ⟨pg_tup hc h.1 hn hst, fun Hf H P R σ st v d Q p hq => by
    cases d with
    | tup ds =>
      have r := p.pend
      obtain ⟨a, vs, rfl, e, r3⟩ := rep_tup p.w.ex r
      have hle : ∀ (gs : List MG) (ds : List D) (st : Sl) (a : Unit) (st1 : Sl), gTupM gs ds st = .ok a st1 → gs.length = ds.length := by
        intro gs
        induction gs with
        | nil => intro ds st a st1 e; cases ds with
          | nil => rfl
          | cons _ _ => cases e
        | cons g gs ih =>
          intro ds st a st1 e
          cases ds with
          | nil => cases e
          | cons d ds =>
            rw [gTupM] at e
            cases eg : g d st with
            | ok a' st' => rw [eg] at e; simp [ih ds st' a st1 e]
            | exc _ _ => rw [eg] at e; cases e
            | fail => rw [eg] at e; cases e
      have hq' : (match gTupM gs ds st with
        | .ok _ st' => ∀ Hf' H' R' σ', Tr (jn P R) Hf H (jn Em R') Hf' H' → PR ca X.K Hf' H' Em True R' σ' st' → Lk L σ σ' → Q σ' H'
        | _ => False) := hq
      cases eq : gTupM gs ds st with
      | fail => rw [eq] at hq'; exact hq'.elim
      | exc x st2 => rw [eq] at hq'; exact hq'.elim
      | ok u st2 =>
        rw [eq] at hq'
        refine ⟨a, vs, rfl, .inl (.inl e), ?_, h.2 ds Hf H R σ st vs Q (p.drop.imp fun _ => r3) ?_⟩
        · rw [r3.length, ← hle gs ds st u st2 eq, hl]
        · rw [eq]
          exact fun Hf2 H2 R2 σ2 t2 p2 k2 => hq' Hf2 H2 R2 σ2 (t2.more fun b q => q.elim (fun q => q.elim) .inr) p2 k2
    | _ => exact hq.elim⟩
/-- the region of a slot's own list -/
theorem PR.ownList {i : Nat} {xs : List D} (p : PR ca K Hf H Em True R σ st) (h : getS st i = some (.lst true xs)) : ∃ a vs, σ[i]? = some (some (.ref a)) ∧ R i a ∧ H a = some (.lst vs) ∧ RepL ca K Hf H (fun b => R i b ∧ b ≠ a) vs xs := by
  obtain ⟨v, e, r⟩ := p.at_ i _ h
  cases r with
  | lstO s e2 r => exact ⟨_, _, e, s, e2, r⟩
/-- a slot's own list is written: its items' region is as it was -/
theorem PR.write {i : Nat} {xs ys : List D} {a : Addr} {ws : List V} (p : PR ca K Hf H Em True R σ st) (h : getS st i = some (.lst true xs)) (hv : σ[i]? = some (some (.ref a))) (ha : R i a)
    (r : RepL ca K Hf H (fun b => R i b ∧ b ≠ a) ws ys) : PR ca K Hf (upd H a (.lst ws)) Em True R σ (st.set i (some (.lst true ys))) ∧ Tr (jn Em R) Hf H (jn Em R) Hf (upd H a (.lst ws)) := by
  have hk : ∀ b o, b ≠ a → H b = some o → upd H a (.lst ws) b = some o := fun b o n e => by rw [upd_ne n]; exact e
  have hf : Hf a = none := p.w.nf a (.inr ⟨i, ha⟩)
  refine ⟨⟨trivial, ?_, fun j d e => ?_, p.dj, fun _ _ q => q.elim, ⟨fun b o e => ?_, fun b q => ?_, p.w.nf, mkTp⟩⟩, ⟨fun _ _ e => e, fun b o e n => hk b o (fun z => n (.inr ⟨i, z ▸ ha⟩)) e, fun b q => .inl q, fun _ _ e => .inl e⟩⟩
  · rw [List.length_set]; exact p.len
  · rcases set_get e with ⟨q1, q2⟩ | ⟨q1, q2⟩
    · subst q1
      cases q2
      exact ⟨_, hv, .lstO ha upd_same (r.keep (fun _ _ e => e) fun b q o e => hk b o q.2 e)⟩
    · obtain ⟨v', e2, r2⟩ := p.at_ j d q2
      exact ⟨v', e2, r2.keep (fun _ _ e => e) fun b q o e => hk b o (fun z => q1 (p.dj i j a ha (z ▸ q))) e⟩
  · have := p.w.ex b o e
    exact hk b o (fun z => by subst z; rw [hf] at e; cases e) this
  · obtain ⟨o, e⟩ := p.w.dm b q
    by_cases z : b = a
    · subst z; exact ⟨_, upd_same⟩
    · exact ⟨o, hk b o z e⟩
theorem repL_set {S T : Rg} {w : V} {e : D} : ∀ {xs : List D} {vs : List V} {S : Rg} (j : Nat), RepL ca K Hf H S vs xs → Rep ca K Hf H Em w e → RepL ca K Hf H S (vs.set j w) (xs.set j e)
  | [], _, _, _, r, _ => by
    cases r
    exact .nil
  | x :: xs, _, _, 0, .cons r1 r2 h1 h2 h3, q => .cons (S1 := Em) q r2 (fun _ z => z.elim) h2 fun _ z _ => z
  | x :: xs, _, _, j + 1, .cons r1 r2 h1 h2 h3, q => .cons r1 (repL_set (S := Em) (T := Em) j r2 q) h1 h2 h3
theorem cg_ix {o i : Expr} {i0 : Nat} {mi : ME} {pos : Pos} (ho : PE X o (tVar i0)) (hi : CE ca X i mi)
    (ha : ∀ v, assign (.Subscript
        o i pos) X.env v = (do
      let ov ← holding [v] (eval
          o X.env)
      let iv ← holding [v,
          ov] (eval i X.env)
      standAt pos
      holding [v, ov,
          iv] (setItem ov iv v)
      release [v, ov, iv] [])) : CG ca X L (.Subscript o i pos) (gSub (tVar i0) (We X i) rSetL) (gIx i0 mi) :=
  ⟨pg_sub ho (we_pe X i) set_list ha, fun Hf H P R σ st v d Q p h => by
    unfold gIx at h
    by_cases hc0 : (cold d && (getS st i0).isSome) = true
    · rw [if_pos hc0] at h
      rw [Bool.and_eq_true] at hc0
      have hc := hc0.1
      have hd : hot d = false := by unfold cold at hc; simpa using hc
      have rd := p.pend.cold (S' := Em) hd
      cases em : mi st with
      | fail => rw [em] at h; exact h.elim
      | exc x st1 => rw [em] at h; exact h.elim
      | ok k st1 =>
        rw [em] at h
        cases k with
        | int k =>
          dsimp only [Res.bind] at h
          cases eg : getS st1 i0 with
          | none => rw [eg] at h; exact h.elim
          | some d1 =>
            rw [eg] at h
            cases d1 with
            | lst ow xs =>
              cases ow with
              | false => exact h.elim
              | true =>
                dsimp only at h
                cases ej : ixN xs.length k with
                | none => rw [ej] at h; exact h.elim
                | some j =>
                  rw [ej] at h
                  dsimp only at h
                  -- the list's own value stands in its slot already
                  obtain ⟨d0, e0⟩ := Option.isSome_iff_exists.mp hc0.2
                  obtain ⟨x, hx, _⟩ := p.at_ i0 d0 e0
                  refine ⟨x, hx, hi Hf H R σ st _ p.drop ?_⟩
                  rw [em]
                  intro Hf1 H1 P1 R1 v1 t1 p1
                  obtain ⟨a, vs, e1, ra, e2, r2⟩ := p1.drop.ownList eg
                  rw [hx] at e1
                  cases e1
                  refine ⟨a, vs, k, j, rfl, rep_int p1.pend, e2, by rw [r2.length]; exact ej, ?_⟩
                  obtain ⟨p2, t2⟩ := p1.drop.write eg hx ra (repL_set (S := Em) (T := Em) j r2 (rd.keep t1.fx fun _ q => q.elim))
                  exact h Hf1 _ R1 σ (((less0 t1).trans t2).more fun b q => q.elim (fun q => q.elim) .inr) p2 Lk.refl
            | _ => exact h.elim
        | _ => exact h.elim
    · rw [if_neg hc0] at h; exact h.elim⟩

/-! ### statements -/
theorem css_nil : CSs ca X L [] sNext := fun Hf H R σ st E p h => wss_of pss_nil (h Hf H R σ (Tr.refl fun _ q => q) p Lk.refl)
theorem css_cons {s : Stmt} {ss : List Stmt} {m ms : MS} (hs : CS ca X L s m) (hr : CSs ca X L ss ms) : CSs ca X L (s :: ss) (sSeq m ms) := fun Hf H R σ st E p h => by
  refine wss_of (pss_cons (ws_ps X s) (wss_pss X ss)) ?_
  refine hs Hf H R σ st _ p ?_
  unfold sSeq at h
  cases e : m st with
  | next st1 =>
    rw [e] at h
    intro Hf1 H1 R1 σ1 t1 p1 k1
    exact hr Hf1 H1 R1 σ1 st1 E p1 (PostS.from t1 k1 h)
  | ret d st1 => rw [e] at h; exact h
  | brk st1 => rw [e] at h; exact h
  | cont st1 => rw [e] at h; exact h
  | exc x st1 => rw [e] at h; exact h
  | fail => rw [e] at h; exact h
theorem css_one {s : Stmt} {m : MS} (hs : CS ca X L s m) : CSs ca X L [s] m := fun Hf H R σ st E p h => wss_of (pss_one (ws_ps X s)) (hs Hf H R σ st E p h)
/-- an expression's answer, then a statement's end -/
theorem post_toS {r : Res D} {k : D → Sl → SR} {E : Ends} {Q : VK} (h : PostS ca X L Hf H S σ (r.toS k) E) (hk : ∀ d st Hf1 H1 P R1 v, r = .ok d st → Tr S Hf H (jn P R1) Hf1 H1 → PR ca X.K Hf1 H1 P (Rep ca X.K Hf1 H1 P v d) R1 σ st → PostS ca X L Hf1 H1 (jn P R1) σ (k d st) E → Q v H1) : Post ca X Hf H S σ r Q := by
  cases r with
  | fail => exact h
  | exc x st => exact fun Hf' H' R' cls dd t p => h Hf' H' R' σ cls dd t p Lk.refl
  | ok d st => exact fun Hf' H' P R' v t p => hk d st Hf' H' P R' v rfl t p (PostS.from t (Lk.refl) h)
theorem cs_asg {tg e : Expr} {m : ME} {t : TG} {g : MG} {pos : Pos} (he : CE ca X e m) (hg : CG ca X L tg t g) (hp : PS X (.Assign [tg] e pos) (tAsg (We X e) t)) : CS ca X L (.Assign [tg] e pos) (sAsg m g) := fun Hf H R σ st E p h => by
  refine ws_of hp (he Hf H R σ st _ p ?_)
  refine post_toS h fun d st1 Hf1 H1 P1 R1 v e1 t1 p1 h1 => ?_
  refine hg.2 Hf1 H1 P1 R1 σ st1 v d _ p1 ?_
  cases eg : g d st1 with
  | fail => rw [eg] at h1; exact h1
  | exc x st2 => rw [eg] at h1; exact h1
  | ok a st2 =>
    rw [eg] at h1
    exact fun Hf2 H2 R2 σ2 t2 p2 k2 => h1 Hf2 H2 R2 σ2 t2 p2 k2
theorem cs_expr {e : Expr} {m : ME} {pos : Pos} (he : CE ca X e m) (hs : swapsWith e none pos.line X.env = pure false := by rfl) : CS ca X L (.Expr e pos) (sExpr m) := fun Hf H R σ st E p h => by
  refine ws_of (ps_expr (we_pe X e) hs) (he Hf H R σ st _ p ?_)
  refine post_toS h fun d st1 Hf1 H1 P1 R1 v e1 t1 p1 h1 => ?_
  exact h1 Hf1 H1 R1 σ (Tr.refl fun b q => q.elim (fun q => q.elim) .inr) p1.drop Lk.refl
theorem cs_ret {e : Expr} {m : ME} {pos : Pos} (he : CE ca X e m) : CS ca X L (.Return (some e) pos) (sRet m) := fun Hf H R σ st E p h => by
  refine ws_of (ps_ret (we_pe X e)) (he Hf H R σ st _ p ?_)
  refine post_toS h fun d st1 Hf1 H1 P1 R1 v e1 t1 p1 h1 => ?_
  exact h1 Hf1 H1 P1 R1 σ v (Tr.refl fun b q => q) p1 Lk.refl
theorem cs_if {c : Expr} {a b : List Stmt} {mc : MT} {ma mb : MS} {pos : Pos} (hc : CT ca X c mc) (ha : CSs ca X L a ma) (hb : CSs ca X L b mb) : CS ca X L (.If c a b pos) (sIf mc ma mb) := fun Hf H R σ st E p h => by
  refine ws_of (ps_if (wt_pt X c) (wss_pss X a) (wss_pss X b)) (hc Hf H R σ st _ p ?_)
  unfold sIf at h
  cases e : mc st with
  | fail => rw [e] at h; exact h
  | exc x st1 => rw [e] at h; exact fun Hf' H' R' cls dd t p => h Hf' H' R' σ cls dd t p Lk.refl
  | ok k st1 =>
    rw [e] at h
    intro Hf1 H1 R1 t1 p1
    cases k with
    | true => exact ha Hf1 H1 R1 σ st1 E p1 (PostS.from t1 (Lk.refl) h)
    | false => exact hb Hf1 H1 R1 σ st1 E p1 (PostS.from t1 (Lk.refl) h)
/-! ### loops -/
/-- what an iterator yields: the data ds, from any heap onwards -/
def ItD (ca : Nat → Addr) (K : PySem.W.Frag) (J : It) (Hf : Hp) (ds : List D) : Prop := ∀ Hf' H', Ex Hf Hf' → Ex Hf' H' → TpH Hf' H' →
  (∀ i, i < ds.length → J.go i H') ∧ J.stop ds.length H' ∧ ∀ i d x H2, ds[i]? = some d → J.yld i H' x H2 →
    hot d = false ∧ ∃ Hf2, Ex Hf' Hf2 ∧ Ex H' H2 ∧ Ex Hf2 H2 ∧ (∀ b o, Hf2 b = some o → Hf' b = some o ∨ H' b = none) ∧ TpH Hf2 H2 ∧ Rep ca K Hf2 H2 Em x d
def PostI (ca : Nat → Addr) (X : Cx) (Hf H : Hp) (S : Rg) (σ : L2.St) (r : Res (List D)) (Q : It → Hp → Prop) : Prop :=
  match r with
  | .ok ds st => ∀ Hf' H' R' J, Tr S Hf H (jn Em R') Hf' H' → PR ca X.K Hf' H' Em True R' σ st → ItD ca X.K J Hf' ds → Q J H'
  | .exc x st => ∀ Hf' H' R' cls dd, Tr S Hf H (jn Em R') Hf' H' → PR ca X.K Hf' H' Em (XcR ca X.K Hf' H' cls dd x) R' σ st → wX X cls dd σ H'
  | .fail => False
def CI (ca : Nat → Addr) (X : Cx) (tg iter : Expr) (wi : TI) (src : Sl → Res (List D)) : Prop := PI X tg iter wi ∧ ∀ (Hf H : Hp) (R : Nat → Rg) (σ : L2.St) (st : Sl) (Q : It → Hp → Prop), PR ca X.K Hf H Em True R σ st → PostI ca X Hf H (jn Em R) σ (src st) Q → wi σ H Q
/-- an item has come: the heap has grown by what stands -/
theorem PR.yield {Hf2 H2 : Hp} (p : PR ca K Hf H Em True R σ st) (h1 : Ex Hf Hf2) (h2 : Ex H H2) (h3 : Ex Hf2 H2) (h4 : ∀ b o, Hf2 b = some o → Hf b = some o ∨ H b = none) (h5 : TpH Hf2 H2) : PR ca K Hf2 H2 Em True R σ st ∧ Tr (jn Em R) Hf H (jn Em R) Hf2 H2 := by
  refine ⟨⟨trivial, p.len, fun i d e => ?_, p.dj, p.dp, ⟨h3, fun b q => ?_, fun b q => ?_, mkTp⟩⟩, ⟨h1, fun b o e _ => h2 b o e, fun b q => .inl q, fun b o e => ?_⟩⟩
  · obtain ⟨v, e1, r⟩ := p.at_ i d e
    exact ⟨v, e1, r.keep h1 fun b _ o e => h2 b o e⟩
  · obtain ⟨o, e⟩ := p.w.dm b q
    exact ⟨o, h2 b o e⟩
  · cases e : Hf2 b with
    | none => rfl
    | some o =>
      rcases h4 b o e with z | z
      · rw [p.w.nf b q] at z; cases z
      · obtain ⟨o, e⟩ := p.w.dm b q
        rw [e] at z; cases z
  · rcases h4 b o e with z | z
    · exact .inl z
    · exact .inr (.inr z)
/-- what stands, with all the tuples -/
def withT (Hf H : Hp) : Hp := fun b => match Hf b with
  | some o => some o
  | none => match H b with
    | some (.tup xs) => some (.tup xs)
    | _ => none
theorem withT_ex : Ex Hf (withT Hf H) := fun b o e => by unfold withT; rw [e]
theorem withT_or {b : Addr} {o : HO} (e : withT Hf H b = some o) : Hf b = some o ∨ (Hf b = none ∧ H b = some o ∧ ∃ xs, o = .tup xs) := by
  unfold withT at e
  cases e1 : Hf b with
  | some u => rw [e1] at e; exact .inl e
  | none =>
    rw [e1] at e
    dsimp only at e
    split at e
    · rename_i xs e2
      cases e
      exact .inr ⟨rfl, e2, _, rfl⟩
    · cases e
theorem withT_in (h : Ex Hf H) : Ex (withT Hf H) H := fun b o e => by
  rcases withT_or e with e | ⟨_, e, _⟩
  · exact h b o e
  · exact e
theorem withT_tp (h : Ex Hf H) : TpH (withT Hf H) H := fun b xs e => by
  unfold withT
  cases e1 : Hf b with
  | some u =>
    have := h b u e1
    rw [e] at this
    cases this
    rfl
  | none =>
    dsimp only
    rw [e]
theorem withT_fz {H2 : Hp} (t : TpH Hf H) (h2 : Ex H H2) {b : Addr} {o : HO} (e : withT Hf H2 b = some o) : Hf b = some o ∨ H b = none := by
  rcases withT_or e with e | ⟨e1, e, xs, rfl⟩
  · exact .inl e
  · cases e2 : H b with
    | none => exact .inr rfl
    | some u =>
      have := h2 b u e2
      rw [e] at this
      cases this
      exact .inl (t b xs e2)
/-- the heap has grown by what nobody has -/
theorem PR.grown {H2 : Hp} (p : PR ca K Hf H Em True R σ st) (h2 : Ex H H2) : PR ca K (withT Hf H2) H2 Em True R σ st ∧ Tr (jn Em R) Hf H (jn Em R) (withT Hf H2) H2 :=
  have hx : Ex Hf H2 := fun b o e => h2 b o (p.w.ex b o e)
  p.yield withT_ex h2 (withT_in hx) (fun b o e => withT_fz p.w.tp h2 e) (withT_tp hx)
theorem cs_for {tg iter : Expr} {body : List Stmt} {wi : TI} {src : Sl → Res (List D)} {t : TG} {g : MG} {mb : MS} {pos : Pos} (hi : CI ca X tg iter wi src) (hg : CG ca X L tg t g) (hb : CSs ca X L body mb)
    (hp : PassesOwn (model X.prog X.w) X.A X.env X.xe) (hc : X.calm = true) (hs : ∀ x, foldedSetIterable iter X.env x = pure x := by intro _; rfl) : CS ca X L (.For tg iter body [] pos) (sFor src g mb) := fun Hf H R σ st E p h => by
  refine ws_of (ps_for hp hc hi.1 hg.1 (wss_pss X body) hs) (hi.2 Hf H R σ st _ p ?_)
  unfold sFor at h
  cases e : src st with
  | fail => rw [e] at h; exact h
  | exc x st1 => rw [e] at h; exact fun Hf' H' R' cls dd t p => h Hf' H' R' σ cls dd t p Lk.refl
  | ok ds st1 =>
    rw [e] at h
    intro Hf1 H1 R1 J t1 p1 it
    have h1 := PostS.from (σ' := σ) t1 (Lk.refl) h
    clear h
    have h2 : PostS ca X L Hf1 H1 (jn Em R1) σ (forD g mb ds st1) E := h1
    clear h1
    refine ⟨fun i m σ' H' => m = ds.length - i ∧ i ≤ ds.length ∧ ∃ Hf' R' st', Tr (jn Em R1) Hf1 H1 (jn Em R') Hf' H' ∧ PR ca X.K Hf' H' Em True R' σ' st' ∧ Lk L σ σ' ∧ forD g mb (ds.drop i) st' = forD g mb ds st1,
      ⟨ds.length, by simp, Nat.zero_le _, Hf1, R1, st1, Tr.refl fun _ q => q, p1, Lk.refl, rfl⟩, ?_⟩
    rintro i m σ' H' ⟨rfl, hi', Hf', R', st', t', p', k', ef⟩
    obtain ⟨g1, g2, g3⟩ := it Hf' H' t'.fx p'.w.ex p'.w.tp
    by_cases hlt : i < ds.length
    · refine .inr ⟨g1 i hlt, fun σ2 H2 => i + 1 ≤ ds.length ∧ ∃ Hf2 R2 st2, Tr (jn Em R1) Hf1 H1 (jn Em R2) Hf2 H2 ∧ PR ca X.K Hf2 H2 Em True R2 σ2 st2 ∧ Lk L σ σ2 ∧ forD g mb (ds.drop (i + 1)) st2 = forD g mb ds st1,
        fun σ2 H2 ⟨q1, q2⟩ => ⟨ds.length - (i + 1), by omega, rfl, q1, q2⟩, fun x H2 hy => ?_⟩
      obtain ⟨d, ed⟩ : ∃ d, ds[i]? = some d := ⟨ds[i], by simp [hlt]⟩
      obtain ⟨hd, Hf2, x1, x2, x3, x4, x5, rx⟩ := g3 i d x H2 ed hy
      obtain ⟨p2, t2⟩ := p'.yield x1 x2 x3 x4 x5
      have edr : ds.drop i = d :: ds.drop (i + 1) := by
        rw [List.drop_eq_getElem_cons
            hlt]
        simp only [List.getElem?_eq_getElem hlt, Option.some.injEq] at ed
        rw [ed]
      rw [edr, forD] at ef
      have h3 : PostS ca X L Hf2 H2 (jn Em R') σ' ((g d st').toN fun st1 => match mb st1 with
        | .next st2 => forD g mb (ds.drop (i + 1)) st2
        | .cont st2 => forD g mb (ds.drop (i + 1)) st2
        | .brk st2 => .next st2
        | r => r) E := by
        refine PostS.from (t'.trans t2) k' ?_
        have := h2
        rw [← ef] at this
        exact this
      refine hg.2 Hf2 H2 Em R' σ' st' x d _ (p2.put rx) ?_
      cases eg : g d st' with
      | fail => rw [eg] at h3; exact h3
      | exc x st2 => rw [eg] at h3; exact h3
      | ok a st2 =>
        rw [eg] at h3 ef
        intro Hf3 H3 R3 σ3 t3 p3 k3
        have h4 := PostS.from t3 k3 h3
        clear h3
        refine hb Hf3 H3 R3 σ3 st2 _ p3 ?_
        dsimp only [Res.toN] at h4 ef
        cases eb : mb st2 with
        | next st4 =>
          rw [eb] at ef
          exact fun Hf4 H4 R4 σ4 t4 p4 k4 => ⟨by omega, Hf4, R4, st4, ((t'.trans t2).trans t3).trans t4, p4, Lk.trans k' (Lk.trans k3 k4), ef⟩
        | cont st4 =>
          rw [eb] at ef
          exact fun Hf4 H4 R4 σ4 t4 p4 k4 => ⟨by omega, Hf4, R4, st4, ((t'.trans t2).trans t3).trans t4, p4, Lk.trans k' (Lk.trans k3 k4), ef⟩
        | brk st4 =>
          rw [eb] at h4
          exact h4
        | ret d st4 => rw [eb] at h4; exact h4
        | exc x st4 => rw [eb] at h4; exact h4
        | fail => rw [eb] at h4; exact h4
    · have e1 : i = ds.length := by omega
      subst e1
      refine .inl ⟨g2, ?_⟩
      rw [List.drop_length, forD] at ef
      rw [← ef] at h2
      exact h2 Hf' H' R' σ' t' p' k'
end
end DL

/-! DL7: argument lists, displays, defs and their calls. -/
namespace DL
open PySem L2 PyProof.Rows

/-- arguments whose values are handed over -/
def CL (ca : Nat → Addr) (X : Cx) (es : List Expr) (m : MA) : Prop := ∀ (Hf H : Hp) (R : Nat → Rg) (σ : L2.St) (st : Sl) (Q : List V → Hp → Prop), PR ca X.K Hf H Em True R σ st → PostL ca X Hf H (jn Em R) σ (m st) Q → WL X es σ H Q

section
variable {ca : Nat → Addr} {K : PySem.W.Frag} {Hf H Hf1 H1 Hf2 H2 : Hp} {S S1 S2 P P1 P2 : Rg} {R R1 R2 : Nat → Rg} {pp qq : Prop} {σ σ' : L2.St} {st st' : Sl} {v : V} {d : D} {vs : List V} {ds : List D} {X : Cx} {L : List Nat}

/-- a pending thing beside a step of the slots alone -/
theorem PR.carry {ppf : Hp → Hp → Prop} (p1 : PR ca K Hf1 H1 P1 pp R1 σ st) (t2 : Tr (jn Em R1) Hf1 H1 (jn P2 R2) Hf2 H2) (p2 : PR ca K Hf2 H2 P2 qq R2 σ' st') :
    (∀ b, P1 b → ∀ o, H1 b = some o → H2 b = some o) ∧ (∀ b, P1 b → P2 b → False) ∧ (∀ i b, P1 b → R2 i b → False) ∧ Wl Hf2 H2 (jn (fun b => P1 b ∨ P2 b) R2) ∧ Tr (jn P1 R1) Hf1 H1 (jn (fun b => P1 b ∨ P2 b) R2) Hf2 H2 := by
  have wP : Wl Hf1 H1 P1 := p1.w.mono fun b q => .inl q
  have bs := t2.beside wP fun b q1 q2 => q2.elim (fun q => q.elim) fun ⟨i, q⟩ => p1.dp i b q1 q
  refine ⟨bs.1, fun b q1 q2 => bs.2.1 b q1 (.inl q2), fun i b q1 q2 => bs.2.1 b q1 (.inr ⟨i, q2⟩), ⟨p2.w.ex, fun b q => ?_, fun b q => ?_, mkTp⟩, ?_⟩
  · rcases q with (q | q) | q
    · exact (bs.2.2 b q).1
    · exact p2.w.dm b (.inl q)
    · exact p2.w.dm b (.inr q)
  · rcases q with (q | q) | q
    · exact (bs.2.2 b q).2
    · exact p2.w.nf b (.inl q)
    · exact p2.w.nf b (.inr q)
  · refine ((t2.with P1).more fun b q => ?_).less fun b q => ?_
    · rcases q with q | q
      · exact .inl q
      · exact q.elim (fun q => q.elim) .inr
    · rcases q with (q | q) | q
      · exact .inl q
      · exact .inr (.inl q)
      · exact .inr (.inr q)

theorem cl_nil : CL ca X [] aNil := fun Hf H R σ st Q p h => h Hf H Em R [] (Tr.refl fun _ q => q) (p.toP (fun _ q => q) .nil)
theorem cl_cons {e : Expr} {es : List Expr} {m : ME} {ms : MA} (he : CE ca X e m) (hr : CL ca X es ms) : CL ca X (e :: es) (aCons m ms) := fun Hf H R σ st Q p h => by
  refine he Hf H R σ st _ p ?_
  unfold aCons at h
  cases e1 : m st with
  | fail => rw [e1] at h; exact h
  | exc x st1 => rw [e1] at h; exact h
  | ok d st1 =>
    rw [e1] at h
    intro Hf1 H1 P1 R1 v t1 p1
    have h1 := PostL.from (less0 t1) h
    refine hr Hf1 H1 R1 σ st1 _ p1.drop ?_
    dsimp only [Res.bind] at h1
    cases e2 : ms st1 with
    | fail => rw [e2] at h1; exact h1
    | exc x st2 => rw [e2] at h1; exact h1
    | ok ds st2 =>
      rw [e2] at h1
      intro Hf2 H2 P2 R2 vs t2 p2
      obtain ⟨c1, c2, c3, c4, c5⟩ := PR.carry (ppf := fun _ _ => True) p1 t2 p2
      have hh : PostL ca X Hf H (jn Em R) σ (.ok (d :: ds) st2) Q := by
        have h2 := h
        dsimp only [Res.bind] at h2
        rw [e2] at h2
        exact h2
      exact hh Hf2 H2 (fun b => P1 b ∨ P2 b) R2 (v :: vs) (t1.trans c5) ⟨.cons (p1.pend.keep t2.fx c1) p2.pend (fun _ q => .inl q) (fun _ q => .inr q) c2, p2.len, p2.at_, p2.dj, fun i b q1 q2 => q1.elim (fun q => c3 i b q q2) fun q => p2.dp i b q q2, c4⟩
theorem wl_app : ∀ {es fs : List Expr} {σ : L2.St} {H : Hp} {Q : List V → Hp → Prop}, WL X es σ H (fun xs H1 => WL X fs σ H1 fun ys H2 => Q (xs ++ ys) H2) → WL X (es ++ fs) σ H Q
  | [], _, _, _, _, h => h
  | e :: es, fs, σ, H, Q, h => We.mk fun pins s I => thn (We.run h pins s I) fun u s1 ⟨v, H1, I1, r1, q1⟩ => ⟨v, H1, I1, r1, wl_app (es := es) q1⟩
/-- displays -/
theorem ce_lst {es : List Expr} {ms : MA} {pos : Pos} (h : CL ca X es ms) (hst : NoStar es) : CE ca X (.List es pos) (eLst ms) := fun Hf H R σ st Q p hq => by
  refine we_of (pe_lst (wa_pa X es)) (wa_wl (fun e' r' q => noStar_suf hst e' r' q _) (h Hf H R σ st _ p ?_))
  unfold eLst at hq
  cases e : ms st with
  | fail => rw [e] at hq; exact hq
  | exc x st1 => rw [e] at hq; exact hq
  | ok ds st1 =>
    rw [e] at hq
    intro Hf1 H1 P1 R1 vs t1 p1
    by_cases hl : ds.length ≤ 16777216
    · dsimp only [Res.bind] at hq
      rw [if_pos hl] at hq
      refine ⟨by rw [p1.pend.length, ← sz_eq]; exact hl, fun a ha => ?_⟩
      have hne : ∀ b, jn P1 R1 b → b ≠ a := fun b q z => by
        subst z
        obtain ⟨o, e⟩ := p1.w.dm b q
        rw [ha] at e; cases e
      obtain ⟨w1, w2⟩ := wl_new (o := .lst vs) p1.w ha
      refine hq Hf1 (upd H1 a (.lst vs)) (fun b => P1 b ∨ b = a) R1 (.ref a) (t1.trans ⟨fun _ _ e => e, fun b o e _ => upd_keep ha b o e, fun b q => ?_, fun _ _ e => .inl e⟩) ⟨.lstO (.inr rfl) upd_same ((p1.pend.keep (fun _ _ e => e) fun b _ o e => upd_keep ha b o e).mono fun b q => ⟨.inl q, hne b (.inl q)⟩), p1.len, fun i d e => ?_, p1.dj, fun i b q1 q2 => ?_, ⟨w1.ex, fun b q => ?_, fun b q => ?_, mkTp⟩⟩
      · rcases q with (q | q) | q
        · exact .inl (.inl q)
        · subst q; exact .inr ha
        · exact .inl (.inr q)
      · obtain ⟨v, e1, r⟩ := p1.at_ i d e
        exact ⟨v, e1, r.keep (fun _ _ e => e) fun b _ o e => upd_keep ha b o e⟩
      · rcases q1 with q1 | q1
        · exact p1.dp i b q1 q2
        · exact hne b (.inr ⟨i, q2⟩) q1
      · rcases q with (q | q) | q
        · exact w1.dm b (.inl q)
        · subst q; exact ⟨_, upd_same⟩
        · exact w1.dm b (.inr q)
      · rcases q with (q | q) | q
        · exact w1.nf b (.inl q)
        · subst q; exact w2
        · exact w1.nf b (.inr q)
    · dsimp only [Res.bind] at hq
      rw [if_neg hl] at hq; exact hq.elim
/-- a pending thing is let stand -/
theorem PR.standP (p : PR ca K Hf H P pp R σ st) : ∃ Hf', Ex Hf Hf' ∧ (∀ b, P b → ∀ o, H b = some o → Hf' b = some o) ∧ PR ca K Hf' H Em True R σ st ∧ Tr (jn P R) Hf H (jn Em R) Hf' H := by
  let Hf' : Hp := fun b => if Classical.propDecidable (P b) |>.decide then H b else Hf b
  have hy : ∀ b, P b → Hf' b = H b := fun b q => by
    show (if _ then _ else _) = _
    rw [if_pos (by simpa using q)]
  have hno : ∀ b, ¬ P b → Hf' b = Hf b := fun b q => by
    show (if _ then _ else _) = _
    rw [if_neg (by simpa using q)]
  have hx : Ex Hf Hf' := fun b o e => by
    by_cases q : P b
    · rw [hy b q]; exact p.w.ex b o e
    · rw [hno b q]; exact e
  refine ⟨Hf', hx, fun b q o e => by rw [hy b q]; exact e, ⟨trivial, p.len, fun i d e => ?_, p.dj, fun _ _ q => q.elim, ⟨fun b o e => ?_, fun b q => ?_, fun b q => ?_, mkTp⟩⟩, ⟨hx, fun _ _ e _ => e, fun b q => .inl (.inr (q.elim (fun q => q.elim) id)), fun b o e => ?_⟩⟩
  · obtain ⟨v, e1, r⟩ := p.at_ i d e
    exact ⟨v, e1, r.keep hx fun _ _ _ e => e⟩
  · by_cases z : P b
    · rw [hy b z] at e; exact e
    · rw [hno b z] at e; exact p.w.ex b o e
  · exact p.w.dm b (.inr (q.elim (fun q => q.elim) id))
  · obtain ⟨i, q⟩ := q.elim (fun q : Em b => q.elim) id
    rw [hno b fun z => p.dp i b z q]; exact p.w.nf b (.inr ⟨i, q⟩)
  · by_cases z : P b
    · exact .inr (.inl (.inl z))
    · rw [hno b z] at e; exact .inl e
theorem ce_tup {es : List Expr} {ms : MA} {k : Nat} {pos : Pos} (h : CL ca X es ms) (hst : NoStar es) : CE ca X (.Tuple es k pos) (eTup ms) := fun Hf H R σ st Q p hq => by
  refine we_of (pe_tup (wa_pa X es)) (wa_wl (fun e' r' q => noStar_suf hst e' r' q _) (h Hf H R σ st _ p ?_))
  unfold eTup at hq
  cases e : ms st with
  | fail => rw [e] at hq; exact hq
  | exc x st1 => rw [e] at hq; exact hq
  | ok ds st1 =>
    rw [e] at hq
    intro Hf1 H1 P1 R1 vs t1 p1
    by_cases hl : ds.length ≤ 16777216
    · dsimp only [Res.bind] at hq
      rw [if_pos hl] at hq
      refine ⟨by rw [p1.pend.length, ← sz_eq]; exact hl, fun a ha => ?_⟩
      obtain ⟨Hf2, x1, x2, p2, t2⟩ := p1.standP
      exact post_newT p2 (Post.from (t1.trans t2) hq) (fun b q => .inr q) ha (p1.pend.frz x1 x2)
    · dsimp only [Res.bind] at hq
      rw [if_neg hl] at hq; exact hq.elim

/-! ### a def's promise by its pure meaning -/
def PostC (ca : Nat → Addr) (K : PySem.W.Frag) (Hf H : Hp) (P : Rg) (vs : List V) (r : CR) (Q : VK) (E : XK) : Prop :=
  match r with
  | .ok d ps => ∀ Hf' H' P' Rp v, Tr P Hf H (jn P' Rp) Hf' H' → PR ca K Hf' H' P' (Rep ca K Hf' H' P' v d) Rp (vs.map some) ps → Q v H'
  | .exc x ps => ∀ Hf' H' Rp cls dd, Tr P Hf H (jn Em Rp) Hf' H' → PR ca K Hf' H' Em (XcR ca K Hf' H' cls dd x) Rp (vs.map some) ps → E cls dd H'
  | .fail => False
def spM (ca : Nat → Addr) (K : PySem.W.Frag) (m : MF) : Sp := fun vs H Q E => ∃ Hf P ds, RepL ca K Hf H P vs ds ∧ Wl Hf H P ∧ PostC ca K Hf H P vs (m ds) Q E

theorem getS_keepL {n : Nat} {i : Nat} (h : getS (keepL L n st) i = some d) : i < n ∧ i ∈ L ∧ getS st i = some d := by
  unfold keepL at h
  have e : getS ((List.range n).map fun j => if j ∈ L then getS st j else none) i = (if i < n then (if i ∈ L then getS st i else none) else none) := by
    unfold getS
    rw [List.getElem?_map]
    by_cases hi : i < n
    · rw [List.getElem?_range hi, if_pos hi]; rfl
    · rw [List.getElem?_eq_none (by simp; omega), if_neg hi]; rfl
  rw [e] at h
  by_cases hi : i < n
  · rw [if_pos hi] at h
    by_cases hl : i ∈ L
    · rw [if_pos hl] at h; exact ⟨hi, hl, h⟩
    · rw [if_neg hl] at h; cases h
  · rw [if_neg hi] at h; cases h
/-- a list's regions, one by one -/
theorem repL_split : ∀ {vs : List V} {ds : List D} {S : Rg}, RepL ca K Hf H S vs ds → ∃ R : Nat → Rg, (∀ i d, ds[i]? = some d → ∃ v, vs[i]? = some v ∧ Rep ca K Hf H (R i) v d) ∧ (∀ i j b, R i b → R j b → i = j) ∧ ∀ i b, R i b → S b
  | _, _, _, .nil => ⟨fun _ => Em, fun i d h => by simp at h, fun _ _ _ q => q.elim, fun _ _ q => q.elim⟩
  | _, _, _, .cons (S1 := S1) r1 r2 h1 h2 h3 => by
    obtain ⟨R, a, b, c⟩ := repL_split r2
    refine ⟨fun i => match i with | 0 => S1 | i + 1 => R i, fun i d e => ?_, fun i j x q1 q2 => ?_, fun i x q => ?_⟩
    · cases i with
      | zero => simp at e; subst e; exact ⟨_, rfl, r1⟩
      | succ i => obtain ⟨v, e1, r⟩ := a i d (by simpa using e); exact ⟨v, by simpa using e1, r⟩
    · cases i <;> cases j
      · rfl
      · exact (h3 x q1 (c _ _ q2)).elim
      · exact (h3 x q2 (c _ _ q1)).elim
      · rw [b _ _ x q1 q2]
    · cases i with
      | zero => exact h1 x q
      | succ i => exact h2 x (c i x q)
/-- the parameters as they are handed back -/
theorem PR.params {n : Nat} (p : PR ca K Hf H P pp R σ' st) (hv : vs.length = n) (hk : ∀ i ∈ L, i < n → σ'[i]? = some (vs[i]?)) (q : qq) {P' : Rg} (hP : ∀ b, P' b → P b) : PR ca K Hf H P' qq (fun i b => i ∈ L ∧ i < n ∧ R i b) (vs.map some) (keepL L n st) where
  pend := q
  len := by simp [keepL, hv]
  at_ := fun i d e => by
    obtain ⟨h1, h2, h3⟩ := getS_keepL e
    obtain ⟨v, e1, r⟩ := p.at_ i d h3
    have := hk i h2 h1
    rw [e1] at this
    have e2 : some v = vs[i]? := Option.some.inj this
    refine ⟨v, ?_, r.mono fun b q => ⟨h2, h1, q⟩⟩
    rw [List.getElem?_map, ← e2]; rfl
  dj := fun i j b q1 q2 => p.dj i j b q1.2.2 q2.2.2
  dp := fun i b q1 q2 => p.dp i b (hP b q1) q2.2.2
  w := p.w.mono fun b q => q.elim (fun q => .inl (hP b q)) fun ⟨i, q⟩ => .inr ⟨i, q.2.2⟩
theorem start_at {N : List Str} {i : Nat} (h : i < vs.length) : (L2.start N vs)[i]? = some (vs[i]?) := by
  unfold L2.start
  rw [List.getElem?_append_left (by simpa using h), List.getElem?_map]
  rw [List.getElem?_eq_getElem h]; rfl
end

section
variable {ca : Nat → Addr} {P : Program} {w : World} {K : PySem.W.Frag} {mg : Str → Option Value} {base : Heap} {L : List Nat}
theorem spM_len {n w : Nat} {mb : MS} {vs : List V} {H : Hp} {Q : VK} {E : XK} (h : spM ca K (fn n w L mb) vs H Q E) : vs.length = n := by
  obtain ⟨Hf, Pg, ds, r, w1, post⟩ := h
  rw [r.length]
  unfold fn at post
  by_cases e : ds.length = n
  · exact e
  · rw [if_neg e] at post; exact post.elim
end

section
variable {ca : Nat → Addr} {Hf H Hf1 H1 Hf2 H2 : Hp} {S P : Rg} {R R1 R2 : Nat → Rg} {σ : L2.St} {st : Sl} {v : V} {d : D} {vs : List V} {ds : List D} {X : Cx} {L : List Nat}
/-- what a callee hands back, for a caller that lends nothing -/
theorem postC_of {m : MF} {Q : VK} (p : PR ca X.K Hf H P (RepL ca X.K Hf H P vs ds) R σ st) (h : Post ca X Hf H (jn P R) σ (match m ds with | .ok d _ => .ok d st | .exc x _ => .exc x st | .fail => .fail) Q) :
    PostC ca X.K Hf H P vs (m ds) Q (fun cls dd H' => wX X cls dd σ H') := by
  have wR : Wl Hf H (tot R) := p.w.mono fun b q => .inr q
  have old : ∀ {Hf' H' : Hp} {S' P' : Rg} {pp : Prop}, Tr P Hf H S' Hf' H' → Wl Hf' H' S' → (∀ b, P' b → S' b) → pp → PR ca X.K Hf' H' P' pp R σ st ∧ Tr (jn P R) Hf H (jn P' R) Hf' H' := fun {Hf' H' S' P' pp} t w hP q => by
    have bs := t.beside wR fun b q1 q2 => by obtain ⟨i, q1⟩ := q1; exact p.dp i b q2 q1
    refine ⟨⟨q, p.len, fun i d e => ?_, p.dj, fun i b q1 q2 => bs.2.1 b ⟨i, q2⟩ (hP b q1), ⟨w.ex, fun b q => ?_, fun b q => ?_, mkTp⟩⟩, ?_⟩
    · obtain ⟨v, e1, r⟩ := p.at_ i d e
      exact ⟨v, e1, r.keep t.fx fun b q o e => bs.1 b ⟨i, q⟩ o e⟩
    · rcases q with q | q
      · exact w.dm b (hP b q)
      · exact (bs.2.2 b q).1
    · rcases q with q | q
      · exact w.nf b (hP b q)
      · exact (bs.2.2 b q).2
    · refine ((t.with (tot R)).more fun b q => ?_).less fun b q => ?_
      · exact q.elim .inr .inl
      · exact q.elim (fun q => .inr (hP b q)) .inl
  cases em : m ds with
  | fail => rw [em] at h; exact h
  | ok d ps =>
    rw [em] at h
    intro Hf' H' P' Rp v t q
    obtain ⟨p2, t2⟩ := old (P' := P') t (q.w) (fun b z => .inl z) q.pend
    exact h Hf' H' P' R v t2 p2
  | exc x ps =>
    rw [em] at h
    intro Hf' H' Rp cls dd t q
    obtain ⟨p2, t2⟩ := old (P' := Em) t (q.w) (fun b z => z.elim) q.pend
    exact h Hf' H' R cls dd t2 p2
end
end DL

/-! DL8: a call with a slot lent; what is walked; list comprehensions; methods of lists. -/
namespace DL
open PySem L2 PyProof.Rows

def iR1 (m : ME) : Sl → Res (List D) := fun st => (m st).bind fun d st1 => match d with
  | .int j => if small62 j then .ok (rangeD 0 j.toNat) st1 else .fail
  | _ => .fail
def iR2 (a b : ME) : Sl → Res (List D) := fun st => (a st).bind fun d st1 => (b st1).bind fun e st2 => match d, e with
  | .int i, .int j => if small62 i && small62 j then .ok (rangeD i (j - i).toNat) st2 else .fail
  | _, _ => .fail
def iRD (a b : ME) : Sl → Res (List D) := fun st => (a st).bind fun d st1 => (b st1).bind fun e st2 => match d, e with
  | .int i, .int j => if small62 i && small62 j then .ok (rangeC i (-1) (i - j).toNat) st2 else .fail
  | _, _ => .fail
section
variable {ca : Nat → Addr} {K : PySem.W.Frag} {Hf H Hf1 H1 Hf2 H2 : Hp} {S S1 S2 P P1 P2 : Rg} {R R1 R2 : Nat → Rg} {pp qq : Prop} {σ σ' : L2.St} {st st' : Sl} {v : V} {d : D} {vs : List V} {ds : List D} {X : Cx} {L : List Nat}

/-- what goes to a call -/
theorem repL_app' {P : Rg} (r : RepL ca K Hf H S1 vs ds) {ws : List V} {es : List D} (r2 : RepL ca K Hf H S2 ws es) (h1 : ∀ b, S1 b → P b) (h2 : ∀ b, S2 b → P b) (h3 : ∀ b, S1 b → S2 b → False) : RepL ca K Hf H P (vs ++ ws) (ds ++ es) := by
  induction ds generalizing vs S1 P with
  | nil => cases r; exact r2.mono h2
  | cons d ds ih =>
    cases r with
    | cons q1 q2 k1 k2 k3 =>
      rename_i T1 T2 v vs
      refine .cons (S2 := fun b => T2 b ∨ S2 b) q1 (ih q2 (fun b q => .inl q) (fun b q => .inr q) fun b x y => h3 b (k2 b x) y) (fun b q => h1 b (k1 b q)) (fun b q => q.elim (fun q => h1 b (k2 b q)) (h2 b)) fun b x y => ?_
      rcases y with y | y
      · exact k3 b x y
      · exact h3 b (k1 b x) y
/-- what a callee hands back, one slot lent: place j among the arguments -/
theorem postC_lent {m : MF} {Q : VK} {i j : Nat} {a : V} (p : PR ca X.K Hf H P (RepL ca X.K Hf H P vs ds) R σ st) (hv : vs[j]? = some a) (hs : σ[i]? = some (some a)) (hi : getS st i = none) (hil : i < st.length)
    (h : Post ca X Hf H (jn P R) σ (match m ds with | .ok d ps => .ok d (st.set i (getS ps j)) | .exc x ps => .exc x (st.set i (getS ps j)) | .fail => .fail) Q) :
    PostC ca X.K Hf H P vs (m ds) Q (fun cls dd H' => wX X cls dd σ H') := by
  have wR : Wl Hf H (tot R) := p.w.mono fun b q => .inr q
  have old : ∀ {Hf' H' : Hp} {P' : Rg} {Rp : Nat → Rg} {ps : Sl} {pp : Prop}, Tr P Hf H (jn P' Rp) Hf' H' → PR ca X.K Hf' H' P' pp Rp (vs.map some) ps → PR ca X.K Hf' H' P' pp (fun k b => if k = i then Rp j b else R k b) σ (st.set i (getS ps j)) ∧ Tr (jn P R) Hf H (jn P' fun k b => if k = i then Rp j b else R k b) Hf' H' := fun {Hf' H' P' Rp ps pp} t w => by
    have bs := t.beside wR fun b q1 q2 => by obtain ⟨i, q1⟩ := q1; exact p.dp i b q2 q1
    refine ⟨⟨w.pend, by rw [List.length_set]; exact p.len, fun k d e => ?_, fun k l b q1 q2 => ?_, fun k b q1 q2 => ?_, ⟨w.w.ex, fun b q => ?_, fun b q => ?_, mkTp⟩⟩, ?_⟩
    · rcases set_get e with ⟨z1, z2⟩ | ⟨z1, z2⟩
      · subst z1
        obtain ⟨v, e1, r⟩ := w.at_ j d z2
        rw [List.getElem?_map, hv] at e1
        cases e1
        exact ⟨_, hs, by simpa using r⟩
      · obtain ⟨v, e1, r⟩ := p.at_ k d z2
        refine ⟨v, e1, ?_⟩
        rw [show (fun b => if k = i then Rp j b else R k b) = R k from by funext b; rw [if_neg (Ne.symm z1)]]
        exact r.keep t.fx fun b q o e => bs.1 b ⟨k, q⟩ o e
    · split at q1 <;> split at q2
      · rename_i a c; exact a.trans c.symm
      · exact (bs.2.1 b ⟨l, q2⟩ (.inr ⟨j, q1⟩)).elim
      · exact (bs.2.1 b ⟨k, q1⟩ (.inr ⟨j, q2⟩)).elim
      · exact p.dj k l b q1 q2
    · split at q2
      · exact w.dp j b q1 q2
      · exact bs.2.1 b ⟨k, q2⟩ (.inl q1)
    · rcases q with q | ⟨k, q⟩
      · exact w.w.dm b (.inl q)
      · split at q
        · exact w.w.dm b (.inr ⟨j, q⟩)
        · exact (bs.2.2 b ⟨k, q⟩).1
    · rcases q with q | ⟨k, q⟩
      · exact w.w.nf b (.inl q)
      · split at q
        · exact w.w.nf b (.inr ⟨j, q⟩)
        · exact (bs.2.2 b ⟨k, q⟩).2
    · refine ((t.with (tot R)).more fun b q => ?_).less fun b q => ?_
      · exact q.elim .inr .inl
      · rcases q with q | ⟨k, q⟩
        · exact .inr (.inl q)
        · split at q
          · exact .inr (.inr ⟨j, q⟩)
          · exact .inl ⟨k, q⟩
  cases em : m ds with
  | fail => rw [em] at h; exact h
  | ok d ps =>
    rw [em] at h
    intro Hf' H' P' Rp v t q
    obtain ⟨p2, t2⟩ := old t q
    exact h Hf' H' P' _ v t2 p2
  | exc x ps =>
    rw [em] at h
    intro Hf' H' Rp cls dd t q
    obtain ⟨p2, t2⟩ := old t q
    exact h Hf' H' _ cls dd t2 p2
/-- the arguments of such a call: to the heap where the callee starts -/
theorem lent_args {es fs : List Expr} {e : Expr} {i : Nat} {ms ns : MA} {m : MF} {Q : VK} {E : L2.St → XK} (ha : CL ca X es ms) (he : PE X e (tVar i)) (hb : CL ca X fs ns) (p : PR ca X.K Hf H Em True R σ st)
    (h : Post ca X Hf H (jn Em R) σ (eCallL m ms i ns st) Q) (hE : E σ = fun cls dd H' => wX X cls dd σ H') : WL X (es ++ e :: fs) σ H fun vs H' => spM ca X.K m vs H' Q (E σ) := by
  refine wl_app (ha Hf H R σ st _ p ?_)
  unfold eCallL at h
  cases e1 : ms st with
  | fail => rw [e1] at h; exact h
  | exc x st1 => rw [e1] at h; exact h
  | ok ds st1 =>
    rw [e1] at h
    intro Hf1 H1 P1 R1 vs t1 p1
    have h1 := Post.from t1 h
    clear h
    dsimp only [Res.bind] at h1
    cases eg : getS st1 i with
    | none => rw [eg] at h1; exact h1.elim
    | some d0 =>
      rw [eg] at h1
      obtain ⟨v0, ev0, _⟩ := p1.at_ i d0 eg
      refine we_of he ⟨v0, ev0, hb Hf1 H1 R1 σ st1 _ p1.drop ?_⟩
      have h2 : Post ca X Hf1 H1 (jn P1 R1) σ ((ns st1).bind fun es st2 =>
          (match getS st2 i with
          | some d => if hot d then (match m (ds ++ d :: es) with
              | .ok r ps => .ok r (st2.set i (getS ps ds.length))
              | .exc x ps => .exc x (st2.set i (getS ps ds.length))
              | .fail => .fail) else (match m (ds ++ d :: es) with
              | .ok r _ => .ok r st2
              | .exc x _ => .exc x st2
              | .fail => .fail)
          | none => .fail)) Q := h1
      clear h1
      cases e2 : ns st1 with
      | fail => rw [e2] at h2; exact h2
      | exc x st2 => rw [e2] at h2; exact fun Hf' H' R' cls dd t q => h2 Hf' H' R' cls dd (t.more fun b q => q.elim (fun q => q.elim) .inr) q
      | ok es' st2 =>
        rw [e2] at h2
        intro Hf2 H2 P2 R2 ws t2 p2
        obtain ⟨c1, c2, c3, c4, c5⟩ := PR.carry (ppf := fun _ _ => True) p1 t2 p2
        have h3 := Post.from c5 h2
        clear h2
        dsimp only [Res.bind] at h3
        have r1 := p1.pend.keep t2.fx c1
        have r2 := p2.pend
        cases eg2 : getS st2 i with
        | none => rw [eg2] at h3; exact h3.elim
        | some d =>
          rw [eg2] at h3
          dsimp only at h3
          rw [hE]
          by_cases hh : hot d = true
          · rw [if_pos hh] at h3
            obtain ⟨v, ev, p3⟩ := p2.drop.take eg2
            rw [ev0] at ev
            cases ev
            -- the pending arguments, the lent slot's own
            have hd1 : ∀ b, (P1 b ∨ P2 b) → R2 i b → False := fun b q1 q2 => q1.elim (fun q => c3 i b q q2) fun q => p2.dp i b q q2
            have rr : RepL ca X.K Hf2 H2 (fun b => (P1 b ∨ P2 b) ∨ R2 i b) (vs ++ v0 :: ws) (ds ++ d :: es') :=
              repL_app' (S1 := P1) (S2 := fun b => R2 i b ∨ P2 b) r1 (.cons p3.pend r2 (fun _ q => .inl q) (fun _ q => .inr q) fun b q1 q2 => p2.dp i b q2 q1) (fun b q => .inl (.inl q)) (fun b q => q.elim .inr fun q => .inl (.inr q)) fun b q1 q2 => q2.elim (fun q => c3 i b q1 q) (c2 b q1)
            have p4 : PR ca X.K Hf2 H2 (fun b => (P1 b ∨ P2 b) ∨ R2 i b) (RepL ca X.K Hf2 H2 (fun b => (P1 b ∨ P2 b) ∨ R2 i b) (vs ++ v0 :: ws) (ds ++ d :: es')) (fun j b => j ≠ i ∧ R2 j b) σ (st2.set i none) :=
              ⟨rr, p3.len, p3.at_, p3.dj, fun k b q1 q2 => q1.elim (fun q => q.elim (fun q => c3 k b q q2.2) fun q => p2.dp k b q q2.2) fun q => q2.1 (p2.dj k i b q2.2 q), c4.mono fun b q => by
                rcases q with (q | q) | ⟨k, q⟩
                · exact .inl q
                · exact .inr ⟨i, q⟩
                · exact .inr ⟨k, q.2⟩⟩
            refine ⟨Hf2, _, _, rr, p4.w.mono fun b q => .inl q, postC_lent (i := i) (j := vs.length) (a := v0) p4 (by simp) ev0 (by rw [getS_set, if_pos rfl]; split <;> rfl) (by rw [List.length_set]; exact getS_lt eg2) ?_⟩
            rw [r1.length]
            have hset : ∀ o : Option D, (st2.set i none).set i o = st2.set i o := fun o => by rw [List.set_set]
            simp only [hset]
            refine Post.from (Tr.refl fun b q => ?_) h3
            rcases q with (q | q) | ⟨k, q⟩
            · exact .inl q
            · exact .inr ⟨i, q⟩
            · exact .inr ⟨k, q.2⟩
          · rw [if_neg hh] at h3
            have hh' : hot d = false := by simpa using hh
            obtain ⟨v, ev, rd⟩ := p2.drop.at_ i d eg2
            rw [ev0] at ev
            cases ev
            have rr : RepL ca X.K Hf2 H2 (fun b => P1 b ∨ P2 b) (vs ++ v0 :: ws) (ds ++ d :: es') :=
              repL_app' (S1 := P1) (S2 := P2) r1 (.cons (S1 := Em) (rd.cold hh') r2 (fun _ q => q.elim) (fun _ q => q) fun b q1 q2 => q1) (fun b q => .inl q) (fun b q => .inr q) c2
            have p4 : PR ca X.K Hf2 H2 (fun b => P1 b ∨ P2 b) (RepL ca X.K Hf2 H2 (fun b => P1 b ∨ P2 b) (vs ++ v0 :: ws) (ds ++ d :: es')) R2 σ st2 :=
              ⟨rr, p2.len, p2.at_, p2.dj, fun k b q1 q2 => q1.elim (fun q => c3 k b q q2) fun q => p2.dp k b q q2, c4⟩
            exact ⟨Hf2, _, _, rr, p4.w.mono fun b q => .inl q, postC_of p4 h3⟩
/-! ### what is walked -/
theorem sqL_ex {a : Addr} {xs : List V} (hx : Ex Hf H) (h : SqL K Hf a xs) : SqL K H a xs := by
  rcases h with h | h
  · refine .inl ?_
    rcases h with h | ⟨o, h⟩
    · exact .inl (hx _ _ h)
    · exact .inr ⟨o, hx _ _ h⟩
  · exact .inr h
theorem sqT_ex {a : Addr} {xs : List V} (hx : Ex Hf H) (h : SqT K Hf a xs) : SqT K H a xs := by
  rcases h with h | h
  · refine .inl ?_
    rcases h with h | ⟨o, h⟩
    · exact .inl (hx _ _ h)
    · exact .inr ⟨o, hx _ _ h⟩
  · exact .inr h
theorem colds_at {ds : List D} (h : colds ds = true) {i : Nat} {d : D} (e : ds[i]? = some d) : hot d = false := by
  unfold colds at h
  have := List.all_eq_true.mp h d (List.mem_of_getElem? e)
  unfold cold at this
  simpa using this
/-- the end of an item that makes nothing -/
theorem itd_plain {J : It} {n : Nat} (hn : ds.length = n) (h1 : ∀ H', Ex Hf H' → ∀ i, i < n → J.go i H') (h2 : ∀ H', Ex Hf H' → J.stop n H') (h3 : ∀ H', Ex Hf H' → ∀ i d x H2, ds[i]? = some d → J.yld i H' x H2 → H2 = H' ∧ hot d = false ∧ ∀ Hf', Ex Hf Hf' → Rep ca K Hf' H' Em x d) : ItD ca K J Hf ds := by
  subst hn
  intro Hf' H' x1 x2 x5
  have x3 : Ex Hf H' := fun a o e => x2 a o (x1 a o e)
  refine ⟨h1 H' x3, h2 H' x3, fun i d x H2 e y => ?_⟩
  obtain ⟨rfl, hd, r⟩ := h3 H' x3 i d x H2 e y
  exact ⟨hd, Hf', fun _ _ e => e, fun _ _ e => e, x2, fun _ _ e => .inl e, x5, r Hf' x1⟩
theorem itd_list {a : Addr} (h : SqL K Hf a vs) (r : RepL ca K Hf H Em vs ds) (hc : colds ds = true) : ItD ca K (Itl K a) Hf ds := by
  refine itd_plain rfl (fun H' x i hi => ?_) (fun H' x => ⟨vs, sqL_ex x h, by rw [r.length]; exact Nat.le_refl _⟩) fun H' x i d v H2 e y => ?_
  · have : i < vs.length := by rw [r.length]; exact hi
    exact ⟨vs, vs[i], sqL_ex x h, by simp [this]⟩
  · obtain ⟨e1, y⟩ := y
    refine ⟨e1, colds_at hc e, fun Hf' x1 => ?_⟩
    obtain ⟨v', T, e2, r2, z⟩ := repL_at r e
    have := y vs (sqL_ex x h)
    rw [e2] at this
    cases this
    exact (r2.mono z).keep x1 fun _ q => q.elim
theorem itd_tup {a : Addr} (h : SqT K Hf a vs) (r : RepL ca K Hf H Em vs ds) (hc : colds ds = true) : ItD ca K (Itt K a) Hf ds := by
  refine itd_plain rfl (fun H' x i hi => ?_) (fun H' x => ⟨vs, sqT_ex x h, by rw [r.length]; exact Nat.le_refl _⟩) fun H' x i d v H2 e y => ?_
  · have : i < vs.length := by rw [r.length]; exact hi
    exact ⟨vs, vs[i], sqT_ex x h, by simp [this]⟩
  · obtain ⟨e1, y⟩ := y
    refine ⟨e1, colds_at hc e, fun Hf' x1 => ?_⟩
    obtain ⟨v', T, e2, r2, z⟩ := repL_at r e
    have := y vs (sqT_ex x h)
    rw [e2] at this
    cases this
    exact (r2.mono z).keep x1 fun _ q => q.elim
theorem itd_range {lo : Int} {n : Nat} : ItD ca K (Itr lo n) Hf (rangeD lo n) := by
  refine itd_plain (n := n) (by simp [rangeD]) (fun H' x i hi => hi) (fun H' x => Nat.le_refl _) fun H' x i d v H2 e y => ?_
  obtain ⟨rfl, rfl⟩ := y
  have hi : i < n := by
    have := (List.getElem?_eq_some_iff.mp e).1
    simpa [rangeD] using this
  have : d = .int (lo + (i : Nat)) := by
    simp only [rangeD, List.getElem?_map, List.getElem?_range hi, Option.map_some, Option.some.injEq] at e
    exact e.symm
  subst this
  exact ⟨rfl, rfl, fun _ _ => .int⟩
/-- the pairs of an enumeration -/
def enumD : Nat → List D → List D
  | _, [] => []
  | n, d :: ds => .tup [.int (n : Int), d] :: enumD (n + 1) ds
theorem enumD_get : ∀ {ds : List D} {n i : Nat} {e : D}, (enumD n ds)[i]? = some e → ∃ d, ds[i]? = some d ∧ e = .tup [.int ((n + i : Nat) : Int), d]
  | [], n, i, e, h => by simp [enumD] at h
  | d :: ds, n, 0, e, h => by
    simp [enumD] at h
    exact ⟨d, rfl, h.symm⟩
  | d :: ds, n, i + 1, e, h => by
    rw [enumD, List.getElem?_cons_succ] at h
    obtain ⟨d', h1, h2⟩ := enumD_get h
    refine ⟨d', by simpa using h1, ?_⟩
    rw [h2, show n + 1 + i = n + (i + 1) from by omega]
theorem enumD_length : ∀ {ds : List D} {n : Nat}, (enumD n ds).length = ds.length
  | [], _ => rfl
  | d :: ds, n => by simp [enumD, enumD_length]
theorem itd_enum {a : Addr} (h : SqL K Hf a vs) (r : RepL ca K Hf H Em vs ds) (hc : colds ds = true) : ItD ca K (Ite K a) Hf (enumD 0 ds) := by
  intro Hf' H' x1 x2 x5
  have x3 : Ex Hf H' := fun a o e => x2 a o (x1 a o e)
  refine ⟨fun i hi => ?_, ⟨vs, sqL_ex x3 h, by rw [r.length, enumD_length]; exact Nat.le_refl _⟩, fun i d x H2 e y => ?_⟩
  · have : i < vs.length := by rw [r.length]; rw [enumD_length] at hi; exact hi
    exact ⟨vs, vs[i], sqL_ex x3 h, by simp [this]⟩
  · obtain ⟨T, xv, rfl, hT, rfl, y⟩ := y
    obtain ⟨d', e1, rfl⟩ := enumD_get e
    obtain ⟨v', T', e2, r2, z⟩ := repL_at r e1
    have := y vs (sqL_ex x3 h)
    rw [e2] at this
    have e3 : v' = xv := Option.some.inj this
    subst e3
    have hT' : Hf' T = none := by
      cases q : Hf' T with
      | none => rfl
      | some o => rw [x2 T o q] at hT; cases hT
    refine ⟨rfl, upd Hf' T (.tup [.int (i : Nat), v']), fun b o e => upd_keep hT' b o e, fun b o e => upd_keep hT b o e, fun b o e => ?_, fun b o e => ?_, x5.upd2, ?_⟩
    · by_cases q : b = T
      · subst q; rw [upd_same] at e ⊢; exact e
      · rw [upd_ne q] at e ⊢; exact x2 b o e
    · by_cases q : b = T
      · subst q; exact .inr hT
      · rw [upd_ne q] at e; exact .inl e
    · refine .tup upd_same (.cons (S1 := Em) (S2 := Em) (by rw [Nat.zero_add]; exact .int) (.cons (S1 := Em) (S2 := Em) ((r2.mono z).keep (fun b o e => upd_keep hT' b o (x1 b o e)) fun _ q => q.elim) .nil (fun _ q => q) (fun _ q => q) fun _ q _ => q) (fun _ q => q) (fun _ q => q) fun _ q _ => q)
/-- a value that is walked: it is let stand -/
theorem PR.walked {xs : List D} (p : PR ca K Hf H P (Rep ca K Hf H P v d) R σ st) (h : lstItems d = some xs) (hc : colds xs = true) : ∃ Hf' a vs, v = .ref a ∧ SqL K Hf' a vs ∧ RepL ca K Hf' H Em vs xs ∧ PR ca K Hf' H Em True R σ st ∧ Tr (jn P R) Hf H (jn Em R) Hf' H := by
  obtain ⟨Hf', x1, x2, p', t'⟩ := p.standP
  refine ⟨Hf', ?_⟩
  have hr := p.pend
  cases hr with
  | lstF e r => cases h; exact ⟨_, _, rfl, .inl (.inl (x1 _ _ e)), repL_cold (r.keep x1 fun _ _ _ e => e) hc, p', t'⟩
  | lstO s e r => cases h; exact ⟨_, _, rfl, .inl (.inl (x2 _ s _ e)), repL_cold (r.keep x1 fun _ _ _ e => e) hc, p', t'⟩
  | scr e => cases h; exact ⟨_, _, rfl, sqL_ex x1 e, repL_mapInt _, p', t'⟩
  | _ => cases h
theorem PR.walkedT {xs : List D} (p : PR ca K Hf H P (Rep ca K Hf H P v (.tup xs)) R σ st) : ∃ Hf' a vs, v = .ref a ∧ SqT K Hf' a vs ∧ RepL ca K Hf' H Em vs xs ∧ PR ca K Hf' H Em True R σ st ∧ Tr (jn P R) Hf H (jn Em R) Hf' H := by
  obtain ⟨Hf', x1, x2, p', t'⟩ := p.standP
  have hr := p.pend
  cases hr with
  | tup e r => exact ⟨Hf', _, _, rfl, .inl (.inl (x1 _ _ e)), repL_em r x1, p', t'⟩
def tupItems : D → Option (List D)
  | .tup xs => some xs
  | _ => none
/-- an expression's answer, then what is walked -/
theorem post_iE {r : Res D} {p : D → Option (List D)} {Q : It → Hp → Prop} {Q' : VK} (h : PostI ca X Hf H S σ (r.bind fun d st1 => match p d with | some ds => if colds ds then .ok ds st1 else .fail | none => .fail) Q)
    (hk : ∀ d ds st Hf1 H1 P R1 v, p d = some ds → colds ds = true → Tr S Hf H (jn P R1) Hf1 H1 → PR ca X.K Hf1 H1 P (Rep ca X.K Hf1 H1 P v d) R1 σ st → PostI ca X Hf1 H1 (jn P R1) σ (.ok ds st) Q → Q' v H1) : Post ca X Hf H S σ r Q' := by
  cases r with
  | fail => exact h
  | exc x st => exact h
  | ok d st =>
    dsimp only [Res.bind] at h
    intro Hf1 H1 P R1 v t1 p1
    cases e : p d with
    | none => rw [e] at h; exact h.elim
    | some ds =>
      rw [e] at h
      dsimp only at h
      by_cases hc : colds ds = true
      · rw [if_pos hc] at h
        exact hk d ds st Hf1 H1 P R1 v e hc t1 p1 fun Hf2 H2 R2 J t2 p2 i2 => h Hf2 H2 R2 J (t1.trans t2) p2 i2
      · rw [if_neg hc] at h; exact h.elim
theorem ci_list {tg e : Expr} {m : ME} (hp : PI X tg e (iList X.K (We X e))) (he : CE ca X e m) : CI ca X tg e (iList X.K (We X e)) (iE m lstItems) := ⟨hp, fun Hf H R σ st Q p h => by
  refine he Hf H R σ st _ p (post_iE h fun d ds st1 Hf1 H1 P R1 v e1 hc t1 p1 h1 => ?_)
  obtain ⟨Hf', a, vs, rfl, s1, r1, p2, t2⟩ := p1.walked e1 hc
  exact ⟨a, rfl, ⟨vs, sqL_ex p2.w.ex s1⟩, h1 Hf' H1 R1 _ t2 p2 (itd_list s1 r1 hc)⟩⟩
theorem ci_tup {tg e : Expr} {m : ME} (hp : PI X tg e (iTup X.K (We X e))) (he : CE ca X e m) : CI ca X tg e (iTup X.K (We X e)) (iE m tupItems) := ⟨hp, fun Hf H R σ st Q p h => by
  refine he Hf H R σ st _ p (post_iE h fun d ds st1 Hf1 H1 P R1 v e1 hc t1 p1 h1 => ?_)
  cases d with
  | tup xs =>
    cases e1
    obtain ⟨Hf', a, vs, rfl, s1, r1, p2, t2⟩ := p1.walkedT
    exact ⟨a, rfl, ⟨vs, sqT_ex p2.w.ex s1⟩, h1 Hf' H1 R1 _ t2 p2 (itd_tup s1 r1 hc)⟩
  | _ => cases e1⟩
/-- enumerate(list) -/
def iEn (m : ME) : Sl → Res (List D) := fun st => (m st).bind fun d st1 => match lstItems d with
  | some ds => if colds ds then .ok (enumD 0 ds) st1 else .fail
  | none => .fail
theorem ci_enum {e : Expr} {m : ME} {p pos tpos : Pos} {elts : List Expr} {kk : Nat} (hg : Gl X "enumerate") (hm : X.mg "enumerate" = none) (he : CE ca X e m) (hs : starEach [e] X.env = [(false, eval e X.env)] := by rfl) :
    CI ca X (.Tuple elts kk tpos) (.Call (.Name "enumerate" p) [e] [] pos) (iEnum X.K (tCons (We X e) tNil)) (iEn m) := ⟨pi_enum hg hm (pa_cons (we_pe X e) pa_nil hs) hs, fun Hf H R σ st Q p h => by
  refine he Hf H R σ st _ p ?_
  unfold iEn at h
  cases r : m st with
  | fail => rw [r] at h; exact h
  | exc x st => rw [r] at h; exact h
  | ok d st1 =>
    rw [r] at h
    dsimp only [Res.bind] at h
    intro Hf1 H1 P R1 v t1 p1
    cases e : lstItems d with
    | none => rw [e] at h; exact h.elim
    | some ds =>
      rw [e] at h
      dsimp only at h
      by_cases hc : colds ds = true
      · rw [if_pos hc] at h
        obtain ⟨Hf', a, vs, rfl, s1, r1, p2, t2⟩ := p1.walked e hc
        exact ⟨a, vs, rfl, sqL_ex p2.w.ex s1, h Hf' H1 R1 _ (t1.trans t2) p2 (itd_enum s1 r1 hc)⟩
      · rw [if_neg hc] at h; exact h.elim⟩
theorem small62_ok {i : Int} (h : small62 i = true) : -(2 ^ 62) ≤ i ∧ i < 2 ^ 62 := of_decide_eq_true h
theorem ci_range1 {tg a : Expr} {m : ME} {p pos : Pos} (hg : Gl X "range") (hm : X.mg "range" = none) (ha : CE ca X a m) (hst : NoStar [a] := by exact ⟨fun _ => rfl, trivial⟩) : CI ca X tg (.Call (.Name "range" p) [a] [] pos) (iRng1 (Wa X [a])) (iR1 m) :=
  ⟨pi_range1 hg hm (wa_pa X [a]) (hst.1 _), fun Hf H R σ st Q p h => by
    refine wa_wl (fun e' r' q => noStar_suf hst e' r' q _) (ha Hf H R σ st _ p ?_)
    unfold iR1 at h
    cases r : m st with
    | fail => rw [r] at h; exact h
    | exc x st => rw [r] at h; exact h
    | ok d st1 =>
      rw [r] at h
      intro Hf1 H1 P R1 v t1 p1
      dsimp only [Res.bind] at h
      cases d with
      | int j =>
        dsimp only at h
        by_cases hj : small62 j = true
        · rw [if_pos hj] at h
          have := small62_ok hj
          show ∃ j : Int, _
          rw [rep_int p1.pend]
          exact ⟨j, rfl, this.1, this.2, h Hf1 H1 R1 _ (less0 t1) p1.drop itd_range⟩
        · rw [if_neg hj] at h; exact h.elim
      | _ => exact h.elim⟩
theorem ci_range2 {tg a b : Expr} {ma mb : ME} {p pos : Pos} (hg : Gl X "range") (hm : X.mg "range" = none) (ha : CE ca X a ma) (hb : CE ca X b mb) (hst : NoStar [a, b] := by exact ⟨fun _ => rfl, fun _ => rfl, trivial⟩) : CI ca X tg (.Call (.Name "range" p) [a, b] [] pos) (iRng2 (Wa X [a, b])) (iR2 ma mb) :=
  ⟨pi_range2 hg hm (wa_pa X [a, b]) (by rw [hst.1, hst.2.1]; rfl) (by rw [hst.2.1]; rfl), fun Hf H R σ st Q p h => by
    refine wa_wl (fun e' r' q => noStar_suf hst e' r' q _) (ha Hf H R σ st _ p ?_)
    unfold iR2 at h
    cases r : ma st with
    | fail => rw [r] at h; exact h
    | exc x st => rw [r] at h; exact h
    | ok d st1 =>
      rw [r] at h
      intro Hf1 H1 P R1 v t1 p1
      refine hb Hf1 H1 R1 σ st1 _ p1.drop ?_
      dsimp only [Res.bind] at h
      cases r2 : mb st1 with
      | fail => rw [r2] at h; exact h
      | exc x st => rw [r2] at h; exact fun Hf2 H2 R2 cls dd t2 p2 => h Hf2 H2 R2 cls dd ((less0 t1).trans t2) p2
      | ok e st2 =>
        rw [r2] at h
        dsimp only [Res.bind] at h
        intro Hf2 H2 P2 R2 v2 t2 p2
        cases d with
        | int i =>
          cases e with
          | int j =>
            dsimp only at h
            by_cases hj : (small62 i && small62 j) = true
            · rw [if_pos hj] at h
              rw [Bool.and_eq_true] at hj
              have h3 := small62_ok hj.1
              have h4 := small62_ok hj.2
              show ∃ i j : Int, _
              rw [rep_int p1.pend, rep_int p2.pend]
              exact ⟨i, j, rfl, ⟨h3.1, h3.2, h4.1, h4.2⟩, h Hf2 H2 R2 _ ((less0 t1).trans (less0 t2)) p2.drop itd_range⟩
            · rw [if_neg hj] at h; exact h.elim
          | _ => exact h.elim
        | _ => exact h.elim⟩
end
end DL

/-! DL9: comprehensions; lists of ranges; slices; methods of lists. -/
namespace DL
open PySem L2 PyProof.Rows

/-- what is raised is not followed -/
def Res.noX {α : Type} (r : Res α) : Res α :=
  match r with
  | .exc _ _ => .fail
  | r => r
def wipeS (st : Sl) : List Nat → Sl
  | [] => st
  | v :: vs => (wipeS st vs).set v none
def compD (g : MG) (t : MT) (e : ME) (vs : List Nat) : List D → Sl → List D → Res (List D)
  | [], st, acc => .ok acc st
  | d :: ds, st, acc => (g d st).noX.bind fun _ st1 => (t st1).noX.bind fun k st2 => if k then (e st2).noX.bind fun y st3 => if acc.length < 16777216 then compD g t e vs ds (wipeS st3 vs) (acc ++ [y]) else .fail
    else compD g t e vs ds (wipeS st2 vs) acc
def eLc (src : Sl → Res (List D)) (g : MG) (t : MT) (e : ME) (vs : List Nat) : ME := fun st => (src st).bind fun ds st1 => (compD g t e vs ds (wipeS st1 vs) []).bind fun acc st2 => .ok (.lst true acc) st2
def tYesM : MT := fun st => .ok true st

section
variable {ca : Nat → Addr} {K : PySem.W.Frag} {Hf H Hf1 H1 Hf2 H2 : Hp} {S S1 S2 P P1 P2 : Rg} {R R1 R2 : Nat → Rg} {pp qq : Prop} {σ σ' : L2.St} {st st' : Sl} {v : V} {d : D} {vs : List V} {ds : List D} {X : Cx} {L : List Nat}

theorem wipe_get {w : List Nat} {σ : L2.St} {i : Nat} : (wipe σ w)[i]? = if i ∈ w then (if i < σ.length then some none else none) else σ[i]? := by
  induction w with
  | nil => simp [wipe]
  | cons v w ih =>
    show ((wipe σ w).set v none)[i]? = _
    by_cases e : v = i
    · subst e
      rw [List.getElem?_set_self']
      simp only [List.mem_cons_self, if_true]
      by_cases h : v < σ.length
      · rw [if_pos h]
        have : v < (wipe σ w).length := by rw [wipe_length]; exact h
        rw [List.getElem?_eq_getElem this]; rfl
      · rw [if_neg h, List.getElem?_eq_none (by rw [wipe_length]; omega)]; rfl
    · rw [List.getElem?_set_ne e, ih]
      have : (i ∈ v :: w) = (i ∈ w) := by simp [List.mem_cons, Ne.symm e]
      simp only [this]
theorem wipe_eq {w : List Nat} (hl : σ'.length = σ.length) (h : ∀ i, i ∉ w → σ'[i]? = σ[i]?) : wipe σ' w = wipe σ w := by
  apply List.ext_getElem?
  intro i
  rw [wipe_get, wipe_get, hl]
  split
  · rfl
  · exact h i (by assumption)
/-- all places but w -/
def but (n : Nat) (w : List Nat) : List Nat := (List.range n).filter fun i => decide (i ∉ w)
theorem wipe_lk {w : List Nat} (k : Lk (but σ.length w) σ σ') : wipe σ' w = wipe σ w := wipe_eq k.1 fun i hi => by
  by_cases h : i < σ.length
  · exact k.2 i (List.mem_filter.mpr ⟨List.mem_range.mpr h, by simpa using hi⟩)
  · rw [List.getElem?_eq_none (by rw [k.1]; omega), List.getElem?_eq_none (by omega)]
theorem wipe_wipe {w : List Nat} : wipe (wipe σ w) w = wipe σ w := wipe_eq (wipe_length σ w) fun i hi => by rw [wipe_get, if_neg hi]
theorem wipeS_len {w : List Nat} {st : Sl} : (wipeS st w).length = st.length := by
  induction w with
  | nil => rfl
  | cons v w ih => show ((wipeS st w).set v none).length = _; rw [List.length_set, ih]
theorem wipeS_get {w : List Nat} {st : Sl} {i : Nat} (h : getS (wipeS st w) i = some d) : i ∉ w ∧ getS st i = some d := by
  induction w with
  | nil => exact ⟨by simp, h⟩
  | cons v w ih =>
    rcases set_get (show getS ((wipeS st w).set v none) i = some d from h) with ⟨h1, h2⟩ | ⟨h1, h2⟩
    · cases h2
    · obtain ⟨h3, h4⟩ := ih h2
      exact ⟨by simp [h3, Ne.symm h1], h4⟩
/-- the slots w forgotten, on both sides -/
theorem PR.wipe (w : List Nat) (p : PR ca K Hf H P pp R σ st) : PR ca K Hf H P pp R (wipe σ w) (wipeS st w) :=
  ⟨p.pend, by rw [wipeS_len, wipe_length]; exact p.len, fun i d e => by
    obtain ⟨h1, h2⟩ := wipeS_get e
    obtain ⟨v, e1, r⟩ := p.at_ i d h2
    exact ⟨v, by rw [wipe_get, if_neg h1]; exact e1, r⟩, p.dj, p.dp, p.w⟩
theorem PR.unwipe {w : List Nat} (p : PR ca K Hf H P pp R (L2.wipe σ w) st) : PR ca K Hf H P pp R σ st :=
  ⟨p.pend, by rw [p.len, wipe_length], fun i d e => by
    obtain ⟨v, e1, r⟩ := p.at_ i d e
    rw [wipe_get] at e1
    split at e1
    · split at e1 <;> cases e1
    · exact ⟨v, e1, r⟩, p.dj, p.dp, p.w⟩
/-- the new list, beside all -/
structure Acc (ca : Nat → Addr) (K : PySem.W.Frag) (Hf H : Hp) (Dl : Addr) (A : Rg) (acc : List D) (R : Nat → Rg) (σ : L2.St) (st : Sl) : Prop where
  pr : PR ca K Hf H (fun b => b = Dl ∨ A b) (∃ vs, H Dl = some (.lst vs) ∧ RepL ca K Hf H A vs acc ∧ ¬ A Dl) R σ st
theorem repL_snoc {A B : Rg} (r : RepL ca K Hf H A vs ds) (q : Rep ca K Hf H B v d) (dj : ∀ b, A b → B b → False) : RepL ca K Hf H (fun b => A b ∨ B b) (vs ++ [v]) (ds ++ [d]) :=
  repL_app' (S1 := A) (S2 := B) r (RepL.one q) (fun _ q => .inl q) (fun _ q => .inr q) dj

theorem eLc_src {src : Sl → Res (List D)} {g : MG} {t : MT} {e : ME} {w : List Nat} {Q : VK} (h : Post ca X Hf H S σ (eLc src g t e w st) Q) {Q' : It → Hp → Prop}
    (hk : ∀ ds st1 Hf1 H1 R1 J, Tr S Hf H (jn Em R1) Hf1 H1 → PR ca X.K Hf1 H1 Em True R1 σ st1 → ItD ca X.K J Hf1 ds → Post ca X Hf1 H1 (jn Em R1) σ ((compD g t e w ds (wipeS st1 w) []).bind fun acc st2 => .ok (.lst true acc) st2) Q → Q' J H1) : PostI ca X Hf H S σ (src st) Q' := by
  unfold eLc at h
  cases r : src st with
  | fail => rw [r] at h; exact h
  | exc x st1 => rw [r] at h; exact h
  | ok ds st1 =>
    rw [r] at h
    exact fun Hf1 H1 R1 J t1 p1 i1 => hk ds st1 Hf1 H1 R1 J t1 p1 i1 (Post.from t1 h)
/-- the reading of a list comprehension, from its parts' meanings in the blocks -/
theorem lc_read {wi : TI} {src : Sl → Res (List D)} {tg elt iter : Expr} {t : TG} {g : MG} {tt : TT} {mt : MT} {te : TE} {me : ME} {w : List Nat}
    (hi : CI ca X tg iter wi src)
    (hg : ∀ (Hf H : Hp) (P : Rg) (R : Nat → Rg) (σ : L2.St) (st : Sl) (v : V) (d : D) (Q : L2.St → Hp → Prop), PR ca X.K Hf H P (Rep ca X.K Hf H P v d) R σ st →
      (match g d st with
        | .ok _ st' => ∀ Hf' H' R' σ', Tr (jn P R) Hf H (jn Em R') Hf' H' → PR ca X.K Hf' H' Em True R' σ' st' → Lk (but σ.length w) σ σ' → Q σ' H'
        | _ => False) → t v σ H Q)
    (ht : ∀ (Hf H : Hp) (R : Nat → Rg) (σ : L2.St) (st : Sl) (Q : Bool → Hp → Prop), PR ca X.K Hf H Em True R σ st → (match mt st with
        | .ok k st' => ∀ Hf' H' R', Tr (jn Em R) Hf H (jn Em R') Hf' H' → PR ca X.K Hf' H' Em True R' σ st' → Q k H'
        | _ => False) → tt σ H Q)
    (he : ∀ (Hf H : Hp) (R : Nat → Rg) (σ : L2.St) (st : Sl) (Q : VK), PR ca X.K Hf H Em True R σ st → (match me st with
        | .ok d st' => ∀ Hf' H' P R' v, Tr (jn Em R) Hf H (jn P R') Hf' H' → PR ca X.K Hf' H' P (Rep ca X.K Hf' H' P v d) R' σ st' → Q v H'
        | _ => False) → te σ H Q)
    {Q : VK} (p : PR ca X.K Hf H Em True R σ st) (h : Post ca X Hf H (jn Em R) σ (eLc src g mt me w st) Q) : tLc wi t tt te w σ H Q := by
  refine hi.2 Hf H R σ st _ p (eLc_src h fun ds st1 Hf1 H1 R1 J t1 p1 it h1 => ?_)
  clear h t1 p
  intro Dl hD
  have hD1 : Hf1 Dl = none := (wl_new (o := .lst []) p1.w hD).2
  refine ⟨fun i m H' => m = ds.length - i ∧ i ≤ ds.length ∧ ∃ Hf' R' st' A acc, Tr (jn Em R1) Hf1 H1 (jn (fun b => b = Dl ∨ A b) R') Hf' H' ∧ Acc ca X.K Hf' H' Dl A acc R' (L2.wipe σ w) st' ∧ compD g mt me w (ds.drop i) st' acc = compD g mt me w ds (wipeS st1 w) [],
    ⟨ds.length, by simp, Nat.zero_le _, Hf1, R1, wipeS st1 w, Em, [], ?_, ⟨?_⟩, rfl⟩, ?_⟩
  · refine ⟨fun _ _ e => e, fun b o e _ => upd_keep hD b o e, fun b q => ?_, fun _ _ e => .inl e⟩
    rcases q with (q | q) | q
    · subst q; exact .inr hD
    · exact q.elim
    · exact .inl (.inr q)
  · have := (p1.wipe w).grow (o := .lst []) hD (P' := fun b => b = Dl ∨ Em b) (qq := ∃ vs, (upd H1 Dl (.lst [])) Dl = some (.lst vs) ∧ RepL ca X.K Hf1 (upd H1 Dl (.lst [])) Em vs [] ∧ ¬ Em Dl) ⟨[], upd_same, .nil, fun q => q⟩ (fun b q => q.elim id fun q => q.elim)
    exact this
  rintro i m H' ⟨rfl, hi', Hf', R', st', A, acc, t', ac, ef⟩
  have p' := ac.pr
  obtain ⟨g1, g2, g3⟩ := it Hf' H' t'.fx p'.w.ex p'.w.tp
  by_cases hlt : i < ds.length
  · refine .inr ⟨g1 i hlt, fun H2 => i + 1 ≤ ds.length ∧ ∃ Hf2 R2 st2 A2 acc2, Tr (jn Em R1) Hf1 H1 (jn (fun b => b = Dl ∨ A2 b) R2) Hf2 H2 ∧ Acc ca X.K Hf2 H2 Dl A2 acc2 R2 (L2.wipe σ w) st2 ∧ compD g mt me w (ds.drop (i + 1)) st2 acc2 = compD g mt me w ds (wipeS st1 w) [],
      fun H2 ⟨q1, q2⟩ => ⟨ds.length - (i + 1), by omega, rfl, q1, q2⟩, fun x H2 hy => ?_⟩
    obtain ⟨d, ed⟩ : ∃ d, ds[i]? = some d := ⟨ds[i], by simp [hlt]⟩
    obtain ⟨hd, Hf2, x1, x2, x3, x4, x5, rx⟩ := g3 i d x H2 ed hy
    obtain ⟨p2, t2⟩ := p'.drop.yield x1 x2 x3 x4 x5
    have edr : ds.drop i = d :: ds.drop (i + 1) := by
      rw [List.drop_eq_getElem_cons
          hlt]
      simp only [List.getElem?_eq_getElem hlt, Option.some.injEq] at ed
      rw [ed]
    rw [edr, compD] at ef
    have hnf : compD g mt me w ds (wipeS st1 w) [] = .fail → False := fun z => by rw [z] at h1; exact h1
    -- the new list is beside the slots, all the way
    obtain ⟨vs0, eD, rA, nA⟩ := p'.pend
    refine hg Hf2 H2 Em R' (L2.wipe σ w) st' x d _ (p2.put rx) ?_
    cases eg : g d st' with
    | fail => rw [eg] at ef; exact hnf ef.symm
    | exc x0 st2 => rw [eg] at ef; exact hnf ef.symm
    | ok a st2 =>
      rw [eg] at ef
      intro Hf3 H3 R3 σ3 t3 p3 k3
      have ew : L2.wipe σ3 w = L2.wipe σ w := by rw [wipe_lk k3, wipe_wipe]
      refine ⟨ew, ?_⟩
      refine ht Hf3 H3 R3 σ3 st2 _ p3 ?_
      dsimp only [Res.bind, Res.noX] at ef
      cases et : mt st2 with
      | fail => rw [et] at ef; exact hnf ef.symm
      | exc x0 st4 => rw [et] at ef; exact hnf ef.symm
      | ok k st4 =>
        rw [et] at ef
        dsimp only at ef
        intro Hf4 H4 R4 t4 p4
        have tA := (t2.trans t3).trans t4
        have pAcc : PR ca X.K Hf' H' (fun b => b = Dl ∨ A b) True R' (L2.wipe σ w) st' := p'.imp fun _ => trivial
        cases k with
        | false =>
          show _ ≤ _ ∧ _
          rw [if_neg (by decide)] at ef
          obtain ⟨c1, c2, c3, c4, c5⟩ := PR.carry (ppf := fun _ _ => True) pAcc tA p4
          refine ⟨by omega, Hf4, R4, wipeS st4 w, A, acc, (t'.trans c5).less (fun b q => ?_), ⟨?_⟩, ef⟩
          · rcases q with q | q
            · exact .inl (.inl q)
            · exact .inr q
          · have p5 : PR ca X.K Hf4 H4 (fun b => b = Dl ∨ A b) (∃ vs, H4 Dl = some (.lst vs) ∧ RepL ca X.K Hf4 H4 A vs acc ∧ ¬ A Dl) R4 σ3 st4 :=
              ⟨⟨vs0, c1 Dl (.inl rfl) _ eD, rA.keep tA.fx (fun b q => c1 b (.inr q)), nA⟩, p4.len, p4.at_, p4.dj, c3, c4.mono fun b q => by
                rcases q with q | q
                · exact .inl (.inl q)
                · exact .inr q⟩
            have := p5.wipe w
            rw [ew] at this
            exact this
        | true =>
          show te σ3 H4 _
          rw [if_pos rfl] at ef
          refine he Hf4 H4 R4 σ3 st4 _ p4 ?_
          cases ee : me st4 with
          | fail => rw [ee] at ef; exact hnf ef.symm
          | exc x0 st5 => rw [ee] at ef; exact hnf ef.symm
          | ok y st5 =>
            rw [ee] at ef
            dsimp only at ef
            intro Hf5 H5 P5 R5 vy t5 p5
            obtain ⟨c1, c2, c3, c4, c5⟩ := PR.carry (ppf := fun _ _ => True) pAcc (tA.trans t5) p5
            by_cases hl : acc.length < 16777216
            · rw [if_pos hl] at ef
              have eD5 := c1 Dl (.inl rfl) _ eD
              have rA5 := rA.keep (tA.trans t5).fx (fun b q => c1 b (.inr q))
              refine ⟨vs0, eD5, by rw [rA.length, ← sz_eq]; exact hl, by omega, Hf5, R5, wipeS st5 w, fun b => A b ∨ P5 b, acc ++ [y], ?_, ⟨?_⟩, ef⟩
              · refine ((t'.trans c5).trans ⟨fun _ _ e => e, fun b o e n => ?_, fun b q => .inl q, fun _ _ e => .inl e⟩).less fun b q => ?_
                · rw [upd_ne fun z => n (.inl (.inl (.inl z)))]; exact e
                · rcases q with (q | q | q) | q
                  · exact .inl (.inl (.inl q))
                  · exact .inl (.inl (.inr q))
                  · exact .inl (.inr q)
                  · exact .inr q
              · have hnD : ∀ b, (A b ∨ P5 b) → b ≠ Dl := fun b q z => by
                  subst z
                  rcases q with q | q
                  · exact nA q
                  · exact c2 b (.inl rfl) q
                have hk : ∀ b o, b ≠ Dl → H5 b = some o → upd H5 Dl (.lst (vs0 ++ [vy])) b = some o := fun b o n e => by rw [upd_ne n]; exact e
                have rN := (repL_snoc rA5 p5.pend fun b q1 q2 => c2 b (.inr q1) q2).keep (H' := upd H5 Dl (.lst (vs0 ++ [vy]))) (fun _ _ e => e) fun b q o e => hk b o (hnD b q) e
                have p6 : PR ca X.K Hf5 (upd H5 Dl (.lst (vs0 ++ [vy]))) (fun b => b = Dl ∨ A b ∨ P5 b) (∃ vs, (upd H5 Dl (.lst (vs0 ++ [vy]))) Dl = some (.lst vs) ∧ RepL ca X.K Hf5 (upd H5 Dl (.lst (vs0 ++ [vy]))) (fun b => A b ∨ P5 b) vs (acc ++ [y]) ∧ ¬ (A Dl ∨ P5 Dl)) R5 σ3 st5 :=
                  ⟨⟨_, upd_same, rN, fun q => hnD Dl q rfl⟩, p5.len, fun k d e => by
                    obtain ⟨v, e1, r⟩ := p5.at_ k d e
                    exact ⟨v, e1, r.keep (fun _ _ e => e) fun b q o e => hk b o (fun z => c3 k b (.inl z) q) e⟩, p5.dj, fun k b q1 q2 => by
                    rcases q1 with q | q | q
                    · exact c3 k b (.inl q) q2
                    · exact c3 k b (.inr q) q2
                    · exact p5.dp k b q q2, ⟨fun b o e => by
                      by_cases z : b = Dl
                      · subst z
                        have := c4.nf b (.inl (.inl (.inl rfl)))
                        rw [this] at e; cases e
                      · exact hk b o z (c4.ex b o e), fun b q => by
                      by_cases z : b = Dl
                      · subst z; exact ⟨_, upd_same⟩
                      · obtain ⟨o, e⟩ := c4.dm b (by
                          rcases q with (q | q | q) | q
                          · exact .inl (.inl (.inl q))
                          · exact .inl (.inl (.inr q))
                          · exact .inl (.inr q)
                          · exact .inr q)
                        exact ⟨o, hk b o z e⟩, fun b q => c4.nf b (by
                          rcases q with (q | q | q) | q
                          · exact .inl (.inl (.inl q))
                          · exact .inl (.inl (.inr q))
                          · exact .inl (.inr q)
                          · exact .inr q), mkTp⟩⟩
                have := p6.wipe w
                rw [ew] at this
                exact this
            · rw [if_neg hl] at ef; exact (hnf ef.symm).elim
  · have e1 : i = ds.length := by omega
    subst e1
    refine .inl ⟨g2, ?_⟩
    rw [List.drop_length, compD] at ef
    rw [← ef] at h1
    have h2 : Post ca X Hf1 H1 (jn Em R1) σ (.ok (.lst true acc) st') Q := h1
    obtain ⟨vs0, eD, rA, nA⟩ := p'.pend
    exact h2 Hf' H' (fun b => b = Dl ∨ A b) R' (.ref Dl) t' ((p'.unwipe).imp fun _ => .lstO (.inl rfl) eD (rA.mono fun b q => ⟨.inr q, fun z => nA (z ▸ q)⟩))

/-- a reading keeps a meaning -/
def CER (ca : Nat → Addr) (X : Cx) (te : TE) (m : ME) : Prop := ∀ (Hf H : Hp) (R : Nat → Rg) (σ : L2.St) (st : Sl) (Q : VK), PR ca X.K Hf H Em True R σ st → Post ca X Hf H (jn Em R) σ (m st) Q → te σ H Q
theorem ce_of {e : Expr} {te : TE} {m : ME} (hp : PE X e te) (h : CER ca X te m) : CE ca X e m := fun Hf H R σ st Q p hq => we_of hp (h Hf H R σ st Q p hq)
theorem cs_asgR {s : Stmt} {te : TE} {m : ME} {t : TG} {tg : Expr} {g : MG} (he : CER ca X te m) (hg : CG ca X L tg t g) (hp : PS X s (tAsg te t)) : CS ca X L s (sAsg m g) := fun Hf H R σ st E p h => by
  refine ws_of hp (he Hf H R σ st _ p ?_)
  refine post_toS h fun d st1 Hf1 H1 P1 R1 v e1 t1 p1 h1 => ?_
  refine hg.2 Hf1 H1 P1 R1 σ st1 v d _ p1 ?_
  cases eg : g d st1 with
  | fail => rw [eg] at h1; exact h1
  | exc x st2 => rw [eg] at h1; exact h1
  | ok a st2 =>
    rw [eg] at h1
    exact fun Hf2 H2 R2 σ2 t2 p2 k2 => h1 Hf2 H2 R2 σ2 t2 p2 k2
theorem not_but {n i : Nat} {w : List Nat} (h : i ∈ w) : i ∉ but n w := fun q => by
  have := (List.mem_filter.mp q).2
  simp at this
  exact this h
/-- the block of a comprehension -/
abbrev bk (X : Cx) (scope : Scope) (s : Shared) (H : Hp) (C : Addr) (cl : List (Str × Addr)) (fp : List Addr) : Cx := X.blk s H scope (compEnvC scope cl C X.env) fp
def TeB (X : Cx) (scope : Scope) (e : Expr) : TE := fun σ H Q => ∀ s H0 C cl fp, We (bk X scope s H0 C cl fp) e σ H Q
def TtB (X : Cx) (scope : Scope) (e : Expr) : TT := fun σ H Q => ∀ s H0 C cl fp, Wt (bk X scope s H0 C cl fp) e σ H Q
theorem lc_cer {wi : TI} {src : Sl → Res (List D)} {tg elt iter : Expr} {scope : Scope} {t : TG} {g : MG} {me : ME} {w : List Nat}
    (hi : CI ca X tg iter wi src) (hg : ∀ n s H C cl fp, CG ca (bk X scope s H C cl fp) (but n w) tg t g) (he : ∀ s H C cl fp, CE ca (bk X scope s H C cl fp) elt me) : CER ca X (tLc wi t tYes (TeB X scope elt) w) (eLc src g tYesM me w) :=
  fun Hf H R σ st Q p h => lc_read (elt := elt) (mt := tYesM) hi (fun Hf H P R σ st v d Q p h => (hg σ.length {} H 0 [] []).2 Hf H P R σ st v d Q p h) (fun Hf H R σ st Q p h => h Hf H R (Tr.refl fun _ q => q) p)
    (fun Hf H R σ st Q p h s H0 C cl fp => he s H0 C cl fp Hf H R σ st Q p (by
      cases e : me st with
      | ok d st1 => rw [e] at h; exact h
      | exc x st1 => rw [e] at h; exact h.elim
      | fail => rw [e] at h; exact h)) p h
theorem lc_cerIf {wi : TI} {src : Sl → Res (List D)} {tg elt iter c : Expr} {scope : Scope} {t : TG} {g : MG} {me : ME} {mt : MT} {w : List Nat}
    (hi : CI ca X tg iter wi src) (hg : ∀ n s H C cl fp, CG ca (bk X scope s H C cl fp) (but n w) tg t g) (ht : ∀ s H C cl fp, CT ca (bk X scope s H C cl fp) c mt) (he : ∀ s H C cl fp, CE ca (bk X scope s H C cl fp) elt me) : CER ca X (tLc wi t (TtB X scope c) (TeB X scope elt) w) (eLc src g mt me w) :=
  fun Hf H R σ st Q p h => lc_read (elt := elt) (mt := mt) hi (fun Hf H P R σ st v d Q p h => (hg σ.length {} H 0 [] []).2 Hf H P R σ st v d Q p h) (fun Hf H R σ st Q p h s H0 C cl fp => ht s H0 C cl fp Hf H R σ st Q p (by
      cases e : mt st with
      | ok d st1 => rw [e] at h; exact h
      | exc x st1 => rw [e] at h; exact h.elim
      | fail => rw [e] at h; exact h))
    (fun Hf H R σ st Q p h s H0 C cl fp => he s H0 C cl fp Hf H R σ st Q p (by
      cases e : me st with
      | ok d st1 => rw [e] at h; exact h
      | exc x st1 => rw [e] at h; exact h.elim
      | fail => rw [e] at h; exact h)) p h
theorem pe_teB {scope : Scope} {elt : Expr} : ∀ (s : Shared) (H : Hp) (C : Addr) (cl : List (Str × Addr)) (fp : List Addr), PE (bk X scope s H C cl fp) elt (TeB X scope elt) := fun s H C cl fp => ⟨fun pins s1 σ H1 Q I h => h s H C cl fp pins s1 I⟩
theorem pt_ttB {scope : Scope} {c : Expr} : ∀ (s : Shared) (H : Hp) (C : Addr) (cl : List (Str × Addr)) (fp : List Addr), PTs (bk X scope s H C cl fp) [c] (TtB X scope c) := fun s H C cl fp => pts_one ⟨fun pins s1 σ H1 Q I h => h s H C cl fp pins s1 I⟩
/-- [elt for tg in iter] -/
theorem ce_lc {wi : TI} {src : Sl → Res (List D)} {tg elt iter : Expr} {scope : Scope} {own : List (Str × Nat)} {pos : Pos} {t : TG} {g : MG} {me : ME} (hc : X.calm = true) (hN : X.N.Nodup) (hi : CI ca X tg iter wi src) (ok : BlkOk X.N X.env.scope scope own)
    (hg : ∀ n s H C cl fp, CG ca (bk X scope s H C cl fp) (but n (own.map (·.2))) tg t g) (he : ∀ s H C cl fp, CE ca (bk X scope s H C cl fp) elt me) (hs : ∀ x, foldedSetIterable iter X.env x = pure x := by intro _; rfl) :
    CE ca X (.ListComp elt [⟨tg, iter, [], 0⟩] scope pos) (eLc src g tYesM me (own.map (·.2))) :=
  ce_of (pe_lc hc hN hi.1 ok (fun s H C cl fp => (hg 0 s H C cl fp).1) (fun _ _ _ _ _ => pts_nil) pe_teB hs) (lc_cer hi hg he)
theorem ce_lcIf {wi : TI} {src : Sl → Res (List D)} {tg elt iter c : Expr} {scope : Scope} {own : List (Str × Nat)} {pos : Pos} {t : TG} {g : MG} {me : ME} {mt : MT} (hc : X.calm = true) (hN : X.N.Nodup) (hi : CI ca X tg iter wi src) (ok : BlkOk X.N X.env.scope scope own)
    (hg : ∀ n s H C cl fp, CG ca (bk X scope s H C cl fp) (but n (own.map (·.2))) tg t g) (ht : ∀ s H C cl fp, CT ca (bk X scope s H C cl fp) c mt) (he : ∀ s H C cl fp, CE ca (bk X scope s H C cl fp) elt me) (hs : ∀ x, foldedSetIterable iter X.env x = pure x := by intro _; rfl) :
    CE ca X (.ListComp elt [⟨tg, iter, [c], 0⟩] scope pos) (eLc src g mt me (own.map (·.2))) :=
  ce_of (pe_lc hc hN hi.1 ok (fun s H C cl fp => (hg 0 s H C cl fp).1) pt_ttB pe_teB hs) (lc_cerIf hi hg ht he)
/-- name = [elt for tg in iter] -/
theorem cs_setLc {i : Nat} {y : Str} {py spos : Pos} {wi : TI} {src : Sl → Res (List D)} {tg elt iter : Expr} {scope : Scope} {own : List (Str × Nat)} {pos : Pos} {t : TG} {g : MG} {me : ME} (hc : X.calm = true) (hN : X.N.Nodup) (hy : X.N[i]? = some y) (hyl : X.env.scope.names.lookup y = some .local) (hL : i ∉ L) (hpg : PG X (.Name y py) (gName i))
    (hsw : swapsWith (.ListComp elt [⟨tg, iter, [], 0⟩] scope pos) (some (.Name y py)) spos.line X.env = pure true) (hi : CI ca X tg iter wi src) (ok : BlkOk X.N X.env.scope scope own)
    (hg : ∀ n s H C cl fp, CG ca (bk X scope s H C cl fp) (but n (own.map (·.2))) tg t g) (he : ∀ s H C cl fp, CE ca (bk X scope s H C cl fp) elt me) (hs : ∀ x, foldedSetIterable iter X.env x = pure x := by intro _; rfl) :
    CS ca X L (.Assign [.Name y py] (.ListComp elt [⟨tg, iter, [], 0⟩] scope pos) spos) (sAsg (eLc src g tYesM me (own.map (·.2))) (gN i)) :=
  cs_asgR (lc_cer hi hg he) (cg_name hpg hL) (ps_setLc hc hN hy hyl hsw hi.1 ok (fun s H C cl fp => (hg 0 s H C cl fp).1) (fun _ _ _ _ _ => pts_nil) pe_teB hs)
theorem cs_setLcIf {i : Nat} {y : Str} {py spos : Pos} {wi : TI} {src : Sl → Res (List D)} {tg elt iter c : Expr} {scope : Scope} {own : List (Str × Nat)} {pos : Pos} {t : TG} {g : MG} {me : ME} {mt : MT} (hc : X.calm = true) (hN : X.N.Nodup) (hy : X.N[i]? = some y) (hyl : X.env.scope.names.lookup y = some .local) (hL : i ∉ L) (hpg : PG X (.Name y py) (gName i))
    (hsw : swapsWith (.ListComp elt [⟨tg, iter, [c], 0⟩] scope pos) (some (.Name y py)) spos.line X.env = pure true) (hi : CI ca X tg iter wi src) (ok : BlkOk X.N X.env.scope scope own)
    (hg : ∀ n s H C cl fp, CG ca (bk X scope s H C cl fp) (but n (own.map (·.2))) tg t g) (ht : ∀ s H C cl fp, CT ca (bk X scope s H C cl fp) c mt) (he : ∀ s H C cl fp, CE ca (bk X scope s H C cl fp) elt me) (hs : ∀ x, foldedSetIterable iter X.env x = pure x := by intro _; rfl) :
    CS ca X L (.Assign [.Name y py] (.ListComp elt [⟨tg, iter, [c], 0⟩] scope pos) spos) (sAsg (eLc src g mt me (own.map (·.2))) (gN i)) :=
  cs_asgR (lc_cerIf hi hg ht he) (cg_name hpg hL) (ps_setLc hc hN hy hyl hsw hi.1 ok (fun s H C cl fp => (hg 0 s H C cl fp).1) pt_ttB pe_teB hs)

/-! ### list(range(..)) -/
def rgOk (a b : Int) : Bool := decide (-(2 ^ 62) ≤ a ∧ a < 2 ^ 62 ∧ -(2 ^ 62) ≤ b ∧ b < 2 ^ 62 ∧ (b - a).toNat ≤ 16777216)
def oLRg : List D → Option Out
  | [.int i, .int j] => if rgOk i j then some (.newL (rangeD i (j - i).toNat)) else none
  | _ => none
theorem repL_rangeD : ∀ (n k : Nat) (lo : Int), RepL ca K Hf H Em ((List.range' k n).map fun i => V.int (lo + (i : Nat))) ((List.range' k n).map fun i => D.int (lo + (i : Nat)))
  | 0, _, _ => .nil
  | n + 1, k, lo => by
    rw [List.range'_succ, List.map_cons, List.map_cons]
    exact .cons (S1 := Em) (S2 := Em) .int (repL_rangeD n (k + 1) lo) (fun _ q => q) (fun _ q => q) fun _ q _ => q
theorem rgOk_ok {a b : Int} (h : rgOk a b = true) : RgOk a b := by
  have := of_decide_eq_true h
  exact ⟨this.1, this.2.1, this.2.2.1, this.2.2.2.1, by have := this.2.2.2.2; omega⟩
theorem ce_listRg {a b : Expr} {oa ob : Opd} {p p2 pos pos2 : Pos} (hc : X.calm = true) (hg : Gl X "list") (hm : X.mg "list" = none) (hg2 : Gl X "range") (hm2 : X.mg "range" = none) (ha : CO ca X a oa) (hb : CO ca X b ob)
    (na : starEach [.Call (.Name "range" p2) [a, b] [] pos2] X.env = (false, eval (.Call (.Name "range" p2) [a, b] [] pos2) X.env) :: starEach [] X.env := by rfl)
    (n1 : starEach [a, b] X.env = (false, eval a X.env) :: starEach [b] X.env := by rfl) (n2 : starEach [b] X.env = (false, eval b X.env) :: starEach [] X.env := by rfl) (hp : (backTo pos2 (starEach [b] X.env)).any (·.1) = false := by rfl) :
    CE ca X (.Call (.Name "list" p) [.Call (.Name "range" p2) [a, b] [] pos2] [] pos) (eOp oLRg [oa, ob]) :=
  ce_op (es := [a, b]) (rl := rl2 fun x y H Q => ∃ i j, x = .int i ∧ y = .int j ∧ RgOk i j ∧ ∀ q, H q = none → Q (.ref q) (upd H q (.lst (rgV i j)))) (fun σ H Q h => we_of (pe_listRg hc hg hm (prg_2 hg2 hm2 (we_pe X a) (we_pe X b) n1 n2 hp) na) h) (.cons ha (.cons hb .nil)) fun Hf H vs ds o Q hx rd h q => by
    match ds, h with
    | [.int i, .int j], h =>
      dsimp only [oLRg] at h
      split at h
      · rename_i c
        cases h
        obtain ⟨v, w, S, S', e1, r1, r2⟩ := rdl2 rd rfl
        subst e1
        refine ⟨i, j, rep_int r1, rep_int r2, rgOk_ok c, fun p hp => q p _ hp ?_⟩
        unfold rgV rangeD
        rw [List.range_eq_range']
        exact repL_rangeD _ _ _
      · cases h
end
end DL

/-! DL10: slices; methods of lists; is of truth values. -/
namespace DL
open PySem L2 PyProof.Rows

def cutO (lo hi : Option Int) : List D → Option Out
  | [x] => match lstItems x with
    | some xs => newLc (cutD xs lo hi)
    | none => none
  | _ => none
def oSl01 : List D → Option Out
  | [x, .int b] => cutO none (some b) [x]
  | _ => none
def oRev : List D → Option Out
  | [x] => match lstItems x with
    | some xs => newLc xs.reverse
    | none => none
  | _ => none
def oIsB : List D → Option Out
  | [.bl a, .bl b] => some (.val (.bl (decide (a = b))))
  | _ => none
def oNotB : List D → Option Out
  | [.bl a, .bl b] => some (.val (.bl (!decide (a = b))))
  | _ => none
def isLst (d : D) : Bool := (lstItems d).isSome
/-- a method that only looks: the receiver a slot -/
def eMt (i : Nat) (f : List D → Option Out) (os : List Opd) : ME := fun st => match getS st i with
  | some d0 => if isLst d0 then opds os st fun gs st2 => (match (getS st2 i).bind fun x => (gs st2).bind fun ys => f (x :: ys) with
    | some o => .ok o.d st2
    | none => .fail) else .fail
  | none => .fail
/-- xs.append(e), xs the slot i's own list -/
def eApp (i : Nat) (m : ME) : ME := fun st => match getS st i with
  | some d0 => if isLst d0 then (m st).bind fun d st1 => (match getS st1 i with
    | some (.lst true xs) => if xs.length < 16777216 then .ok .non (st1.set i (some (.lst true (xs ++ [d])))) else .fail
    | _ => .fail) else .fail
  | none => .fail
def ext2 : Option D → D → Option (List D)
  | some (.lst true xs), .lst _ ys => if colds ys && decide (xs.length + ys.length ≤ 16777216) then some (xs ++ ys) else none
  | _, _ => none
/-- xs.extend(e) -/
def eExt (i : Nat) (m : ME) : ME := fun st => match getS st i with
  | some d0 => if isLst d0 then (m st).bind fun d st1 => (match ext2 (getS st1 i) d with
    | some zs => .ok .non (st1.set i (some (.lst true zs)))
    | none => .fail) else .fail
  | none => .fail
section
variable {ca : Nat → Addr} {K : PySem.W.Frag} {Hf H Hf1 H1 Hf2 H2 : Hp} {S S1 S2 P P1 P2 : Rg} {R R1 R2 : Nat → Rg} {pp qq : Prop} {σ σ' : L2.St} {st st' : Sl} {v : V} {d : D} {vs : List V} {ds xs : List D} {X : Cx} {L : List Nat}

/-! ### slices of lists -/
theorem repL_cut {lo hi : Option Int} (r : RepL ca K Hf H S vs xs) (hc : colds (cutD xs lo hi) = true) : RepL ca K Hf H Em (cutV vs lo hi) (cutD xs lo hi) := by
  have rd : ∀ (n : Nat) {S : Rg} {vs : List V} {xs : List D}, RepL ca K Hf H S vs xs → RepL ca K Hf H S (vs.drop n) (xs.drop n) := by
    intro n
    induction n with
    | zero => intro S vs xs r; exact r
    | succ n ih =>
      intro S vs xs r
      cases r with
      | nil => exact .nil
      | cons r1 r2 h1 h2 h3 => exact (ih r2).mono h2
  have rt : ∀ (n : Nat) {S : Rg} {vs : List V} {xs : List D}, RepL ca K Hf H S vs xs → RepL ca K Hf H S (vs.take n) (xs.take n) := by
    intro n
    induction n with
    | zero => intro S vs xs r; exact .nil
    | succ n ih =>
      intro S vs xs r
      cases r with
      | nil => exact .nil
      | cons r1 r2 h1 h2 h3 => exact .cons r1 (ih r2) h1 h2 h3
  refine repL_cold (S := S) ?_ hc
  unfold cutV cutD
  rw [r.length]
  exact rt _ (rd _ r)
theorem os_cut {lo hi : Option Int} {x : D} {o : Out} {Q : VK} (hx : Ex Hf H) (r1 : Rep ca K Hf H S v x) (h : cutO lo hi [x] = some o) (q : OutQ ca K Hf H o Q) : rSlL K v lo hi H Q := by
  dsimp only [cutO] at h
  split at h
  · rename_i xs ei
    obtain ⟨rfl, hc, hl⟩ := newLc_some h
    obtain ⟨a, vs, T, rfl, e2, r3⟩ := rep_lstItems hx r1 ei
    exact ⟨a, vs, rfl, e2, fun p hp => q p _ hp (repL_cut r3 hc)⟩
  · cases h
/-- xs[::-1] -/
theorem repL_rev (r : RepL ca K Hf H Em vs xs) : RepL ca K Hf H Em vs.reverse xs.reverse := by
  induction xs generalizing vs with
  | nil => cases r; exact .nil
  | cons d ds ih =>
    cases r with
    | cons r1 r2 h1 h2 h3 =>
      rw [List.reverse_cons,
          List.reverse_cons]
      exact repL_app' (S1 := Em) (S2 := Em) (ih (r2.mono h2)) (RepL.one (r1.mono h1)) (fun _ q => q) (fun _ q => q) fun _ q _ => q
theorem colds_rev (h : colds xs.reverse = true) : colds xs = true := by
  unfold colds at h ⊢
  rw [List.all_reverse] at h; exact h
/-! ### methods that look -/
theorem rep_isLst (hx : Ex Hf H) (r : Rep ca K Hf H S v d) (h : isLst d = true) : tyV K "list" v H := by
  obtain ⟨xs, e⟩ := Option.isSome_iff_exists.mp h
  obtain ⟨a, vs, T, rfl, e2, r3⟩ := rep_lstItems hx r e
  exact .inl ⟨rfl, vs, e2⟩
/-! ### methods that write -/
theorem ce_app {o e : Expr} {i : Nat} {m : ME} {apos cpos : Pos} (ho : PE X o (tVar i)) (he : CE ca X e m)
    (hbase : attributeBase o "append" X.env (eval o X.env) = eval o X.env := by rfl)
    (hfew : ((backTo cpos (starEach [e] X.env)).all (fun x => !x.1) &&
        (backToKw cpos (keywordEach [] X.env)).all (fun x => x.1.isSome)
      && decide ([e].length + ([] : List Keyword).length + (if ([] : List Keyword).isEmpty then 0 else 1) < 30)) = true := by rfl)
    (hline : (apos.endLine == cpos.line) = true := by rfl) (hs : starEach [e] X.env = (false, eval e X.env) :: starEach [] X.env := by rfl) :
    CE ca X (.Call (.Attribute o "append" apos) [e] [] cpos) (eApp i m) := fun Hf H R σ st Q p h => by
  refine we_of (pe_bm PySem.F.plainAttrs_list PySem.F.slot_list_append PySem.F.type_list_append mt_append ho (pa_cons (we_pe X e) pa_nil hs) hbase hfew hline hs rfl) ?_
  unfold eApp at h
  cases g : getS st i with
  | none => rw [g] at h; exact h.elim
  | some d0 =>
    rw [g] at h
    dsimp only at h
    by_cases hl : isLst d0 = true
    · rw [if_pos hl] at h
      obtain ⟨x, ex, rx⟩ := p.at_ i d0 g
      refine ⟨x, ex, rep_isLst p.w.ex rx hl, he Hf H R σ st _ p ?_⟩
      cases em : m st with
      | fail => rw [em] at h; exact h
      | exc x0 st1 => rw [em] at h; exact h
      | ok d st1 =>
        rw [em] at h
        have h0 : Post ca X Hf H (jn Em R) σ (match getS st1 i with
          | some (.lst true xs) => if xs.length < 16777216 then .ok .non (st1.set i (some (.lst true (xs ++ [d])))) else .fail
          | _ => .fail) Q := h
        clear h
        intro Hf1 H1 P1 R1 v t1 p1
        cases g1 : getS st1 i with
        | none => rw [g1] at h0; exact h0.elim
        | some dx =>
          rw [g1] at h0
          cases dx with
          | lst ow xs =>
            cases ow with
            | false => exact h0.elim
            | true =>
              dsimp only at h0
              by_cases hz : xs.length < 16777216
              · rw [if_pos hz] at h0
                obtain ⟨a, vs, e1, ra, e2, r2⟩ := p1.drop.ownList g1
                rw [ex] at e1
                cases e1
                refine ⟨a, vs, v, rfl, rfl, e2, by rw [r2.length, ← sz_eq]; exact hz, ?_⟩
                have hk : ∀ b o, b ≠ a → H1 b = some o → upd H1 a (.lst (vs ++ [v])) b = some o := fun b o n e => by rw [upd_ne n]; exact e
                have hPa : ∀ b, P1 b → b ≠ a := fun b q z => by subst z; exact p1.dp i b q ra
                have rN := (repL_snoc r2 p1.pend fun b q1 q2 => p1.dp i b q2 q1.1).keep (H' := upd H1 a (.lst (vs ++ [v]))) (fun _ _ e => e) fun b q o e => hk b o (q.elim (fun q => q.2) (hPa b)) e
                refine h0 Hf1 (upd H1 a (.lst (vs ++ [v]))) Em (fun j b => if j = i then R1 i b ∨ P1 b else R1 j b) .non (t1.trans ⟨fun _ _ e => e, fun b o e n => hk b o (fun z => n (.inr ⟨i, z ▸ ra⟩)) e, fun b q => ?_, fun _ _ e => .inl e⟩) ⟨.non, by rw [List.length_set]; exact p1.len, fun j d' e => ?_, fun j k b q1 q2 => ?_, fun _ _ q => q.elim, ⟨fun b o e => ?_, fun b q => ?_, fun b q => ?_, mkTp⟩⟩
                · rcases q with q | ⟨j, q⟩
                  · exact q.elim
                  · split at q
                    · exact .inl (q.elim (fun q => .inr ⟨i, q⟩) .inl)
                    · exact .inl (.inr ⟨j, q⟩)
                · rcases set_get e with ⟨q1, q2⟩ | ⟨q1, q2⟩
                  · subst q1
                    cases q2
                    refine ⟨_, ex, ?_⟩
                    rw [show (fun b => if i = i then R1 i b ∨ P1 b else R1 i b) = (fun b => R1 i b ∨ P1 b) from by funext b; rw [if_pos rfl]]
                    exact .lstO (.inl ra) upd_same (rN.mono fun b q => q.elim (fun q => ⟨.inl q.1, q.2⟩) fun q => ⟨.inr q, hPa b q⟩)
                  · obtain ⟨v', e3, r3⟩ := p1.at_ j d' q2
                    refine ⟨v', e3, ?_⟩
                    rw [show (fun b => if j = i then R1 i b ∨ P1 b else R1 j b) = R1 j from by funext b; rw [if_neg (Ne.symm q1)]]
                    exact r3.keep (fun _ _ e => e) fun b q o e => hk b o (fun z => q1 (p1.dj i j a ra (z ▸ q))) e
                · split at q1 <;> split at q2
                  · rename_i z1 z2; exact z1.trans z2.symm
                  · rename_i z1 z2
                    rcases q1 with q1 | q1
                    · exact z1.trans (p1.dj i k b q1 q2)
                    · exact (p1.dp k b q1 q2).elim
                  · rename_i z1 z2
                    rcases q2 with q2 | q2
                    · exact (p1.dj j i b q1 q2).trans z2.symm
                    · exact (p1.dp j b q2 q1).elim
                  · exact p1.dj j k b q1 q2
                · have hf : Hf1 a = none := p1.w.nf a (.inr ⟨i, ra⟩)
                  have := p1.w.ex b o e
                  exact hk b o (fun z => by subst z; rw [hf] at e; cases e) this
                · have : jn P1 R1 b := by
                    rcases q with q | ⟨j, q⟩
                    · exact q.elim
                    · split at q
                      · exact q.elim (fun q => .inr ⟨i, q⟩) .inl
                      · exact .inr ⟨j, q⟩
                  obtain ⟨o, e⟩ := p1.w.dm b this
                  by_cases z : b = a
                  · subst z; exact ⟨_, upd_same⟩
                  · exact ⟨o, hk b o z e⟩
                · have : jn P1 R1 b := by
                    rcases q with q | ⟨j, q⟩
                    · exact q.elim
                    · split at q
                      · exact q.elim (fun q => .inr ⟨i, q⟩) .inl
                      · exact .inr ⟨j, q⟩
                  exact p1.w.nf b this
              · rw [if_neg hz] at h0; exact h0.elim
          | _ => exact h0.elim
    · rw [if_neg hl] at h; exact h.elim
end
end DL

/-! DL11: instances: made, their fields stored and read, properties, methods. -/
namespace DL
open PySem L2 PyProof.Rows

/-- C(..): a new instance goes to __init__ (f), which keeps its parameter 0 -/
def eMake (C : Nat) (f : MF) (ms : MA) : ME := fun st => (ms st).bind fun ds st1 => match f (.ins true C [] :: ds) with
  | .ok .non ps => (match getS ps 0 with
    | some d => .ok d st1
    | none => .fail)
  | .exc x _ => .exc x st1
  | _ => .fail
def putD (f : Str) (d : D) : List (Str × D) → List (Str × D)
  | [] => [(f, d)]
  | (g, x) :: r => if g = f then (g, d) :: r else (g, x) :: putD f d r
/-- self.f = e, self the slot i's own instance of the class C -/
def sFldM (C i : Nat) (f : Str) (m : ME) : MS := fun st => (m st).toS fun d st1 => match getS st1 i with
  | some (.ins true C' fs) => if C' = C ∧ fs.length < 1000 ∧ cold d = true then .next (st1.set i (some (.ins true C' (putD f d fs)))) else .fail
  | _ => .fail
/-- o.f -/
def oFld (C : Nat) (f : Str) : List D → Option Out
  | [.ins _ C' fs] => if C' = C then (match fs.lookup f with
    | some d => if cold d then some (.val d) else none
    | none => none) else none
  | _ => none

section
variable {ca : Nat → Addr} {K : PySem.W.Frag} {Hf H Hf1 H1 Hf2 H2 : Hp} {S S1 S2 P P1 P2 : Rg} {R R1 R2 : Nat → Rg} {pp qq : Prop} {σ σ' : L2.St} {st st' : Sl} {v : V} {d : D} {vs : List V} {ds xs : List D} {X : Cx} {L : List Nat}

/-! ### reading a field -/
theorem lookup_keys {α β : Type} : ∀ {fs : List (Str × α)} {gs : List (Str × β)} {f : Str} {j : Nat} {b : β}, fs.map (·.1) = gs.map (·.1) → gs.lookup f = some b → ∃ (j : Nat) (a : α), fs.lookup f = some a ∧ (fs.map (·.2))[j]? = some a ∧ (gs.map (·.2))[j]? = some b
  | [], [], _, _, _, _, h => by cases h
  | [], _ :: _, _, _, _, e, _ => by cases e
  | _ :: _, [], _, _, _, e, _ => by cases e
  | (x, a) :: fs, (y, b') :: gs, f, j, b, e, h => by
    simp only [List.map_cons,
        List.cons.injEq] at e
    obtain ⟨rfl, e⟩ := e
    rw [List.lookup_cons] at h ⊢
    cases hq : (f == x) with
    | true =>
      rw [hq] at h
      cases h
      exact ⟨0, a, rfl, rfl, rfl⟩
    | false =>
      rw [hq] at h
      obtain ⟨k, a', h1, h2, h3⟩ := lookup_keys (j := 0) e h
      exact ⟨k + 1, a', h1, by simpa using h2, by simpa using h3⟩
theorem rep_ins {o : Bool} {C : Nat} {gs : List (Str × D)} (hx : Ex Hf H) (r : Rep ca K Hf H S v (.ins o C gs)) : ∃ a dx fs T, v = .ref a ∧ H a = some (.ins (ca C) dx fs) ∧ fs.map (·.1) = gs.map (·.1) ∧ RepL ca K Hf H T (fs.map (·.2)) (gs.map (·.2)) := by
  cases r with
  | insF e k r => exact ⟨_, _, _, Em, rfl, hx _ _ e, k, r⟩
  | insO s e k r => exact ⟨_, _, _, _, rfl, e, k, r⟩
theorem os_fld {C : Nat} {f : Str} : OpS ca K (rl1 fun x H Q => ∃ a dx fs v, x = .ref a ∧ H a = some (.ins (ca C) dx fs) ∧ fs.lookup f = some v ∧ Q v H) (oFld C f) := fun Hf H vs ds o Q hx rd h q => by
  match ds, h with
  | [.ins ow C' gs], hh =>
    dsimp only [oFld] at hh
    by_cases hC : C' = C
    · rw [if_pos hC] at hh
      subst hC
      cases el : gs.lookup f with
      | none => rw [el] at hh; cases hh
      | some dd =>
        rw [el] at hh
        dsimp only at hh
        by_cases hc : cold dd = true
        · rw [if_pos hc] at hh
          cases hh
          obtain ⟨v, S, e1, r1⟩ := rdl1 rd rfl
          subst e1
          obtain ⟨a, dx, fs, T, rfl, e2, k, r⟩ := rep_ins hx r1
          obtain ⟨j, v', h1, h2, h3⟩ := lookup_keys (j := 0) k el
          obtain ⟨v2, T2, e3, r2, _⟩ := repL_at r h3
          rw [h2] at e3
          cases e3
          have hd : hot dd = false := by unfold cold at hc; simpa using hc
          exact ⟨a, dx, fs, v', rfl, e2, h1, q v' (r2.cold hd)⟩
        · rw [if_neg hc] at hh; cases hh
    · rw [if_neg hC] at hh; cases hh
theorem ce_fld {e : Expr} {oe : Opd} {C : Nat} {f : Str} {pos : Pos} (c : Cls X.K (ca C)) (n : NoAttr X.K (ca C) f) (he : CO ca X e oe) (hb : attributeBase e f X.env (eval e X.env) = eval e X.env := by rfl) : CE ca X (.Attribute e f pos) (eOp (oFld C f) [oe]) :=
  ce_op (es := [e]) (fun σ H Q h => we_of (pe_fld (we_pe X e) hb) (by
    refine ⟨fun pins s I => ?_⟩
    refine thn (We.run h pins s I) fun u s1 hh => ?_
    obtain ⟨x, H1, I1, r1, a, dx, fs, v, e1, e2, e3, q⟩ := hh
    exact ⟨x, H1, I1, r1, a, ca C, dx, fs, v, e1, e2, c, n, e3, q⟩)) (.cons he .nil) os_fld
/-- a property whose getter hands back the field f' -/
theorem ce_prop {e : Expr} {oe : Opd} {C : Nat} {f f' : Str} {p g : Addr} {k : Nat} {fd : FuncData} {ps : List Str} {pos : Pos} (c : Cls X.K (ca C)) (hp : PropOf X.K (ca C) f p g) (F : FnOk X.prog X.w X.K X.mg X.base (L2.CX X.prog X.w) k g fd ps (getSp (ca C) f')) (hr : Room (k + 1) X.A) (hb : Binds X.K fd ps []) (he : CO ca X e oe)
    (hab : attributeBase e f X.env (eval e X.env) = eval e X.env := by rfl) : CE ca X (.Attribute e f pos) (eOp (oFld C f') [oe]) :=
  ce_op (es := [e]) (fun σ H Q h => we_of (pe_prop (E := E0) (we_pe X e) c hp F hr hb .nil passL hab) (by
    refine ⟨fun pins s I => ?_⟩
    refine thn (We.run h pins s I) fun u s1 hh => ?_
    obtain ⟨x, H1, I1, r1, a, dx, fs, v, e1, e2, e3, q⟩ := hh
    exact ⟨x, H1, I1, r1, a, dx, fs, e1, e2, a, dx, fs, v, rfl, e2, e3, q⟩)) (.cons he .nil) os_fld

/-! ### storing a field -/
theorem putD_keys {f : Str} {y : V} {d : D} : ∀ {fs : List (Str × V)} {gs : List (Str × D)}, fs.map (·.1) = gs.map (·.1) → (putF f y fs).map (·.1) = (putD f d gs).map (·.1)
  | [], [], _ => rfl
  | [], _ :: _, e => by cases e
  | _ :: _, [], e => by cases e
  | (x, a) :: fs, (y', b) :: gs, e => by
    simp only [List.map_cons,
        List.cons.injEq] at e
    obtain ⟨rfl, e⟩ := e
    rw [putF, putD]
    split
    · simp [e]
    · simp [putD_keys (f := f) (y := y) (d := d) e]
theorem putD_rep {f : Str} {y : V} {d : D} (rd : Rep ca K Hf H Em y d) : ∀ {S : Rg} {fs : List (Str × V)} {gs : List (Str × D)}, fs.map (·.1) = gs.map (·.1) → RepL ca K Hf H S (fs.map (·.2)) (gs.map (·.2)) → RepL ca K Hf H S ((putF f y fs).map (·.2)) ((putD f d gs).map (·.2))
  | _, [], [], _, _ => (RepL.one rd).mono fun _ q => q.elim
  | _, [], _ :: _, e, _ => by cases e
  | _, _ :: _, [], e, _ => by cases e
  | _, (x, a) :: fs, (y', b) :: gs, e, r => by
    simp only [List.map_cons,
        List.cons.injEq] at e
    obtain ⟨rfl, e⟩ := e
    rw [putF, putD]
    cases r with
    | cons r1 r2 h1 h2 h3 =>
      split
      · exact .cons (S1 := Em) rd r2 (fun _ q => q.elim) h2 fun _ q _ => q
      · exact .cons r1 (putD_rep rd e r2) h1 h2 h3
theorem PR.ownIns {i C : Nat} {gs : List (Str × D)} (p : PR ca K Hf H Em True R σ st) (h : getS st i = some (.ins true C gs)) : ∃ a dx fs, σ[i]? = some (some (.ref a)) ∧ R i a ∧ H a = some (.ins (ca C) dx fs) ∧ fs.map (·.1) = gs.map (·.1) ∧ RepL ca K Hf H (fun b => R i b ∧ b ≠ a) (fs.map (·.2)) (gs.map (·.2)) := by
  obtain ⟨v, e, r⟩ := p.at_ i _ h
  cases r with
  | insO s e2 k r => exact ⟨_, _, _, e, s, e2, k, r⟩
theorem PR.writeIns {i C : Nat} {gs ys : List (Str × D)} {a dx : Addr} {ws : List (Str × V)} (p : PR ca K Hf H Em True R σ st) (h : getS st i = some (.ins true C gs)) (hv : σ[i]? = some (some (.ref a))) (ha : R i a) (hk : ws.map (·.1) = ys.map (·.1))
    (r : RepL ca K Hf H (fun b => R i b ∧ b ≠ a) (ws.map (·.2)) (ys.map (·.2))) : PR ca K Hf (upd H a (.ins (ca C) dx ws)) Em True R σ (st.set i (some (.ins true C ys))) ∧ Tr (jn Em R) Hf H (jn Em R) Hf (upd H a (.ins (ca C) dx ws)) := by
  have hk' : ∀ b o, b ≠ a → H b = some o → upd H a (.ins (ca C) dx ws) b = some o := fun b o n e => by rw [upd_ne n]; exact e
  have hf : Hf a = none := p.w.nf a (.inr ⟨i, ha⟩)
  refine ⟨⟨trivial, ?_, fun j d e => ?_, p.dj, fun _ _ q => q.elim, ⟨fun b o e => ?_, fun b q => ?_, p.w.nf, mkTp⟩⟩, ⟨fun _ _ e => e, fun b o e n => hk' b o (fun z => n (.inr ⟨i, z ▸ ha⟩)) e, fun b q => .inl q, fun _ _ e => .inl e⟩⟩
  · rw [List.length_set]; exact p.len
  · rcases set_get e with ⟨q1, q2⟩ | ⟨q1, q2⟩
    · subst q1
      cases q2
      exact ⟨_, hv, .insO ha upd_same hk (r.keep (fun _ _ e => e) fun b q o e => hk' b o q.2 e)⟩
    · obtain ⟨v', e2, r2⟩ := p.at_ j d q2
      exact ⟨v', e2, r2.keep (fun _ _ e => e) fun b q o e => hk' b o (fun z => q1 (p.dj i j a ha (z ▸ q))) e⟩
  · have := p.w.ex b o e
    exact hk' b o (fun z => by subst z; rw [hf] at e; cases e) this
  · obtain ⟨o, e⟩ := p.w.dm b q
    by_cases z : b = a
    · subst z; exact ⟨_, upd_same⟩
    · exact ⟨o, hk' b o z e⟩
theorem cs_fld {o value : Expr} {i C : Nat} {f : Str} {m : ME} {pos pos' : Pos} (c : Cls X.K (ca C)) (n : NoAttr X.K (ca C) f) (ho : PE X o (tVar i)) (he : CE ca X value m) (hs : swapsWith value (some (.Attribute o f pos')) pos.line X.env = pure false := by rfl) :
    CS ca X L (.Assign [.Attribute o f pos'] value pos) (sFldM C i f m) := fun Hf H R σ st E p h => by
  refine ws_of (ps_fld ho (we_pe X value) hs) (he Hf H R σ st _ p ?_)
  refine post_toS h fun d st1 Hf1 H1 P1 R1 v e1 t1 p1 h1 => ?_
  cases g : getS st1 i with
  | none => rw [g] at h1; exact h1.elim
  | some dx =>
    rw [g] at h1
    cases dx with
    | ins ow C' gs =>
      cases ow with
      | false => exact h1.elim
      | true =>
        dsimp only at h1
        by_cases hc : C' = C ∧ gs.length < 1000 ∧ cold d = true
        · rw [if_pos hc] at h1
          obtain ⟨rfl, hl, hcd⟩ := hc
          have hd : hot d = false := by unfold cold at hcd; simpa using hcd
          obtain ⟨a, dx, fs, ev, ra, e2, kk, r2⟩ := p1.drop.ownIns g
          have hlen : fs.length = gs.length := by
            have := congrArg List.length kk
            simpa using this
          refine ⟨.ref a, ev, a, _, dx, fs, rfl, e2, c, n, by omega, ?_⟩
          obtain ⟨p2, t2⟩ := p1.drop.writeIns (dx := dx) g ev ra (putD_keys (f := f) (y := v) (d := d) kk) (putD_rep (p1.pend.cold hd) kk r2)
          exact h1 Hf1 _ R1 σ (t2.more fun b q => q.elim (fun q => q.elim) .inr) p2 Lk.refl
        · rw [if_neg hc] at h1; exact h1.elim
    | _ => exact h1.elim

/-! ### an instance made -/
/-- what __init__ hands back -/
theorem postC_make {C : Nat} {m : MF} {Q : VK} {x dx : Addr} (p : PR ca X.K Hf H P (RepL ca X.K Hf H P vs ds) R σ st) (hx : H x = none) (hdx : H dx = none) (hne : dx ≠ x)
    (h : Post ca X Hf H (jn P R) σ (match m (.ins true C [] :: ds) with
      | .ok .non ps => (match getS ps 0 with | some d => .ok d st | none => .fail)
      | .exc x _ => .exc x st
      | _ => .fail) Q) :
    spM ca X.K m (.ref x :: vs) (upd (upd H dx (.own x)) x (.ins (ca C) dx [])) (fun v H2 => v = .non ∧ Q (.ref x) H2) (fun cls dd H' => wX X cls dd σ H') := by
  have hx' : (upd H dx (.own x)) x = none := by rw [upd_ne (Ne.symm hne)]; exact hx
  have k1 : Ex H (upd H dx (.own x)) := upd_keep hdx
  have k2 : Ex H (upd (upd H dx (.own x)) x (.ins (ca C) dx [])) := fun b o e => upd_keep hx' b o (k1 b o e)
  have w1 := (wl_new (o := .own x) p.w hdx)
  have w2 := (wl_new (o := .ins (ca C) dx []) w1.1 hx')
  have hnx : ∀ b, jn P R b → b ≠ x := fun b q z => by subst z; obtain ⟨o, e⟩ := p.w.dm b q; rw [hx] at e; cases e
  have rr : RepL ca X.K Hf (upd (upd H dx (.own x)) x (.ins (ca C) dx [])) (fun b => b = x ∨ P b) (.ref x :: vs) (.ins true C [] :: ds) :=
    .cons (S1 := fun b => b = x) (S2 := P) (.insO rfl upd_same rfl .nil) (p.pend.keep (fun _ _ e => e) fun b _ o e => k2 b o e) (fun b q => .inl q) (fun b q => .inr q) fun b q1 q2 => hnx b (.inl q2) q1
  have pr : PR ca X.K Hf (upd (upd H dx (.own x)) x (.ins (ca C) dx [])) (fun b => b = x ∨ P b) (RepL ca X.K Hf (upd (upd H dx (.own x)) x (.ins (ca C) dx [])) (fun b => b = x ∨ P b) (.ref x :: vs) (.ins true C [] :: ds)) R σ st :=
    ⟨rr, p.len, fun i d e => by
      obtain ⟨v, e1, r⟩ := p.at_ i d e
      exact ⟨v, e1, r.keep (fun _ _ e => e) fun b _ o e => k2 b o e⟩, p.dj, fun i b q1 q2 => q1.elim (fun q => hnx b (.inr ⟨i, q2⟩) q) fun q => p.dp i b q q2, ⟨w2.1.ex, fun b q => by
      rcases q with (q | q) | q
      · subst q; exact ⟨_, upd_same⟩
      · exact w2.1.dm b (.inl q)
      · exact w2.1.dm b (.inr q), fun b q => by
      rcases q with (q | q) | q
      · subst q; exact w2.2
      · exact w2.1.nf b (.inl q)
      · exact w2.1.nf b (.inr q), mkTp⟩⟩
  have t0 : Tr (jn P R) Hf H (jn (fun b => b = x ∨ P b) R) Hf (upd (upd H dx (.own x)) x (.ins (ca C) dx [])) := ⟨fun _ _ e => e, fun b o e _ => k2 b o e, fun b q => by
    rcases q with (q | q) | q
    · subst q; exact .inr hx
    · exact .inl (.inl q)
    · exact .inl (.inr q), fun _ _ e => .inl e⟩
  refine ⟨Hf, fun b => b = x ∨ P b, .ins true C [] :: ds, rr, pr.w.mono fun b q => .inl q, ?_⟩
  have wR : Wl Hf (upd (upd H dx (.own x)) x (.ins (ca C) dx [])) (tot R) := pr.w.mono fun b q => .inr q
  have old : ∀ {Hf' H' : Hp} {S' P' : Rg} {pp : Prop}, Tr (fun b => b = x ∨ P b) Hf (upd (upd H dx (.own x)) x (.ins (ca C) dx [])) S' Hf' H' → Wl Hf' H' S' → (∀ b, P' b → S' b) → pp → PR ca X.K Hf' H' P' pp R σ st ∧ Tr (jn P R) Hf H (jn P' R) Hf' H' := fun {Hf' H' S' P' pp} t w hP q => by
    have bs := t.beside wR fun b q1 q2 => by obtain ⟨i, q1⟩ := q1; exact pr.dp i b q2 q1
    refine ⟨⟨q, p.len, fun i d e => ?_, p.dj, fun i b q1 q2 => bs.2.1 b ⟨i, q2⟩ (hP b q1), ⟨w.ex, fun b q => ?_, fun b q => ?_, mkTp⟩⟩, ?_⟩
    · obtain ⟨v, e1, r⟩ := pr.at_ i d e
      exact ⟨v, e1, r.keep t.fx fun b q o e => bs.1 b ⟨i, q⟩ o e⟩
    · rcases q with q | q
      · exact w.dm b (hP b q)
      · exact (bs.2.2 b q).1
    · rcases q with q | q
      · exact w.nf b (hP b q)
      · exact (bs.2.2 b q).2
    · refine t0.trans (((t.with (tot R)).more fun b q => ?_).less fun b q => ?_)
      · exact q.elim .inr .inl
      · exact q.elim (fun q => .inr (hP b q)) .inl
  cases em : m (.ins true C [] :: ds) with
  | fail => rw [em] at h; exact h
  | ok d ps =>
    rw [em] at h
    cases d with
    | non =>
      dsimp only at h
      cases eg : getS ps 0 with
      | none => rw [eg] at h; exact h.elim
      | some d' =>
        rw [eg] at h
        intro Hf' H' P' Rp v t q
        obtain ⟨v', e1, r0⟩ := q.at_ 0 d' eg
        cases e1
        obtain ⟨p2, t2⟩ := old (P' := Rp 0) (pp := Rep ca X.K Hf' H' (Rp 0) (.ref x) d') t q.w (fun b z => .inr ⟨0, z⟩) r0
        exact ⟨rep_non q.pend, h Hf' H' (Rp 0) R (.ref x) t2 p2⟩
    | _ => exact h.elim
  | exc y ps =>
    rw [em] at h
    intro Hf' H' Rp cls dd t q
    obtain ⟨p2, t2⟩ := old (P' := Em) t q.w (fun b z => z.elim) q.pend
    exact h Hf' H' R cls dd t2 p2
end
end DL

/-! DL12: == and != of instances by an own __eq__; isinstance; methods called. -/
namespace DL
open PySem L2 PyProof.Rows

/-- a value is let stand -/
def eFz (m : ME) : ME := fun st => (m st).bind fun d st1 => .ok (frz d) st1
def insC : D → Option Nat
  | .ins false C _ => some C
  | _ => none
/-- a == b (a != b: neg) of two instances of the class C that stand, by the meaning of __eq__ -/
def eEqI (neg : Bool) (C : Nat) (f : MF) (oa ob : Opd) : ME := fun st => opds [oa, ob] st fun gs st2 => match gs st2 with
  | some [x, y] => if insC x = some C ∧ insC y = some C then (match f [x, y] with
    | .ok (.bl k) _ => .ok (.bl (if neg then !k else k)) st2
    | _ => .fail) else .fail
  | _ => .fail

section
variable {ca : Nat → Addr} {K : PySem.W.Frag} {Hf H Hf1 H1 Hf2 H2 : Hp} {S S1 S2 P P1 P2 : Rg} {R R1 R2 : Nat → Rg} {pp qq : Prop} {σ σ' : L2.St} {st st' : Sl} {v : V} {d : D} {vs : List V} {ds xs : List D} {X : Cx} {L : List Nat}
theorem ce_fz {e : Expr} {m : ME} (h : CE ca X e m) : CE ca X e (eFz m) := fun Hf H R σ st Q p hq => by
  refine h Hf H R σ st Q p ?_
  unfold eFz at hq
  cases r : m st with
  | fail => rw [r] at hq; exact hq
  | exc x st1 => rw [r] at hq; exact hq
  | ok d st1 =>
    rw [r] at hq
    intro Hf1 H1 P1 R1 v t1 p1
    obtain ⟨Hf2, x1, x2, p2, t2⟩ := p1.standP
    exact hq Hf2 H1 Em R1 v (t1.trans t2) (p2.put (p1.pend.frz x1 x2))

/-! ### rich comparison by an own __eq__ -/
/-- what the written part says of a class with an own __eq__ and no own __ne__ -/
structure OwnEqC (K : PySem.W.Frag) (C f : Addr) : Prop where
  eq : PySem.W.findIn K (.ref C) "__eq__" = some (some (.ref f))
  fn : PySem.W.isFn K (.ref
      f) = true
  ne : ∃ (of : Obj) (nm q : Str) (N : Addr) (bs : List Value) (hdct : Bool) (sn : List Str) (sub : List Value) (ab : Bool) (col : Option Bool) (dd : Option Addr) (k0 k1 k2 k3 k5 : Option Value) (newId : String),
    K.lookup C = some (excClassObj nm q C N bs [.type "object"] hdct sn sub ab col dd k0 k1 k2 k3 k5 newId) ∧ PySem.W.nsOkIn K N = true ∧ PySem.W.nsIn K N "__eq__" = some (some (.ref f)) ∧ PySem.W.nsIn K N "__ne__" = some none ∧ K.lookup f = some of ∧ of.cls = .type "function"
theorem ns_some {h : Heap} {N : Addr} {m : Str → Option Value} {x : Str} {u : Value} (k : K.In h) (G : h.Ns N m) (e : PySem.W.nsIn K N x = some (some u)) : m x = some u := by
  obtain ⟨ob, ents, epoch, gets, dat, _, finds⟩ := G
  unfold PySem.W.nsIn at e
  split at e
  · rename_i c d ents' n' sl look
    have same := k _ _ look
    rw [gets] at same
    cases same
    cases dat
    split at e
    · rename_i en found
      cases e
      rw [← finds]
      show (findBy _ _ _) = _
      unfold findBy
      rw [← Array.find?_toList, found]
      rfl
    · split at e <;> cases e
  · cases e
end

section
variable {ca : Nat → Addr} {Hf H Hf1 H1 Hf2 H2 : Hp} {S P : Rg} {R R1 R2 : Nat → Rg} {σ : L2.St} {st : Sl} {v : V} {d : D} {vs : List V} {ds : List D} {X : Cx} {L : List Nat}
/-! ### isinstance -/
/-- what the written part says of an own class, for isinstance of its instances -/
structure InsTy (K : PySem.W.Frag) (C : Addr) : Prop where
  cl : Cls K C
  ha : PySem.W.findIn K (.ref C) "__class__" = some (some
      (.builtin "object.__class__"))
  hn : PySem.W.specialIn K (.builtin "object.__class__") "__get__" = some (some
      (.builtin "getset_descriptor.__get__"))
  htk : PySem.W.takesIn K (.builtin
      "object.__class__") = some true
  hm : PySem.W.mroIn K C (.type
      "object") = some true
def noScr : D → Bool
  | .scr _ => false
  | _ => true
/-- isinstance(x, T), T a built-in type -/
def oIsiB (T : String) : List D → Option Out
  | [x, .ty t] => if t = T ∧ noScr x = true then ((tyName x).bind fun n => L2.kitB n T).map fun b => .val (.bl b) else none
  | _ => none
theorem os_isiB {K : PySem.W.Frag} {T : String} : OpS ca K (rIsi K) (oIsiB T) := fun Hf H vs ds o Q hx rd h q => by
  match ds, h with
  | [x, .ty t], hh =>
    dsimp only [oIsiB] at hh
    by_cases hc : t = T ∧ noScr x = true
    · rw [if_pos hc] at hh
      obtain ⟨rfl, hs⟩ := hc
      cases en : tyName x with
      | none => rw [en] at hh; cases hh
      | some n =>
        rw [en] at hh
        cases ek : L2.kitB n t with
        | none => simp [ek] at hh
        | some b =>
          simp only [Option.bind_some, ek, Option.map_some, Option.some.injEq] at hh
          subst hh
          obtain ⟨v, w, S, S', e1, r1, r2⟩ := rdl2 rd rfl
          subst e1
          cases r2
          exact ⟨v, .ty t, .type n, .type t, b, rfl, .ty t, rep_ty hx r1 en (fun xs e => by subst e; cases hs), kit_ty ek, q _ .bl⟩
    · rw [if_neg hc] at hh; cases hh
/-- isinstance(x, (T, U)) of two built-in types -/
def oIsi2 (T U : String) : List D → Option Out
  | [x, .tup [.ty t, .ty u]] => if t = T ∧ u = U ∧ noScr x = true then (match (tyName x).bind fun n => L2.kitB n T, (tyName x).bind fun n => L2.kitB n U with
    | some a, some b => some (.val (.bl (a || b)))
    | _, _ => none) else none
  | _ => none
theorem os_isi2 {K : PySem.W.Frag} {T U : String} : OpS ca K (rIsiT K) (oIsi2 T U) := fun Hf H vs ds o Q hx rd h q => by
  match ds, h with
  | [x, .tup [.ty t, .ty u]], hh =>
    dsimp only [oIsi2] at hh
    by_cases hc : t = T ∧ u = U ∧ noScr x = true
    · rw [if_pos hc] at hh
      obtain ⟨rfl, rfl, hs⟩ := hc
      cases en : tyName x with
      | none => rw [en] at hh; cases hh
      | some n =>
        rw [en] at hh
        simp only [Option.bind_some] at hh
        cases ek : L2.kitB n t with
        | none => simp [ek] at hh
        | some b =>
          cases ek2 : L2.kitB n u with
          | none => simp [ek, ek2] at hh
          | some b2 =>
            simp only [ek, ek2, Option.some.injEq] at hh
            subst hh
            obtain ⟨v, w, S, S', e1, r1, r2⟩ := rdl2 rd rfl
            subst e1
            obtain ⟨a, vs, rfl, e2, r3⟩ := rep_tup hx r2
            cases r3 with
            | cons q1 q2 _ _ _ => cases q2 with
              | cons q3 q4 _ _ _ =>
                cases q4
                cases q1
                cases q3
                refine ⟨v, a, [.ty t, .ty u], .type n, [.type t, .type u], b || b2, rfl, e2, .cons (.ty t) (.cons (.ty u) .nil), rep_ty hx r1 en (fun xs e => by subst e; cases hs), ?_, q _ .bl⟩
                refine kitAny_cons (kit_ty ek) (fun hb => ?_) fun hb => by rw [hb]; rfl
                subst hb
                exact kitAny_cons (kit_ty ek2) (fun hb => by subst hb; exact kitAny_nil) fun hb => by rw [hb]; rfl
    · rw [if_neg hc] at hh; cases hh
/-! ### methods called -/
end
end DL

/-! DL13: a, b = x, y; len of instances; tests; what is not followed; [.. for .. for ..]. -/
namespace DL
open PySem L2 PyProof.Rows

def eLenI (C : Nat) (f : MF) (oa : Opd) : ME := fun st => opds [oa] st fun gs st2 => match gs st2 with
  | some [x] => if insC x = some C then (match f [x] with
    | .ok (.int n) _ => if 0 ≤ n ∧ n < 2 ^ 63 then .ok (.int n) st2 else .fail
    | _ => .fail) else .fail
  | _ => .fail
def sFail : MS := fun _ => .fail
section
variable {ca : Nat → Addr} {K : PySem.W.Frag} {Hf H Hf1 H1 Hf2 H2 : Hp} {S S1 S2 P P1 P2 : Rg} {R R1 R2 : Nat → Rg} {pp qq : Prop} {σ σ' : L2.St} {st st' : Sl} {v w : V} {d e : D} {vs : List V} {ds xs : List D} {X : Cx} {L : List Nat}
theorem css_fail {s : List Stmt} : CSs ca X L s sFail := fun Hf H R σ st E p h => h.elim
/-! ### a, b = x, y -/
theorem PR.store2 {i j : Nat} (hij : i ≠ j) (p : PR ca K Hf H P (RepL ca K Hf H P [v, w] [d, e]) R σ st) : ∃ R', PR ca K Hf H Em True R' ((σ.set i (some v)).set j (some w)) ((st.set i (some d)).set j (some e)) ∧ Tr (jn P R) Hf H (jn Em R') Hf H := by
  obtain ⟨S1, S2, q1, q2, h1, h2, h3⟩ : ∃ S1 S2 : Rg, Rep ca K Hf H S1 v d ∧ Rep ca K Hf H S2 w e ∧ (∀ b, S1 b → P b) ∧ (∀ b, S2 b → P b) ∧ ∀ b, S1 b → S2 b → False := by
    have r := p.pend
    cases r with
    | cons a b c1 c2 c3 =>
      cases b with
      | cons a' b' c1' c2' c3' => exact ⟨_, _, a, a', c1, fun b q => c2 b (c1' b q), fun b q1 q2 => c3 b q1 (c1' b q2)⟩
  have p1 : PR ca K Hf H S1 (Rep ca K Hf H S1 v d) R σ st := p.toP h1 q1
  have p2 := p1.store i
  have p3 : PR ca K Hf H S2 (Rep ca K Hf H S2 w e) (fun k b => if k = i then S1 b else R k b) (σ.set i (some v)) (st.set i (some d)) :=
    ⟨q2, p2.len, p2.at_, p2.dj, fun k b x y => by
      split at y
      · exact h3 b y x
      · exact p.dp k b (h2 b x) y, p.w.mono fun b q => by
      rcases q with q | ⟨k, q⟩
      · exact .inl (h2 b q)
      · split at q
        · exact .inl (h1 b q)
        · exact .inr ⟨k, q⟩⟩
  refine ⟨_, p3.store j, Tr.refl fun b q => ?_⟩
  rcases q with q | ⟨k, q⟩
  · exact q.elim
  · split at q
    · exact .inl (h2 b q)
    · split at q
      · exact .inl (h1 b q)
      · exact .inr ⟨k, q⟩
theorem cs_par {i j : Nat} {x y : Str} {a b : Expr} {ms : MA} {px py pt pos : Pos} {kt k2 pt2} (hc : X.calm = true) (hN : X.N.Nodup) (hi : X.N[i]? = some x) (hj : X.N[j]? = some y) (hij : i ≠ j)
    (hx : X.env.scope.names.lookup x = some .local) (hy : X.env.scope.names.lookup y = some .local) (hL1 : i ∉ L) (hL2 : j ∉ L) (ha : CL ca X [a, b] ms) (hst : NoStar [a, b])
    (hw : swappedStores [.Tuple [.Name x px, .Name y py] kt
        pt] (.Tuple [a, b] k2 pt2) X.env = pure (some [x, y]))
    (hs : swapsWithSole [.Tuple [.Name x px, .Name y py] kt pt]
        (.Tuple [a, b] k2 pt2) pos.line X.env = pure false := by rfl) :
    CS ca X L (.Assign [.Tuple [.Name x px, .Name y py] kt pt] (.Tuple [a, b] k2 pt2) pos) (sPar i j ms) := fun Hf H R σ st E p h => by
  refine ws_of (ps_par hc hN hi hj hij hx hy (wa_pa X [a, b]) hw hs) ?_
  refine wa_wl (fun e' r' q => noStar_suf hst e' r' q _) (ha Hf H R σ st _ p ?_)
  unfold sPar at h
  cases e1 : ms st with
  | fail => rw [e1] at h; exact h
  | exc x st1 => rw [e1] at h; exact fun Hf' H' R' cls dd t q => h Hf' H' R' σ cls dd t q Lk.refl
  | ok ds st1 =>
    rw [e1] at h
    intro Hf1 H1 P1 R1 vs t1 p1
    dsimp only [Res.toS] at h
    match ds, h with
    | [d1, d2], h =>
      obtain ⟨v1, v2, rfl⟩ : ∃ v1 v2, vs = [v1, v2] := by
        have := p1.pend
        cases this with
        | cons a b _ _ _ => cases b with
          | cons a' b' _ _ _ => cases b'; exact ⟨_, _, rfl⟩
      obtain ⟨R', p2, t2⟩ := PR.store2 hij p1
      exact ⟨v1, v2, rfl, h Hf1 H1 R' _ (t1.trans t2) p2 ((Lk.set hL1).trans (Lk.set hL2))⟩

/-! ### tests -/
theorem isTrue_cmpV {l r : Expr} {op : CmpOp} {pos : Pos} {env : Env} {whole : Sem Value} : isTrue (.Compare l [op] [r] pos) env whole = (do let c ← eval (.Compare l [op] [r] pos) env; holding [c] (truthy c)) := by
  rw [isTrue_Compare1, eval_Compare1]
  simp only [bind_assoc]
theorem ct_cmp {a b : Expr} {op : CmpOp} {pos : Pos} {m : ME} (h : CE ca X (.Compare a [op] [b] pos) m) : CT ca X (.Compare a [op] [b] pos) (tE m) := by
  refine ct_e ⟨fun pins s σ H Q I hw => ?_⟩ h
  rw [isTrue_cmpV]
  refine wpAny_bind (thn (We.run hw pins s I) fun v s1 ⟨x, H1, I1, r1, q1⟩ => wpAny_holding ?_)
  obtain ⟨d, rfl, q⟩ := q1
  cases r1
  exact wpAny_truthy_bool ⟨H1,
      I1, q⟩
/-- an expression of any other form -/
theorem ct_val {e : Expr} {m : ME} (h : CE ca X e m) (he : ∀ whole, isTrue e X.env whole = (do let v ← whole; standAt e.pos; holding [v] (truthy v)) := by intro _; rfl) : CT ca X e (tE m) :=
  ct_e (pt_val (we_pe X e) he) h
structure Ww (X : Cx) (e : Expr) (σ : L2.St) (H : Hp) (Q : Bool → Hp → Prop) : Prop where
  run : ∀ (whole : Sem Value) (pins : List (Addr × Obj)) (s : Shared), Inv X pins σ H s → wpAny (model X.prog X.w) X.A (isTrue e X.env whole) (TP X pins σ Q) X.xe s
def CW (ca : Nat → Addr) (X : Cx) (e : Expr) (m : MT) : Prop := ∀ (Hf H : Hp) (R : Nat → Rg) (σ : L2.St) (st : Sl) (Q : Bool → Hp → Prop), PR ca X.K Hf H Em True R σ st → PostB ca X Hf H (jn Em R) σ (m st) Q → Ww X e σ H Q
theorem ww_pw (X : Cx) (e : Expr) : PW X e (Ww X e) := ⟨fun wh pins s _ _ _ I h => h.run wh pins s I⟩
theorem ct_w {e : Expr} {m : MT} (h : CW ca X e m) : CT ca X e m := fun Hf H R σ st Q p hq => ⟨fun pins s I => (h Hf H R σ st Q p hq).run _ pins s I⟩
theorem cw_and1 {a : Expr} {m : MT} {pos : Pos} (h : CT ca X a m) : CW ca X (.BoolOp .And [a] pos) m := fun Hf H R σ st Q p hq => ⟨fun wh pins s I => (pw_and1 (wt_pt X a)).run wh pins s σ H Q I (h Hf H R σ st Q p hq)⟩
theorem cw_or1 {a : Expr} {m : MT} {pos : Pos} (h : CT ca X a m) : CW ca X (.BoolOp .Or [a] pos) m := fun Hf H R σ st Q p hq => ⟨fun wh pins s I => (pw_or1 (wt_pt X a)).run wh pins s σ H Q I (h Hf H R σ st Q p hq)⟩
theorem post_tB {r : Res Bool} {k : Bool → Sl → Res Bool} {Q Q' : Bool → Hp → Prop} (h : PostB ca X Hf H S σ (r.bind k) Q) (hk : ∀ b st Hf1 H1 R1, Tr S Hf H (jn Em R1) Hf1 H1 → PR ca X.K Hf1 H1 Em True R1 σ st → PostB ca X Hf1 H1 (jn Em R1) σ (k b st) Q → Q' b H1) : PostB ca X Hf H S σ r Q' := by
  cases r with
  | fail => exact h
  | exc x st1 => exact h
  | ok b st1 => exact fun Hf1 H1 R1 t1 p1 => hk b st1 Hf1 H1 R1 t1 p1 (PostB.from t1 h)
theorem cw_and {a b : Expr} {r : List Expr} {ma mb : MT} {pos : Pos} (ha : CT ca X a ma) (hb : CW ca X (.BoolOp .And (b :: r) pos) mb) : CW ca X (.BoolOp .And (a :: b :: r) pos) (tAndM ma mb) := fun Hf H R σ st Q p hq => ⟨fun wh pins s I => by
  refine (pw_and (wt_pt X a) (ww_pw X _)).run wh pins s σ H Q I (ha Hf H R σ st _ p ?_)
  refine post_tB hq fun c st1 Hf1 H1 R1 t1 p1 h1 => ?_
  cases c with
  | true => exact hb Hf1 H1 R1 σ st1 Q p1 h1
  | false => exact h1 Hf1 H1 R1 (Tr.refl fun _ q => q) p1⟩
theorem cw_or {a b : Expr} {r : List Expr} {ma mb : MT} {pos : Pos} (ha : CT ca X a ma) (hb : CW ca X (.BoolOp .Or (b :: r) pos) mb) : CW ca X (.BoolOp .Or (a :: b :: r) pos) (tOrM ma mb) := fun Hf H R σ st Q p hq => ⟨fun wh pins s I => by
  refine (pw_or (wt_pt X a) (ww_pw X _)).run wh pins s σ H Q I (ha Hf H R σ st _ p ?_)
  refine post_tB hq fun c st1 Hf1 H1 R1 t1 p1 h1 => ?_
  cases c with
  | true => exact h1 Hf1 H1 R1 (Tr.refl fun _ q => q) p1
  | false => exact hb Hf1 H1 R1 σ st1 Q p1 h1⟩
theorem ct_not {a : Expr} {ma : MT} {pos : Pos} (ha : CT ca X a ma) : CT ca X (.UnaryOp .Not a pos) (tNotM ma) := fun Hf H R σ st Q p hq => by
  refine wt_of (pt_not (wt_pt X a)) (ha Hf H R σ st _ p ?_)
  exact post_tB hq fun c st1 Hf1 H1 R1 t1 p1 h1 => h1 Hf1 H1 R1 (Tr.refl fun _ q => q) p1
/-! ### len of an instance -/
/-- what the written part says of a class with an own special method -/
structure OwnSpC (K : PySem.W.Frag) (C f : Addr) (name : Str) : Prop where
  obj : ∃ (of : Obj) (nm q : Str) (N : Addr) (bs : List Value) (hdct : Bool) (sn : List Str) (sub : List Value) (ab : Bool) (col : Option Bool) (dd : Option Addr) (k0 k1 k2 k3 k5 : Option Value) (newId : String),
    K.lookup C = some (excClassObj nm q C N bs [.type "object"] hdct sn sub ab col dd k0 k1 k2 k3 k5 newId) ∧ PySem.W.nsOkIn K N = true ∧ PySem.W.nsIn K N name = some (some (.ref f)) ∧ K.lookup f = some of ∧ of.cls = .type "function"
theorem OwnSpC.at {C f : Addr} {name : Str} {pins : List (Addr × Obj)} {s : Shared} {a dx : Addr} {fs : List (Str × V)} {y : Option Value} (c : OwnSpC X.K C f name) (I : Inv X pins σ H s) (ha : H a = some (.ins C dx fs)) (hB : typeLookup (.type "object") name = pure y) : s.heap.OwnSpecial a C f "object" name := by
  obtain ⟨of, nm, q, N, bs, hdct, sn, sub, ab, col, dd, k0, k1, k2, k3, k5, newId, hC, hN0, hN1, hf, hfc⟩ := c.obj
  have hk : X.K.In s.heap := I.kIn
  have hNs : s.heap.Ns N (s.heap.nsMap N) := .of_isNs (PySem.W.isNs_of_in hk hN0)
  obtain ⟨mA, J, _⟩ :=
      ins_get I.hok ha
  exact ⟨_, of, nm, q, N, bs, _, hdct, sn, sub, ab, col, dd, k0, k1, k2, k3, k5, newId, _, y, J.obj, rfl, hk _ _ hC, hNs, ns_some hk hNs hN1, hk _ _ hf, hfc, PySem.F.mro_object, hB⟩
end
end DL

/-! DL14: [e for x in xs for y in ys if t]. -/
namespace DL
open PySem L2 PyProof.Rows
def comp2D (g : MG) (src1 : Sl → Res (List D)) (g1 : MG) (t1 : MT) (e : ME) (vs vs1 : List Nat) : List D → Sl → List D → Res (List D)
  | [], st, acc => .ok acc st
  | d :: ds, st, acc => (g d st).noX.bind fun _ st1 => (src1 st1).noX.bind fun ds1 st2 => (compD g1 t1 e vs1 ds1 (wipeS st2 vs1) acc).bind fun acc' st3 => comp2D g src1 g1 t1 e vs vs1 ds (wipeS st3 vs) acc'
def eLc2 (src : Sl → Res (List D)) (g : MG) (src1 : Sl → Res (List D)) (g1 : MG) (t1 : MT) (e : ME) (vs vs1 : List Nat) : ME := fun st => (src st).bind fun ds st1 => (comp2D g src1 g1 t1 e vs vs1 ds (wipeS st1 vs) []).bind fun acc st2 => .ok (.lst true acc) st2
section
variable {ca : Nat → Addr} {K : PySem.W.Frag} {Hf H Hf1 H1 Hf2 H2 : Hp} {S S1 S2 P P1 P2 : Rg} {R R1 R2 : Nat → Rg} {pp qq : Prop} {σ σ' : L2.St} {st st' : Sl} {v : V} {d : D} {vs : List V} {ds : List D} {X : Cx} {L : List Nat}
end
end DL

/-! DL15: short forms for printed derivations; getters; a law's end. -/
namespace DL
open PySem L2 PyProof.Rows ClX
section
variable {ca : Nat → Addr} {K : PySem.W.Frag} {Hf H : Hp} {S : Rg} {R : Nat → Rg} {σ : L2.St} {st : Sl} {v : V} {d : D} {vs : List V} {ds : List D} {X : Cx} {L : List Nat}
/-- a name in the slot i -/
theorem en (i : Nat) {x : Str} {pos : Pos} (hN : X.N[i]? = some x := by rfl) (hv : Vis X.env.scope x := by first | exact Or.inl rfl | exact Or.inr (Or.inl rfl) | exact Or.inr (Or.inr rfl)) (hd : (x == ("__debug__" : Str)) = false := by decide)
    (hcd : (x == ("__classdict__" : Str)) = false := by decide) : CE ca X (.Name x pos) (eN i) := ce_n (pe_var hN hv hd hcd)
theorem emv (i : Nat) {x : Str} {pos : Pos} (hN : X.N[i]? = some x := by rfl) (hv : Vis X.env.scope x := by first | exact Or.inl rfl | exact Or.inr (Or.inl rfl) | exact Or.inr (Or.inr rfl)) (hd : (x == ("__debug__" : Str)) = false := by decide)
    (hcd : (x == ("__classdict__" : Str)) = false := by decide) : CE ca X (.Name x pos) (eMv i) := ce_mv (pe_var hN hv hd hcd)
theorem es (i : Nat) {x : Str} {pos : Pos} (hN : X.N[i]? = some x := by rfl) (hv : Vis X.env.scope x := by first | exact Or.inl rfl | exact Or.inr (Or.inl rfl) | exact Or.inr (Or.inr rfl)) (hd : (x == ("__debug__" : Str)) = false := by decide)
    (hcd : (x == ("__classdict__" : Str)) = false := by decide) : CO ca X (.Name x pos) (.s i) := co_s (pe_var hN hv hd hcd)
theorem gn (i : Nat) {x : Str} {pos : Pos} (hN : X.N.Nodup) (hi : X.N[i]? = some x := by rfl) (hx : Loc X.env.scope x := by first | exact .inl rfl | exact .inr rfl) (hL : i ∉ L := by decide)
    (hf : X.fn x = true ∨ X.env.scope.names.lookup x = some .local := by first | exact .inl rfl | exact .inr rfl) : CG ca X L (.Name x pos) (gName i) (gN i) := cg_name (pg_name hN hi hx hf) hL
theorem cs_set (i : Nat) {x : Str} {e : Expr} {m : ME} {pos pos' : Pos} (hN : X.N.Nodup) (he : CE ca X e m) (hi : X.N[i]? = some x := by rfl) (hx : Loc X.env.scope x := by first | exact .inl rfl | exact .inr rfl) (hL : i ∉ L := by decide)
    (hs : swapsWith e (some (.Name x pos')) pos.line X.env = pure false := by rfl) (hf : X.fn x = true ∨ X.env.scope.names.lookup x = some .local := by first | exact .inl rfl | exact .inr rfl) : CS ca X L (.Assign [.Name x pos'] e pos) (sAsg m (gN i)) :=
  cs_asg he (cg_name (pg_name hN hi hx hf) hL) (ps_set hN hi hx (we_pe X e) hs hf)
theorem cs_asgT {tg e : Expr} {m : ME} {t : TG} {g : MG} {pos : Pos} (he : CE ca X e m) (hg : CG ca X L tg t g) (hs : swapsWithSole [tg] e pos.line X.env = pure false := by rfl) (hw : swappedStores [tg] e X.env = pure none := by rfl)
    (h1 : (assignEach [tg] X.env).map (·.2) = [assign tg X.env] := by rfl) : CS ca X L (.Assign [tg] e pos) (sAsg m g) := cs_asg he hg (ps_asg (we_pe X e) hg.1 hs hw h1)
theorem relRef (a : Addr) : RelV (.ref a) (.ref a) := rfl
theorem relTy (n : String) : RelV (.ty n) (.type n) := rfl
/-- a constant of a class -/
theorem ce_cval {x f : Str} {w : Value} {p pos : Pos} {C : Addr} {mc : Value} (hg : Gl X x) (hm : X.mg x = some (.ref C)) (r : CRead X.K C mc) (k : CVal X.K C mc f v w) (rd : ∀ Hf H, Rep ca X.K Hf H Em v d)
    (hd : (x == ("__debug__" : Str)) = false := by decide) (hb : attributeBase (.Name x p) f X.env (eval (.Name x p) X.env) = eval (.Name x p) X.env := by rfl) : CE ca X (.Attribute (.Name x p) f pos) (eC d) := by
  refine ce_c (v := v) ⟨fun pins s σ H Q I h => ?_⟩ rd
  exact (pe_cval (pe_glob hg hm (relRef _) hd) hb).run pins s σ H Q I ⟨C, mc, v, w, rfl, r, k, h⟩
/-- a built-in type, a class, as values -/
theorem ce_ty {x : Str} {T : String} {p : Pos} (hg : Gl X x) (hm : X.mg x = none) (hv : bootBuiltins x = some (.type T)) (hn : x ≠ "__name__" := by decide) (hd : (x == ("__debug__" : Str)) = false := by decide) : CE ca X (.Name x p) (eC (.ty T)) :=
  ce_c (pe_bltn hg hm hv (relTy _) hn hd) fun _ _ => .ty
end
/-- a property's getter -/
theorem getter_ok {CX : CXT} {P : Program} {w : World} {K : PySem.W.Frag} {mg : Str → Option Value} {base : Heap} {k : Nat} {fa C : Addr} {name qual f : Str} {st : Stmt} {fd : FuncData} {N : List Str} {p1 p2 p3 : Pos} (F : Fun K name qual st fa fd) (S : FnScope N ["self"] (defScope st))
    (hN : N[0]? = some ("self" : Str)) (hb : defBody st = [.Return (some (.Attribute (.Name "self" p1) f p2)) p3]) (c : Cls K C) (n : NoAttr K C f) : FnOk P w K mg base CX (k + 1) fa fd ["self"] (getSp C f) := by
  obtain ⟨oc, od, kV, doc, pm, an, cdv, ct, osl, rfl, lk, hcd⟩ :=
      F.ex
  exact fn_getter lk hcd S hN hb c n
/-- a law's promise from its meaning -/
theorem sp_law {ca : Nat → Addr} {K : PySem.W.Frag} {m : MF} {n : Nat} (h : ∀ ns : List Int, ns.length ≤ n → ∃ ps, m [.scr ns] = .ok (.bl true) ps) (H : Hp) (a : Addr) (ns : List Int) (hn : ns.length ≤ n) (hS : SqL K H a (ns.map V.int)) :
    spM ca K m [.ref a] H (fun v _ => v = .bl true) fun _ _ _ => False := by
  refine ⟨H, Em, [.scr ns], RepL.one (.scr hS), ⟨fun _ _ e => e, fun _ q => q.elim, fun _ q => q.elim, fun _ _ e => e⟩, ?_⟩
  obtain ⟨ps, e⟩ := h ns hn
  rw [e]
  exact fun Hf' H' P' Rp v t p => rep_bl p.pend
theorem law_cx {P : Program} {w : World} {H : Hp} {s : Shared} {e : Value} {s' : Shared} (h : L2.CX P w [] H s (fun _ _ _ => False) e s') : False := by
  obtain ⟨a, B, H', cls, d, _, _, _, _, _, _, _, hE⟩ := h
  exact hE
end DL

/-! DL16: blocks, checked by computing. -/
namespace DL
open PySem L2 PyProof.Rows
def blkB (N : List Str) (sc scope : Scope) (own : List (Str × Nat)) : Bool :=
  scope.names.all (fun y => decide (scope.names.lookup y.1 = some y.2)) && (own.all (fun p => decide (N[p.2]? = some p.1)) &&
  (scope.names.all (fun y => !decide (y.2 = .free) || (decide (sc.names.lookup y.1 = some .cell) || decide (sc.names.lookup y.1 = some .free))) &&
  scope.names.all (fun y => !(decide (y.2 = .local) || decide (y.2 = .cell)) || (decide (y.1 ∈ own.map (·.1)) || !decide (y.1 ∈ N)))))
theorem blk_of {N : List Str} {sc scope : Scope} {own : List (Str × Nat)} (hk : scope.kind = .function) (h : blkB N sc scope own = true) : BlkOk N sc scope own := by
  unfold blkB at h
  simp only [Bool.and_eq_true, List.all_eq_true, Bool.or_eq_true, Bool.not_eq_true', decide_eq_true_eq, decide_eq_false_iff_not] at h
  obtain ⟨h1, h2, h3, h4⟩ := h
  refine ⟨hk, fun y hy => h1 y hy, fun p hp => h2 p hp, fun y hy hf => ?_, fun y hy hl => ?_⟩
  · rcases h3 y hy with q | q
    · exact absurd hf q
    · exact q
  · rcases h4 y hy with q | q
    · rcases hl with hl | hl
      · rw [hl] at q; simp at q
      · rw [hl] at q; simp at q
    · exact q
section
variable {ca : Nat → Addr} {X : Cx} {L : List Nat}
/-- a block's own name stored -/
theorem gb (i : Nat) {n : Nat} {w : List Nat} {x : Str} {pos : Pos} (hN : X.N.Nodup) (hi : X.N[i]? = some x := by rfl) (hx : Loc X.env.scope x := by first | exact .inl rfl | exact .inr rfl) (hL : i ∈ w := by decide)
    (hf : X.fn x = true ∨ X.env.scope.names.lookup x = some .local := by first | exact .inl rfl | exact .inr rfl) : CG ca X (but n w) (.Name x pos) (gName i) (gN i) := cg_name (pg_name hN hi hx hf) (not_but hL)
end
end DL

/-! DL17: enumerate over a tuple: how it is made, how it yields, how it ends; over the library's Draws. -/
namespace DL
open PySem L2 PyProof.Rows
open Sem (wp)
/-- the two objects that enumerate(tuple) lays -/
abbrev etI (t : Addr) : Obj := { cls := .type "tuple_iterator", data := .fields #[.ref t, .int 0 0] }
abbrev etE (it : Addr) : Obj :=
  { cls := .type "enumerate",
    data := .fields #[.none, .bool false, .ref it, rawInt 0, .none, .none] }
abbrev etH (h : Heap) (t : Addr) : Heap := (h.push (etI t)).push (etE h.objs.size)
abbrev etO (dc : Option Addr) (xs : Array Value) (n : Nat) (sl : Array (Option Value)) : Obj := { cls := .type "tuple", dict := dc, data := .seq xs n, slots := sl }
theorem et_new (t : Addr) (xs : Array Value) (n : Nat) (dc : Option Addr) (sl : Array (Option Value)) :
    Meets (Builtin.«enumerate.__new__» ⟨[.type "enumerate", .ref t], []⟩) fun _ R s => s.heap.get? t = some (etO dc xs n sl) ∧ R (.ok (.ret (.ref (s.heap.push (etI t)).objs.size))) { s with heap := etH s.heap t } :=
  .of_wp fun pr wo Ar R st hst => by
    rcases st with ⟨hp, gs, dr, tk, os⟩
    rcases hst with ⟨ht, hR⟩
    have sub := sub_enumerate
    have isT : Heap.IsTuple (Shared.heap ⟨hp, gs, dr, tk, os⟩) t xs := ⟨_, ht, rfl, n, rfl⟩
    have ends : ∀ {P : Prop}, P → P := id
    wp_walk using AutoSeq1.wpAny_loadPart' ht
    refine wpAny_stack_any fun _ =>
      wpAny_pure ?_
    split
    case _ c _ _ _ _ _ =>
      cases hc : (c == Value.type "enumerate") <;>
        (wp_walk using AutoSeq1.wpAny_loadPart' ht, wpAny_pyIter_tuple isT) <;>
        exact ends ⟨_, rfl, hR⟩
    all_goals
      wp_walk using AutoSeq1.wpAny_loadPart' ht, wpAny_pyIter_tuple isT
      exact ends ⟨_, rfl, hR⟩
section
variable {pr : Program} {wo : World} {Ar : Around} {Ex' : Value → Shared → Prop} {st : Shared}
/-- the call enumerate(t) -/
theorem et_call {t : Addr} {xs : Array Value} {Q : Value → Shared → Prop} (ht : st.heap.IsTuple t xs) (hq : Q (.ref (st.heap.objs.size + 1)) { st with heap := etH st.heap t }) :
    wpAny (model pr wo) Ar (call (.type "enumerate") [.ref t]) Q Ex' st := by
  rcases ht with ⟨⟨cl, dc, dat, sl⟩, ho, hcl, n, hdat⟩
  obtain rfl : cl = .type "tuple" := hcl
  obtain rfl : dat = .seq xs n := hdat
  have sz : (st.heap.push (etI t)).objs.size = st.heap.objs.size + 1 := Heap.size_push ..
  have at1 : (etH st.heap t).get? (st.heap.objs.size + 1) = some (etE st.heap.objs.size) := by
    rw [← sz]
    exact Heap.get?_push_size _
        rfl
  have args : ∀ obj, _ := fun obj => F.args_object_init_2 obj (Value.ref t)
  refine callType_new F.called_enumerate (by decide) (F.typeCall_enumerate_1 _) (F.newCall_enumerate_1 _) args
    F.entry_enumerate_new (et_new t xs n dc sl) ⟨ho, ?_⟩
  show (∃ _, _) ∧ _
  rw [sz]
  exact ⟨⟨_, at1, rfl⟩, hq⟩
/-- its end -/
theorem et_end {e it t : Addr} {i : Nat} {xs : Array Value} {old : Value} {Q : Option Value → Shared → Prop} (hh : Ar.handled = none) (he : IsEnum st.heap e it i old) (hi : st.heap.IsTupleIter it t i)
    (ht : st.heap.IsTuple t xs) (hx : xs[i]? = none) (hq : ∀ h', Heap.ExtBut it st.heap h' → Q none { st with heap := h' }) : wpAny (model pr wo) Ar (pyNext (.ref e)) Q Ex' st := by
  have ty : st.TypeIs (.ref e) "enumerate" := ⟨_, he, rfl⟩
  have inner := fun {Q'} {E'} k => wpAny_nextOf_tuple_end (prog := pr) (w := wo) (A := Ar.in1) (Q := Q') (E := E') (s := st) hh hi ht hx k
  unfold pyNext
  refine wpAny_bind (wpAny_attempt
      ?_)
  refine wpAny_callSpecial?_slot (name := Str.ofString "__next__") ty F.slot_enumerate_next ?_
  refine wpAny_call_entry F.slot_enumerate_next ty F.entry_enumerate_next ?_ (F.args_enumerate_next_1 _)
  refine wpAny_bind (m := field (.ref e) 2) ?_
  refine wpAny_field he rfl (x := .ref it) rfl (wpAny_bind ?_)
  refine wpAny_nextOf_tuple_end hh hi ht hx fun h' x ext ⟨o, ho, hc⟩ => ?_
  refine wpAny_bind ?_
  exact wpAny_isInstance (T := "StopIteration") (b := true)
    ⟨o, ho, hc⟩ isSubtype_stop (wpAny_pure (hq _ ext))
end
/-- the tuple at a, each item in a new pair with its number -/
def IteT (K : PySem.W.Frag) (a : Addr) : It where
  go := fun i H => ∃ ys y, SqT K H a ys ∧ ys[i]? = some y
  yld := fun i H v H' => ∃ T x, v = .ref T ∧ H T = none ∧ H' = upd H T (.tup [.int (i : Nat), x]) ∧ ∀ ys, SqT K H a ys → ys[i]? = some x
  stop := fun i H => ∃ ys : List V, SqT K H a ys ∧ ys.length ≤ i
/-- how the enumeration stands before its turn i -/
structure EtAt (a e it : Addr) (i : Nat) (h : Heap) : Prop where
  en : ∃ old, IsEnum h e it ((i : Nat) : Int) old
  iter : h.IsTupleIter it a i
  n1 : e ≠ it
  n2 : e ≠ a
  n3 : a ≠ it
theorem two_mem {b e it : Addr} (h : b ∈ [e, it]) : b = e ∨ b = it := by simpa using h
theorem turn_enumT {P : Program} {w : World} {K : PySem.W.Frag} {elts : List Expr} {kk : Nat} {tpos : Pos} (a e it : Addr) : Turn P w K (.Tuple elts kk tpos) (IteT K a) [e, it] e (EtAt a e it) where
  mem := List.mem_cons_self
  obj := by
    intro i h z b hb
    obtain ⟨old, he⟩ := z.en
    obtain ⟨o, ho, _, hd⟩ := z.iter
    rcases two_mem hb with rfl | rfl
    · exact ⟨_, he, fun _ q => nomatch q⟩
    · refine ⟨o, ho, fun v q => ?_⟩
      rw [hd] at q
      cases q
  keep := by
    intro i h h' z k
    obtain ⟨old, he⟩ := z.en
    exact ⟨⟨old, k e (List.mem_cons_self) _ he⟩, z.iter.at fun o q => k it (by simp) o q, z.n1, z.n2, z.n3⟩
  item := by
    intro X e1 e2 e3 calm i pins s σ H E I fresh z go
    subst e1 e2 e3
    obtain ⟨old, he⟩ := z.en
    obtain ⟨ys, y, hq, hy⟩ := go
    obtain ⟨us, rel, isT, _⟩ := I.tuple hq
    obtain ⟨u, hu, ru⟩ := rel.get hy
    have isT' : s.heap.IsTuple a us.toArray := isT
    have below : ∀ b ∈ [e, it], b < s.heap.objs.size := fun b hb => by
      rcases two_mem hb with rfl | rfl
      · exact Heap.lt_size he
      · obtain ⟨_, q, _⟩ := z.iter
        exact Heap.lt_size q
    have ilt : i < us.toArray.size := by simpa using (List.getElem?_eq_some_iff.mp hu).1
    have draws := Draws.tuple (prog := X.prog) (w := X.w) (A := X.A.in1) (I.ok.hd calm) it a z.n3 us.toArray
    refine wpAny_pyNext_enum_itemD draws he ⟨z.iter, isT'⟩ ilt z.n1 (by simp [z.n1, z.n2]) fun xv h1 tk at_i out st1 newT size kept => ?_
    obtain rfl : u = xv := by
      have q : us.toArray[i]? = some u := by simpa using hu
      exact Option.some.inj (q.symm.trans at_i)
    refine ⟨_, rfl, ?_⟩
    refine wpAny_letOwnedTupleGo_enum (s := { s with heap := h1, toks := tk + 1 }) out fun h2 en2 same => ?_
    have eN : s.heap.objs.size ≠ e := Nat.ne_of_gt (below e List.mem_cons_self)
    have T2 : h2.get? s.heap.objs.size = some { cls := .type "tuple", data := .seq #[.int i tk, u] } := (same.2 _ eN).trans newT
    have pair : Vals [V.int (i : Nat), y] [.int i tk, u] := .cons ⟨_, rfl⟩ (.cons ru .nil)
    have ok : ObjOk X.prog X.w (upd H s.heap.objs.size (.tup [.int (i : Nat), y])) h2 s.heap.objs.size
        (.tup [.int (i : Nat), y]) := ⟨show 2 ≤ sizeLine from by decide, _, pair, ⟨_, T2, rfl, _, rfl⟩⟩
    have stays : ∀ b o, b ∉ [e, it] → s.heap.get? b = some o → h2.get? b = some o := fun b o nb q => by
      have b1 : b ≠ e := fun h => nb (by simp [h])
      have b2 : b ≠ it := fun h => nb (by simp [h])
      exact (same.2 b b1).trans (kept b o b1 b2 q)
    have J := I.turnedNew (t' := tk + 1) (ch := [e, it]) stays fresh (Nat.le_refl _) ok
    refine ⟨.ref s.heap.objs.size, _, J, rfl, ⟨_, y, rfl, I.hok.fresh (Nat.le_refl _), rfl, ?_⟩, ⟨⟨u, ?_⟩, ?_, z.n1, z.n2, z.n3⟩, ?_⟩
    · intro ws hws
      rw [I.tuple_inj hws hq]
      exact hy
    · rw [show ((i + 1 : Nat) : Int) = (i : Int) + 1 by omega]
      exact en2
    · exact st1.1.at fun o q => (same.2 it z.n1.symm).trans q
    · intro b hb
      rw [upd_ne (Nat.ne_of_lt (below b hb))]
      exact (fresh b hb).1
  done := by
    intro X e1 e2 e3 calm i pins s σ H E I fresh z stop
    subst e1 e2 e3
    obtain ⟨old, he⟩ := z.en
    obtain ⟨ys, hq, le⟩ := stop
    obtain ⟨us, rel, isT, _⟩ := I.tuple hq
    have isT' : s.heap.IsTuple a us.toArray := isT
    have len := rel.length
    have none_at : us.toArray[i]? = none := by
      simp
      omega
    have ft := fresh it (by simp)
    refine et_end (I.ok.hd calm) he z.iter isT' none_at fun h' ext => ⟨rfl, ?_⟩
    exact I.turned (t' := s.toks) (fun b o nb q => ext b o nb q) ft.1 ft.2.1 ft.2.2.2.1 ft.2.2.2.2.1 ft.2.2.2.2.2
  self := by
    intro A i s Q E z h
    obtain ⟨_, he⟩ := z.en
    exact wpAny_pyIter_enum he h
def iEnumT (K : PySem.W.Frag) (ta : TA) : TI := fun σ H R => ta σ H fun vs H1 => ∃ a ys, vs = [.ref a] ∧ SqT K H1 a ys ∧ R (IteT K a) H1
theorem pi_enumT {X : Cx} {e : Expr} {ta : TA} {p pos tpos : Pos} {elts : List Expr} {kk : Nat} (hg : Gl X "enumerate") (hm : X.mg "enumerate" = none) (ha : PA X [e] ta)
    (one : starEach [e] X.env = [(false, eval e X.env)] := by rfl) : PI X (.Tuple elts kk tpos) (.Call (.Name "enumerate" p) [e] [] pos) (iEnumT X.K ta) := by
  constructor
  intro pins s σ H R I h
  refine Call_ (ld_blt I hg hm boot_enumerate ?_)
  refine PyProof.Rows.callWith_type1 (thn (ha.run pos pins s σ H _ I h) ?_) one rfl
  rintro us s1 ⟨vs, H1, I1, rel, a, ys, rfl, hq, goal⟩
  obtain ⟨u, rfl, ru⟩ := vals1 rel
  obtain rfl : u = .ref a := ru
  obtain ⟨its, _, isT, _⟩ := I1.tuple hq
  have isT' : s1.heap.IsTuple a its.toArray := isT
  have alt : a < s1.heap.objs.size := by
    obtain ⟨o, ho, _⟩ := isT'
    exact Heap.lt_size ho
  have sz : (s1.heap.push (etI a)).objs.size = s1.heap.objs.size + 1 := Heap.size_push ..
  have en : IsEnum (etH s1.heap a) (s1.heap.objs.size + 1) s1.heap.objs.size 0 .none := by
    show (etH s1.heap a).get? _ = _
    rw [← sz]
    exact Heap.get?_push_size _
        rfl
  have itr : (etH s1.heap a).IsTupleIter s1.heap.objs.size a 0 := ⟨_, Heap.get?_push_of_some _ (Heap.get?_push_size _ rfl), rfl, rfl⟩
  have grown : ∀ b o, s1.heap.get? b = some o → (etH s1.heap a).get? b = some o := fun b o q => Heap.get?_push_of_some _ (Heap.get?_push_of_some _ q)
  refine et_call isT' (wpAny_pyIter_enum en ?_)
  have I2 := I1.kept (t' := s1.toks) grown
  refine ⟨s1.heap.objs.size + 1, [s1.heap.objs.size + 1, s1.heap.objs.size], _, _, H1, rfl, I2, turn_enumT a (s1.heap.objs.size + 1) s1.heap.objs.size,
    ⟨⟨.none, en⟩, itr, Nat.succ_ne_self _, Nat.ne_of_gt (Nat.lt_succ_of_lt alt), Nat.ne_of_lt alt⟩, ?_, goal⟩
  intro b hb
  have up : s1.heap.objs.size ≤ b := by
    rcases two_mem hb with rfl | rfl
    · exact Nat.le_succ _
    · exact Nat.le_refl _
  exact I1.fpOk up (I1.hok.fresh up)
section
variable {ca : Nat → Addr} {K : PySem.W.Frag} {Hf H : Hp} {vs : List V} {ds : List D} {X : Cx}
theorem itd_enumT {a : Addr} (h : SqT K Hf a vs) (r : RepL ca K Hf H Em vs ds) (hc : colds ds = true) : ItD ca K (IteT K a) Hf (enumD 0 ds) := by
  intro Hf' H' x1 x2 x5
  have x3 : Ex Hf H' := fun a o e => x2 a o (x1 a o e)
  refine ⟨fun i hi => ?_, ⟨vs, sqT_ex x3 h, by rw [r.length, enumD_length]; exact Nat.le_refl _⟩, fun i d x H2 e y => ?_⟩
  · have : i < vs.length := by rw [r.length]; rw [enumD_length] at hi; exact hi
    exact ⟨vs, vs[i], sqT_ex x3 h, by simp [this]⟩
  · obtain ⟨T, xv, rfl, hT, rfl, y⟩ := y
    obtain ⟨d', e1, rfl⟩ := enumD_get e
    obtain ⟨v', T', e2, r2, z⟩ := repL_at r e1
    have := y vs (sqT_ex x3 h)
    rw [e2] at this
    have e3 : v' = xv := Option.some.inj this
    subst e3
    have hT' : Hf' T = none := by
      cases q : Hf' T with
      | none => rfl
      | some o => rw [x2 T o q] at hT; cases hT
    refine ⟨rfl, upd Hf' T (.tup [.int (i : Nat), v']), fun b o e => upd_keep hT' b o e, fun b o e => upd_keep hT b o e, fun b o e => ?_, fun b o e => ?_, x5.upd2, ?_⟩
    · by_cases q : b = T
      · subst q; rw [upd_same] at e ⊢; exact e
      · rw [upd_ne q] at e ⊢; exact x2 b o e
    · by_cases q : b = T
      · subst q; exact .inr hT
      · rw [upd_ne q] at e; exact .inl e
    · refine .tup upd_same (.cons (S1 := Em) (S2 := Em) (by rw [Nat.zero_add]; exact .int) (.cons (S1 := Em) (S2 := Em) ((r2.mono z).keep (fun b o e => upd_keep hT' b o (x1 b o e)) fun _ q => q.elim) .nil (fun _ q => q) (fun _ q => q) fun _ q _ => q) (fun _ q => q) (fun _ q => q) fun _ q _ => q)
/-- enumerate(tuple) -/
def iEnT (m : ME) : Sl → Res (List D) := fun st => (m st).bind fun d st1 => match tupItems d with
  | some ds => if colds ds then .ok (enumD 0 ds) st1 else .fail
  | none => .fail
theorem ci_enumT {e : Expr} {m : ME} {p pos tpos : Pos} {elts : List Expr} {kk : Nat} (hg : Gl X "enumerate") (hm : X.mg "enumerate" = none) (he : CE ca X e m) (hs : starEach [e] X.env = [(false, eval e X.env)] := by rfl) :
    CI ca X (.Tuple elts kk tpos) (.Call (.Name "enumerate" p) [e] [] pos) (iEnumT X.K (tCons (We X e) tNil)) (iEnT m) := ⟨pi_enumT hg hm (pa_cons (we_pe X e) pa_nil hs) hs, fun Hf H R σ st Q p h => by
  refine he Hf H R σ st _ p ?_
  unfold iEnT at h
  cases r : m st with
  | fail => rw [r] at h; exact h
  | exc x st => rw [r] at h; exact h
  | ok d st1 =>
    rw [r] at h
    dsimp only [Res.bind] at h
    intro Hf1 H1 P R1 v t1 p1
    cases d with
    | tup ds =>
      dsimp only [tupItems] at h
      by_cases hc : colds ds = true
      · rw [if_pos hc] at h
        obtain ⟨Hf', a, vs, rfl, s1, r1, p2, t2⟩ := p1.walkedT
        exact ⟨a, vs, rfl, sqT_ex p2.w.ex s1, h Hf' H1 R1 _ (t1.trans t2) p2 (itd_enumT s1 r1 hc)⟩
      · rw [if_neg hc] at h; exact h.elim
    | _ => exact h.elim⟩
end
end DL

/-! DL18: a law's end. -/
namespace DL
open PySem L2 PyProof.Rows
end DL

/-! DL19: lists of whole numbers as data; loops read. -/
namespace DL
open PySem (Str)
open L2 (atI ixN)
def nums (l : List Int) : List D := l.map D.int
theorem nums_nil : nums [] = [] := rfl
theorem nums_cons (a : Int) (l : List Int) : nums (a :: l) = .int a :: nums l := rfl
theorem nums_len (l : List Int) : (nums l).length = l.length := by unfold nums; rw [List.length_map]
theorem nums_app (l k : List Int) : nums (l ++ k) = nums l ++ nums k := by unfold nums; rw [List.map_append]
theorem nums_colds (l : List Int) : colds (nums l) = true := by
  unfold colds nums
  rw [List.all_map]
  exact List.all_eq_true.mpr fun x _ => rfl
theorem nums_frz : ∀ l : List Int, frzL (nums l) = nums l
  | [] => rfl
  | a :: l => by rw [nums_cons, frzL, frz, nums_frz l]
theorem nums_as : ∀ l : List Int, asInts (nums l) = some l
  | [] => rfl
  | a :: l => by rw [nums_cons, asInts, nums_as l]; rfl
theorem nums_set (l : List Int) (i : Nat) (x : Int) : (nums l).set i (.int x) = nums (l.set i x) := by unfold nums; rw [List.map_set]
theorem nums_rev (l : List Int) : (nums l).reverse = nums l.reverse := by unfold nums; rw [List.map_reverse]
theorem scr_items (l : List Int) : l.map D.int = nums l := rfl
theorem ixN_nat {n : Nat} {i : Int} (h0 : 0 ≤ i) (h1 : i < n) : ixN n i = some i.toNat := by
  unfold ixN
  rw [if_pos h0, if_pos h1]
theorem nums_at {l : List Int} {i : Int} (h0 : 0 ≤ i) (h1 : i < l.length) : atI (nums l) i = some (.int (l.getD i.toNat 0)) := by
  unfold atI
  rw [nums_len, ixN_nat h0 h1, Option.bind_some]
  unfold nums
  have h2 : i.toNat < l.length := by omega
  rw [List.getElem?_map, List.getElem?_eq_getElem h2, Option.map_some, List.getD_eq_getElem?_getD, List.getElem?_eq_getElem h2, Option.getD_some]
theorem oIx_nums {o : Bool} {l : List Int} {i : Int} (h0 : 0 ≤ i) (h1 : i < l.length) : oIx [.lst o (nums l), .int i] = some (.val (.int (l.getD i.toNat 0))) := by
  simp [oIx, items, nums_at h0 h1, cold, hot]
theorem oIx_tup {l : List Int} {i : Int} (h0 : 0 ≤ i) (h1 : i < l.length) : oIx [.tup (nums l), .int i] = some (.val (.int (l.getD i.toNat 0))) := by
  simp [oIx, items, nums_at h0 h1, cold, hot]
theorem oIx_scr {l : List Int} {i : Int} (h0 : 0 ≤ i) (h1 : i < l.length) : oIx [.scr l, .int i] = some (.val (.int (l.getD i.toNat 0))) := by
  simp [oIx, items, scr_items, nums_at h0 h1, cold, hot]
/-- a for over data, with an invariant by the items that are behind -/
theorem forD_ok {g : MG} {body : MS} (I : Nat → Sl → Prop) : ∀ (ds : List D) (k : Nat) (st : Sl), I k st →
    (∀ (i : Nat) (d : D) (st : Sl), ds[i]? = some d → I (k + i) st → ∃ st1 st2, g d st = .ok () st1 ∧ (body st1 = .next st2 ∨ body st1 = .cont st2) ∧ I (k + i + 1) st2) → ∃ st', forD g body ds st = .next st' ∧ I (k + ds.length) st'
  | [], k, st, h, _ => ⟨st, rfl, h⟩
  | d :: ds, k, st, h, hs => by
    obtain ⟨st1, st2, e1, e2, h2⟩ := hs 0 d st rfl h
    obtain ⟨st', e3, h3⟩ := forD_ok I ds (k + 1) st2 h2 fun i d' st3 e h4 => by
      have := hs (i + 1) d' st3 (by simpa using e) (by rw [show k + (i + 1) = k + 1 + i by omega]; exact h4)
      rw [show k + (i + 1) + 1 = k + 1 + i + 1 by omega] at this
      exact this
    refine ⟨st', ?_, by rw [show k + (d :: ds).length = k + 1 + ds.length by rw [List.length_cons]; omega]; exact h3⟩
    rw [forD, e1]
    show (match body st1 with | .next st2 => forD g body ds st2 | .cont st2 => forD g body ds st2 | .brk st2 => .next st2 | r => r) = _
    rcases e2 with e2 | e2
    · rw [e2]; exact e3
    · rw [e2]; exact e3
/-- a comprehension's loop, with an invariant -/
theorem compD_ok {g : MG} {t : MT} {e : ME} {vs : List Nat} (I : Nat → Sl → List D → Prop) : ∀ (ds : List D) (k : Nat) (st : Sl) (acc : List D), I k st acc →
    (∀ (i : Nat) (d : D) (st : Sl) (acc : List D), ds[i]? = some d → I (k + i) st acc → ∃ st1 b st2, g d st = .ok () st1 ∧ t st1 = .ok b st2 ∧
      (b = false → I (k + i + 1) (wipeS st2 vs) acc) ∧ (b = true → acc.length < 16777216 ∧ ∃ y st3, e st2 = .ok y st3 ∧ I (k + i + 1) (wipeS st3 vs) (acc ++ [y]))) →
    ∃ acc' st', compD g t e vs ds st acc = .ok acc' st' ∧ I (k + ds.length) st' acc'
  | [], k, st, acc, h, _ => ⟨acc, st, rfl, h⟩
  | d :: ds, k, st, acc, h, hs => by
    obtain ⟨st1, b, st2, e1, e2, h2, h3⟩ := hs 0 d st acc rfl h
    have step : ∀ st' acc', I (k + 1) st' acc' → ∃ acc2 st2, compD g t e vs ds st' acc' = .ok acc2 st2 ∧ I (k + (d :: ds).length) st2 acc2 := fun st' acc' h' => by
      obtain ⟨a2, s2, q1, q2⟩ := compD_ok I ds (k + 1) st' acc' h' fun i d' st3 acc3 e' h4 => by
        have := hs (i + 1) d' st3 acc3 (by simpa using e') (by rw [show k + (i + 1) = k + 1 + i by omega]; exact h4)
        rw [show k + (i + 1) + 1 = k + 1 + i + 1 by omega] at this
        exact this
      exact ⟨a2, s2, q1, by rw [show k + (d :: ds).length = k + 1 + ds.length by rw [List.length_cons]; omega]; exact q2⟩
    rw [compD, e1]
    dsimp only [Res.noX, Res.bind]
    rw [e2]
    dsimp only
    cases b with
    | false =>
      rw [if_neg (by decide)]
      exact step _ _ (h2 rfl)
    | true =>
      obtain ⟨hl, y, st3, e3, h4⟩ := h3 rfl
      rw [if_pos rfl, e3]
      dsimp only
      rw [if_pos hl]
      exact step _ _ h4
theorem rangeD_get {lo : Int} {n i : Nat} {d : D} (h : (rangeD lo n)[i]? = some d) : i < n ∧ d = .int (lo + i) := by
  unfold rangeD at h
  rw [List.getElem?_map] at h
  cases e : (List.range n)[i]? with
  | none =>
    rw [e] at h
    cases h
  | some j =>
    rw [e] at h
    have hi : i < n := by
      have := (List.getElem?_eq_some_iff.mp e).1
      simpa using this
    have : j = i := by
      have := (List.getElem?_eq_some_iff.mp e).2
      simp at this
      exact this.symm
    subst this
    exact ⟨hi, (Option.some.inj h).symm⟩
theorem rangeD_len (lo : Int) (n : Nat) : (rangeD lo n).length = n := by unfold rangeD; rw [List.length_map, List.length_range]
theorem nums_get {l : List Int} {i : Nat} {d : D} (h : (nums l)[i]? = some d) : ∃ x, l[i]? = some x ∧ d = .int x := by
  unfold nums at h
  rw [List.getElem?_map] at h
  cases e : l[i]? with
  | none =>
    rw [e] at h
    cases h
  | some x => rw [e] at h; exact ⟨x, rfl, (Option.some.inj h).symm⟩
theorem colds_range (lo : Int) (n : Nat) : colds (rangeD lo n) = true := by
  unfold colds rangeD
  rw [List.all_map]
  exact List.all_eq_true.mpr fun x _ => rfl
theorem nums_py : ∀ l : List Int, toPyL (nums l) = l.map PySem.PyData.int
  | [] => by rw [nums_nil, toPyL]; rfl
  | a :: l => by rw [nums_cons, toPyL, toPy, nums_py l]; rfl
theorem lay_nums : ∀ l : List Int, PySem.PyData.canLayAll0 (l.map PySem.PyData.int) = true
  | [] => by rw [List.map_nil, PySem.PyData.canLayAll0]
  | a :: l => by rw [List.map_cons, PySem.PyData.canLayAll0, lay_nums l, PySem.PyData.canLay0]; rfl
theorem depth_nums : ∀ l : List Int, PySem.PyData.depthAll (l.map PySem.PyData.int) = 0
  | [] => by rw [List.map_nil, PySem.PyData.depthAll]
  | a :: l => by rw [List.map_cons, PySem.PyData.depthAll, depth_nums l, PySem.PyData.depth]; rfl
theorem eqv_nums : ∀ l k : List Int, PySem.PyData.eqvAll (l.map PySem.PyData.int) (k.map PySem.PyData.int) = decide (l = k)
  | [], [] => by rw [List.map_nil, PySem.PyData.eqvAll]; rfl
  | [], b :: k => by rw [List.map_nil, List.map_cons, PySem.PyData.eqvAll]; rfl
  | a :: l, [] => by rw [List.map_nil, List.map_cons, PySem.PyData.eqvAll]; rfl
  | a :: l, b :: k => by
    rw [List.map_cons, List.map_cons, PySem.PyData.eqvAll, eqv_nums l k, PySem.PyData.eqv]
    by_cases h : a = b <;> by_cases h2 : l = k <;> simp [h, h2]
theorem sh_int (a : Int) : PySem.SeqAt.shaped (toPy (.int a)) = true := by
  rw [toPy]
  unfold PySem.SeqAt.shaped
  rw [PySem.PyData.canLay0, PySem.PyData.depth]
  rfl
theorem sh_bl (a : Bool) : PySem.SeqAt.shaped (toPy (.bl a)) = true := by
  rw [toPy]
  unfold PySem.SeqAt.shaped
  rw [PySem.PyData.canLay0, PySem.PyData.depth]
  rfl
theorem sh_lst (o : Bool) (l : List Int) : PySem.SeqAt.shaped (toPy (.lst o (nums l))) = true := by
  rw [toPy, nums_py]
  unfold PySem.SeqAt.shaped
  rw [PySem.PyData.canLay0, PySem.PyData.depth, lay_nums, depth_nums]
  rfl
theorem sh_tup (l : List Int) : PySem.SeqAt.shaped (toPy (.tup (nums l))) = true := by
  rw [toPy, nums_py]
  unfold PySem.SeqAt.shaped
  rw [PySem.PyData.canLay0, PySem.PyData.depth, lay_nums, depth_nums]
  rfl
theorem pEq_int (a b : Int) : pEq (.int a) (.int b) = some (.bl (decide (a = b))) := by
  unfold pEq
  rw [sh_int, sh_int, toPy, toPy, PySem.PyData.eqv]
  by_cases h : a = b <;> simp [h]
theorem pNe_int (a b : Int) : pNe (.int a) (.int b) = some (.bl (!decide (a = b))) := by
  unfold pNe
  rw [sh_int, sh_int, toPy, toPy, PySem.PyData.eqv]
  by_cases h : a = b <;> simp [h]
theorem pEq_bl (a b : Bool) : pEq (.bl a) (.bl b) = some (.bl (decide (a = b))) := by
  unfold pEq
  rw [sh_bl, sh_bl, toPy, toPy, PySem.PyData.eqv]
  by_cases h : a = b <;> simp [h]
theorem pNe_bl (a b : Bool) : pNe (.bl a) (.bl b) = some (.bl (!decide (a = b))) := by
  unfold pNe
  rw [sh_bl, sh_bl, toPy, toPy, PySem.PyData.eqv]
  by_cases h : a = b <;> simp [h]
theorem pEq_lst (o p : Bool) (l k : List Int) : pEq (.lst o (nums l)) (.lst p (nums k)) = some (.bl (decide (l = k))) := by
  unfold pEq
  rw [sh_lst, sh_lst, toPy, toPy, nums_py, nums_py, PySem.PyData.eqv, eqv_nums]
  rfl
theorem pNe_lst (o p : Bool) (l k : List Int) : pNe (.lst o (nums l)) (.lst p (nums k)) = some (.bl (!decide (l = k))) := by
  unfold pNe
  rw [sh_lst, sh_lst, toPy, toPy, nums_py, nums_py, PySem.PyData.eqv, eqv_nums]
  rfl
theorem pEq_tup (l k : List Int) : pEq (.tup (nums l)) (.tup (nums k)) = some (.bl (decide (l = k))) := by
  unfold pEq
  rw [sh_tup, sh_tup, toPy, toPy, nums_py, nums_py, PySem.PyData.eqv, eqv_nums]
  rfl
theorem pNe_tup (l k : List Int) : pNe (.tup (nums l)) (.tup (nums k)) = some (.bl (!decide (l = k))) := by
  unfold pNe
  rw [sh_tup, sh_tup, toPy, toPy, nums_py, nums_py, PySem.PyData.eqv, eqv_nums]
  rfl
theorem eLenI_v {C : Nat} {f : MF} {m : ME} {st st2 : Sl} {x : D} {n : Nat} {ps : Sl} (h : m st = .ok x st2) (hc : insC x = some C) (hf : f [x] = .ok (.int (n : Int)) ps) (hn : n < 1000000000) : eLenI C f (.v m) st = .ok (.int (n : Int)) st2 := by
  unfold eLenI
  rw [opds, h]
  dsimp only [Res.bind, opds, Option.map]
  rw [if_pos hc, hf]
  dsimp only
  rw [if_pos ⟨by omega, by omega⟩]
theorem eOp2_v {f : List D → Option Out} {m1 m2 : ME} {st st1 st2 : Sl} {a b : D} {o : Out} (h1 : m1 st = .ok a st1) (h2 : m2 st1 = .ok b st2) (hf : f [a, b] = some o) : eOp f [.v m1, .v m2] st = .ok o.d st2 := by
  unfold eOp
  rw [opds, h1]
  dsimp only [Res.bind]
  rw [opds, h2]
  dsimp only [Res.bind, opds, Option.map, Option.bind]
  rw [hf]
theorem fn_ret {n w : Nat} {L : List Nat} {body : MS} {ds : List D} {d : D} {st : Sl} (hl : ds.length = n) (h : body (ds.map some ++ List.replicate (w - n) none) = .ret d st) : fn n w L body ds = .ok d (keepL L n st) := by
  unfold fn
  rw [if_pos hl, h]
theorem sRet_ok {m : ME} {st st1 : Sl} {d : D} (h : m st = .ok d st1) : sRet m st = .ret d st1 := by
  unfold sRet
  rw [h]
  rfl
theorem sSeq_next {a b : MS} {st st1 : Sl} {r : SR} (h : a st = .next st1) (h2 : b st1 = r) : sSeq a b st = r := by
  unfold sSeq
  rw [h]
  exact h2
theorem sAsg_ok {m : ME} {g : MG} {st st1 st2 : Sl} {d : D} (h : m st = .ok d st1) (h2 : g d st1 = .ok () st2) : sAsg m g st = .next st2 := by
  unfold sAsg
  rw [h]
  show (g d st1).toN _ = _
  rw [h2]
  rfl
theorem sIf_ok {c : MT} {a b : MS} {st st1 : Sl} {k : Bool} (h : c st = .ok k st1) : sIf c a b st = if k then a st1 else b st1 := by
  unfold sIf
  rw [h]
  rfl
theorem tE_ok {m : ME} {st st1 : Sl} {k : Bool} (h : m st = .ok (.bl k) st1) : tE m st = .ok k st1 := by
  unfold tE
  rw [h]
  rfl
theorem tOr_ok {a b : MT} {st st1 st2 : Sl} {k : Bool} (h : a st = .ok false st1) (h2 : b st1 = .ok k st2) : tOrM a b st = .ok k st2 := by
  unfold tOrM
  rw [h]
  exact h2
theorem eEqI_v {neg : Bool} {C : Nat} {f : MF} {m1 m2 : ME} {st st1 st2 : Sl} {a b : D} {k : Bool} {ps : Sl} (h1 : m1 st = .ok a st1) (h2 : m2 st1 = .ok b st2) (ha : insC a = some C) (hb : insC b = some C) (hf : f [a, b] = .ok (.bl k) ps) : eEqI neg C f (.v m1) (.v m2) st = .ok (.bl (if neg then !k else k)) st2 := by
  unfold eEqI
  rw [opds, h1]
  dsimp only [Res.bind]
  rw [opds, h2]
  dsimp only [Res.bind, opds, Option.map]
  rw [if_pos ⟨ha, hb⟩, hf]
theorem eFz_v {m : ME} {st st1 : Sl} {a : D} (h : m st = .ok a st1) : eFz m st = .ok (frz a) st1 := by
  unfold eFz
  rw [h]
  rfl
theorem eOp1_v {f : List D → Option Out} {m1 : ME} {st st1 : Sl} {a : D} {o : Out} (h1 : m1 st = .ok a st1) (hf : f [a] = some o) : eOp f [.v m1] st = .ok o.d st1 := by
  unfold eOp
  rw [opds, h1]
  dsimp only [Res.bind, opds, Option.map, Option.bind]
  rw [hf]
theorem eOpvs_v {f : List D → Option Out} {m1 : ME} {i : Nat} {st st1 : Sl} {a b : D} {o : Out} (h1 : m1 st = .ok a st1) (h2 : getS st1 i = some b) (hf : f [a, b] = some o) : eOp f [.v m1, .s i] st = .ok o.d st1 := by
  unfold eOp
  rw [opds, h1]
  dsimp only [Res.bind]
  rw [opds, if_pos (by rw [h2]; rfl)]
  dsimp only [opds, Option.map, Option.bind]
  rw [h2]
  dsimp only
  rw [hf]
theorem iR1_v {m : ME} {st st1 : Sl} {n : Nat} {j : Int} (hj : j = (n : Int)) (h : m st = .ok (.int j) st1) (hs : small62 j = true) : iR1 m st = .ok (rangeD 0 n) st1 := by
  have e : j.toNat = n := by omega
  simp only [iR1, h, Res.bind, hs, if_true, e]
theorem eN_v {i : Nat} {st : Sl} {d : D} (h : getS st i = some d) (hc : hot d = false) : eN i st = .ok d st := by
  unfold eN
  rw [h]
  dsimp only
  rw [hc]
  rfl
theorem eNf_v {i : Nat} {st : Sl} {d : D} (h : getS st i = some d) (hc : hot d = true) : eN i st = .ok (frz d) (st.set i (some (frz d))) := by
  unfold eN
  rw [h]
  dsimp only
  rw [hc]
  rfl
theorem eOp1_s {f : List D → Option Out} {i : Nat} {st : Sl} {a : D} {o : Out} (h1 : getS st i = some a) (hf : f [a] = some o) : eOp f [.s i] st = .ok o.d st := by
  unfold eOp
  rw [opds, if_pos (by rw [h1]; rfl)]
  dsimp only [opds, Option.map, Option.bind]
  rw [h1]
  dsimp only
  rw [hf]
theorem oLen_l {o : Bool} {l : List Int} : oLen [.lst o (nums l)] = some (.val (.int (l.length : Nat))) := by
  show some (Out.val (.int (nums l).length)) = _
  rw [nums_len]
theorem oMul_v {i j : Int} (h : -(2 ^ 64) < j ∧ j < 2 ^ 64) : oMul [.int i, .int j] = some (.val (.int (i * j))) := by
  show (if (-(2 ^ 64) < i ∧ i < 2 ^ 64) ∨ (-(2 ^ 64) < j ∧ j < 2 ^ 64) then some (Out.val (.int (i * j))) else none) = _
  rw [if_pos (.inr h)]
theorem oMod_v {i j : Int} (h : 0 < j) : oMod [.int i, .int j] = some (.val (.int (i % j))) := by
  show (if 0 < j then some (Out.val (.int (i % j))) else none) = _
  rw [if_pos h]
theorem oDiv_v {i j : Int} (h : 0 < j) (h2 : j < 9000) : oDiv [.int i, .int j] = some (.val (.int (i / j))) := by
  show (if 0 < j ∧ j.natAbs.log2 < 9000 then some (Out.val (.int (i / j))) else none) = _
  rw [if_pos ⟨h, by
    have := Nat.log2_le_self j.natAbs
    omega⟩]
theorem oPow_v {i j : Int} (h : 0 ≤ j ∧ j ≤ 1000000) (h2 : i.natAbs < 2 ^ 64) : oPow [.int i, .int j] = some (.val (.int (i ^ j.toNat))) := by
  show (if 0 ≤ j ∧ j ≤ 1000000 ∧ i.natAbs < 2 ^ 64 then some (Out.val (.int (i ^ j.toNat))) else none) = _
  rw [if_pos ⟨h.1, h.2, h2⟩]
theorem ix2_0 {o : Bool} {a b : Int} : oIx [.lst o [.int a, .int b], .int 0] = some (.val (.int a)) := oIx_nums (l := [a, b]) (i := 0) (by decide) (by show (0 : Int) < ((2 : Nat) : Int); decide)
theorem ix2_1 {o : Bool} {a b : Int} : oIx [.lst o [.int a, .int b], .int 1] = some (.val (.int b)) := oIx_nums (l := [a, b]) (i := 1) (by decide) (by show (1 : Int) < ((2 : Nat) : Int); decide)
theorem ixN2_0 : L2.ixN 2 0 = some 0 := rfl
theorem ixN2_1 : L2.ixN 2 1 = some 1 := rfl
theorem oMul_l {i j : Int} (h : -(2 ^ 64) < i ∧ i < 2 ^ 64) : oMul [.int i, .int j] = some (.val (.int (i * j))) := by
  show (if (-(2 ^ 64) < i ∧ i < 2 ^ 64) ∨ (-(2 ^ 64) < j ∧ j < 2 ^ 64) then some (Out.val (.int (i * j))) else none) = _
  rw [if_pos (.inl h)]
theorem cut_nums (l : List Int) (lo hi : Option Int) : ∃ k, cutD (nums l) lo hi = nums k ∧ k.length ≤ l.length := by
  refine ⟨(l.drop (HT.sIx l.length 0 lo)).take (HT.sIx l.length l.length hi - HT.sIx l.length 0 lo), ?_, ?_⟩
  · unfold cutD nums
    rw [List.length_map, List.map_take, List.map_drop]
  · rw [List.length_take, List.length_drop]
    omega
theorem oSl01_scr (l : List Int) (j : Int) (hl : l.length ≤ 63) : ∃ k, oSl01 [.scr l, .int j] = some (.newL (nums k)) := by
  obtain ⟨k, e, h⟩ := cut_nums l none (some j)
  refine ⟨k, ?_⟩
  show newLc (cutD (nums l) none (some j)) = _
  rw [e]
  unfold newLc
  rw [nums_colds, nums_len, decide_eq_true (by omega : k.length ≤ 16777216)]
  rfl
theorem oSum_nums (o : Bool) (k : List Int) : oSum [.lst o (nums k)] = some (.val (.int k.sum)) := by
  unfold oSum lstItems
  dsimp only [Option.bind]
  rw [nums_as]
  rfl
theorem oLen_scr (l : List Int) : oLen [.scr l] = some (.val (.int (l.length : Nat))) := by
  show some (Out.val (.int (l.map D.int).length)) = _
  rw [List.length_map]
theorem eLc_v {src : Sl → Res (List D)} {g : MG} {t : MT} {e : ME} {vs : List Nat} {st st1 st2 : Sl} {ds acc : List D} (h1 : src st = .ok ds st1) (h2 : compD g t e vs ds (wipeS st1 vs) [] = .ok acc st2) : eLc src g t e vs st = .ok (.lst true acc) st2 := by
  unfold eLc
  rw [h1]
  dsimp only [Res.bind]
  rw [h2]
theorem eOpsv_v {f : List D → Option Out} {m1 : ME} {i : Nat} {st st1 : Sl} {a b : D} {o : Out} (h0 : (getS st i).isSome = true) (h1 : m1 st = .ok b st1) (h2 : getS st1 i = some a) (hf : f [a, b] = some o) : eOp f [.s i, .v m1] st = .ok o.d st1 := by
  unfold eOp
  rw [opds, if_pos h0, opds, h1]
  dsimp only [Res.bind, opds, Option.map, Option.bind]
  rw [h2]
  dsimp only
  rw [hf]
theorem kb_NoneType_int : L2.kitB "NoneType" "int" = some false := by kernel_rfl
theorem kb_NoneType_bool : L2.kitB "NoneType" "bool" = some false := by kernel_rfl
theorem kb_NoneType_list : L2.kitB "NoneType" "list" = some false := by kernel_rfl
theorem kb_NoneType_tuple : L2.kitB "NoneType" "tuple" = some false := by kernel_rfl
theorem kb_NoneType_str : L2.kitB "NoneType" "str" = some false := by kernel_rfl
theorem kb_bool_int : L2.kitB "bool" "int" = some true := by kernel_rfl
theorem kb_bool_bool : L2.kitB "bool" "bool" = some true := by kernel_rfl
theorem kb_bool_list : L2.kitB "bool" "list" = some false := by kernel_rfl
theorem kb_bool_tuple : L2.kitB "bool" "tuple" = some false := by kernel_rfl
theorem kb_bool_str : L2.kitB "bool" "str" = some false := by kernel_rfl
theorem kb_int_int : L2.kitB "int" "int" = some true := by kernel_rfl
theorem kb_int_bool : L2.kitB "int" "bool" = some false := by kernel_rfl
theorem kb_int_list : L2.kitB "int" "list" = some false := by kernel_rfl
theorem kb_int_tuple : L2.kitB "int" "tuple" = some false := by kernel_rfl
theorem kb_int_str : L2.kitB "int" "str" = some false := by kernel_rfl
theorem kb_str_int : L2.kitB "str" "int" = some false := by kernel_rfl
theorem kb_str_bool : L2.kitB "str" "bool" = some false := by kernel_rfl
theorem kb_str_list : L2.kitB "str" "list" = some false := by kernel_rfl
theorem kb_str_tuple : L2.kitB "str" "tuple" = some false := by kernel_rfl
theorem kb_str_str : L2.kitB "str" "str" = some true := by kernel_rfl
theorem kb_list_int : L2.kitB "list" "int" = some false := by kernel_rfl
theorem kb_list_bool : L2.kitB "list" "bool" = some false := by kernel_rfl
theorem kb_list_list : L2.kitB "list" "list" = some true := by kernel_rfl
theorem kb_list_tuple : L2.kitB "list" "tuple" = some false := by kernel_rfl
theorem kb_list_str : L2.kitB "list" "str" = some false := by kernel_rfl
theorem kb_tuple_int : L2.kitB "tuple" "int" = some false := by kernel_rfl
theorem kb_tuple_bool : L2.kitB "tuple" "bool" = some false := by kernel_rfl
theorem kb_tuple_list : L2.kitB "tuple" "list" = some false := by kernel_rfl
theorem kb_tuple_tuple : L2.kitB "tuple" "tuple" = some true := by kernel_rfl
theorem kb_tuple_str : L2.kitB "tuple" "str" = some false := by kernel_rfl
theorem kb_dict_int : L2.kitB "dict" "int" = some false := by kernel_rfl
theorem kb_dict_bool : L2.kitB "dict" "bool" = some false := by kernel_rfl
theorem kb_dict_list : L2.kitB "dict" "list" = some false := by kernel_rfl
theorem kb_dict_tuple : L2.kitB "dict" "tuple" = some false := by kernel_rfl
theorem kb_dict_str : L2.kitB "dict" "str" = some false := by kernel_rfl
end DL

/-! DL20: the plain law of comparators between neighbours: exchanges, active steps, inversions. -/
namespace Nw
def hit (l : List Int) (s : Int) : Bool := decide (l.getD s.toNat 0 < l.getD (s - 1).toNat 0)
def xch (l : List Int) (s : Int) : List Int := (l.set (s - 1).toNat (l.getD s.toNat 0)).set s.toNat (l.getD (s - 1).toNat 0)
def stp (l : List Int) (s : Int) : List Int := if hit l s then xch l s else l
def runL (ss : List Int) (l : List Int) : List Int := ss.foldl stp l
def okS (w : Int) (ss : List Int) : Prop := ∀ s ∈ ss, 1 ≤ s ∧ s ≤ w - 1
def actS : List Int → List Int → List Int
  | [], _ => []
  | s :: ss, l => if hit l s then s :: actS ss (stp l s) else actS ss (stp l s)
theorem stp_len (l : List Int) (s : Int) : (stp l s).length = l.length := by
  unfold stp xch
  split <;> simp
theorem runL_len : ∀ (ss : List Int) (l : List Int), (runL ss l).length = l.length
  | [], _ => rfl
  | s :: ss, l => by
    show (runL ss (stp l s)).length = _
    rw [runL_len ss, stp_len]
/-! ### inversions -/
def cnt (x : Int) (p : List Int) : Nat := (p.filter fun y => decide (x < y)).length
def invP : List Int → List Int → Nat
  | _, [] => 0
  | p, x :: r => cnt x p + invP (p ++ [x]) r
def inv (l : List Int) : Nat := invP [] l
theorem cnt_app (x : Int) (p q : List Int) : cnt x (p ++ q) = cnt x p + cnt x q := by unfold cnt; rw [List.filter_append, List.length_append]
theorem cnt_one (x y : Int) : cnt x [y] = if x < y then 1 else 0 := by
  unfold cnt
  by_cases h : x < y <;> simp [h]
theorem split2 {l : List Int} {i : Nat} (h : i + 1 < l.length) : ∃ p r, l = p ++ l.getD i 0 :: l.getD (i + 1) 0 :: r ∧ p.length = i := by
  refine ⟨l.take i, l.drop (i + 2), ?_, by simp; omega⟩
  have e1 : l.getD i 0 = l[i] := by rw [List.getD_eq_getElem?_getD, List.getElem?_eq_getElem (by omega)]; rfl
  have e2 : l.getD (i + 1) 0 = l[i + 1] := by rw [List.getD_eq_getElem?_getD, List.getElem?_eq_getElem h]; rfl
  rw [e1, e2, ← List.drop_eq_getElem_cons h, ← List.drop_eq_getElem_cons (by omega : i < l.length), List.take_append_drop]
theorem xch_split {p r : List Int} {a b : Int} {s : Int} (h1 : 1 ≤ s) (hp : (p.length : Int) = s - 1) : xch (p ++ a :: b :: r) s = p ++ b :: a :: r := by
  have e1 : (s - 1).toNat = p.length := by omega
  have e2 : s.toNat = p.length + 1 := by omega
  unfold xch
  rw [e1, e2]
  have g1 : (p ++ a :: b :: r).getD p.length 0 = a := by
    rw [List.getD_eq_getElem?_getD, List.getElem?_append_right (Nat.le_refl _), Nat.sub_self]; rfl
  have g2 : (p ++ a :: b :: r).getD (p.length + 1) 0 = b := by
    rw [List.getD_eq_getElem?_getD, List.getElem?_append_right (by omega), show p.length + 1 - p.length = 1 by omega]; rfl
  rw [g1, g2, List.set_append_right _ _ (Nat.le_refl _), Nat.sub_self, List.set_cons_zero, List.set_append_right _ _ (by omega), show p.length + 1 - p.length = 1 by omega]
  rfl
def desc : Nat → List Int
  | 0 => []
  | n + 1 => ((n + 1 : Nat) : Int) :: desc n
theorem desc_len : ∀ n, (desc n).length = n
  | 0 => rfl
  | n + 1 => by rw [desc, List.length_cons, desc_len n]
theorem cnt_all {x : Int} : ∀ {p : List Int}, (∀ y ∈ p, x < y) → cnt x p = p.length
  | [], _ => rfl
  | a :: p, h => by
    have := cnt_all (x := x) (p := p) fun y hy => h y (List.mem_cons_of_mem _ hy)
    unfold cnt at this ⊢
    rw [List.filter_cons, if_pos (decide_eq_true (h a List.mem_cons_self)), List.length_cons, List.length_cons, this]
end Nw

/-! DL21: the relations of the steps; every network is as a normal one. -/
namespace Nw
/-- the step between the places i and i + 1 -/
def sN (l : List Int) (i : Nat) : List Int := stp l ((i : Int) + 1)
theorem sN_len (l : List Int) (i : Nat) : (sN l i).length = l.length := stp_len _ _
theorem sN_get {l : List Int} {i : Nat} (h : i + 1 < l.length) (k : Nat) : (sN l i).getD k 0 = if k = i then min (l.getD i 0) (l.getD (i + 1) 0) else if k = i + 1 then max (l.getD i 0) (l.getD (i + 1) 0) else l.getD k 0 := by
  have e1 : ((i : Int) + 1).toNat = i + 1 := by omega
  have e2 : ((i : Int) + 1 - 1).toNat = i := by omega
  unfold sN stp hit xch
  rw [e1, e2]
  by_cases hh : l.getD (i + 1) 0 < l.getD i 0
  · rw [if_pos (decide_eq_true hh)]
    simp only [List.getD_eq_getElem?_getD, List.getElem?_set, List.length_set]
    simp only [List.getD_eq_getElem?_getD] at hh
    by_cases k1 : k = i
    · subst k1
      rw [if_neg (by omega), if_pos rfl, if_pos (by omega), if_pos rfl]
      simp only [Option.getD_some]
      omega
    · by_cases k2 : k = i + 1
      · subst k2
        rw [if_pos rfl, if_pos (by omega), if_neg (by omega), if_pos rfl]
        simp only [Option.getD_some]
        omega
      · rw [if_neg (by omega), if_neg (by omega), if_neg k1, if_neg k2]
  · rw [if_neg (by simpa using hh)]
    by_cases k1 : k = i
    · subst k1
      rw [if_pos rfl]
      omega
    · rw [if_neg k1]
      by_cases k2 : k = i + 1
      · subst k2
        rw [if_pos rfl]
        omega
      · rw [if_neg k2]
theorem ext_get {l m : List Int} (hl : l.length = m.length) (h : ∀ k, l.getD k 0 = m.getD k 0) : l = m := by
  apply List.ext_getElem hl
  intro k h1 h2
  have := h k
  rw [List.getD_eq_getElem?_getD, List.getD_eq_getElem?_getD, List.getElem?_eq_getElem h1, List.getElem?_eq_getElem h2] at this
  exact this
theorem sN_idem {l : List Int} {i : Nat} (h : i + 1 < l.length) : sN (sN l i) i = sN l i := by
  apply ext_get (by rw [sN_len])
  intro k
  rw [sN_get (by rw [sN_len]; exact h)]
  simp only [sN_get h, if_true]
  by_cases k1 : k = i <;> by_cases k2 : k = i + 1 <;> simp [k1, k2] <;> omega
theorem sN_comm {l : List Int} {i j : Nat} (hi : i + 1 < l.length) (hj : j + 1 < l.length) (hij : i + 2 ≤ j) : sN (sN l i) j = sN (sN l j) i := by
  apply ext_get (by rw [sN_len, sN_len, sN_len, sN_len])
  intro k
  rw [sN_get (l := sN l i) (i := j) (by rw [sN_len]; exact hj), sN_get (l := sN l j) (i := i) (by rw [sN_len]; exact hi)]
  simp only [sN_get hi, sN_get hj]
  rw [if_neg (show ¬ j = i by omega), if_neg (show ¬ j = i + 1 by omega), if_neg (show ¬ j + 1 = i by omega), if_neg (show ¬ j + 1 = i + 1 by omega), if_neg (show ¬ i = j by omega), if_neg (show ¬ i = j + 1 by omega), if_neg (show ¬ i + 1 = j by omega), if_neg (show ¬ i + 1 = j + 1 by omega)]
  by_cases k1 : k = i
  · rw [if_neg (by omega), if_neg (by omega), if_pos k1, if_pos k1]
  · by_cases k2 : k = i + 1
    · rw [if_neg (by omega), if_neg (by omega), if_neg k1, if_pos k2, if_neg k1, if_pos k2]
    · rw [if_neg k1, if_neg k2, if_neg k1, if_neg k2]
theorem sN_braid {l : List Int} {i : Nat} (h : i + 2 < l.length) : sN (sN (sN l (i + 1)) i) (i + 1) = sN (sN (sN l i) (i + 1)) i := by
  apply ext_get (by simp only [sN_len])
  intro k
  have h1 : i + 1 < l.length := by omega
  have g1 : ∀ k, (sN l (i + 1)).getD k 0 = if k = i + 1 then min (l.getD (i + 1) 0) (l.getD (i + 1 + 1) 0) else if k = i + 1 + 1 then max (l.getD (i + 1) 0) (l.getD (i + 1 + 1) 0) else l.getD k 0 := fun k => sN_get h k
  have g2 : ∀ k, (sN l i).getD k 0 = if k = i then min (l.getD i 0) (l.getD (i + 1) 0) else if k = i + 1 then max (l.getD i 0) (l.getD (i + 1) 0) else l.getD k 0 := fun k => sN_get h1 k
  have g3 : ∀ k, (sN (sN l (i + 1)) i).getD k 0 = if k = i then min ((sN l (i + 1)).getD i 0) ((sN l (i + 1)).getD (i + 1) 0) else if k = i + 1 then max ((sN l (i + 1)).getD i 0) ((sN l (i + 1)).getD (i + 1) 0) else (sN l (i + 1)).getD k 0 := fun k => sN_get (by rw [sN_len]; exact h1) k
  have g4 : ∀ k, (sN (sN l i) (i + 1)).getD k 0 = if k = i + 1 then min ((sN l i).getD (i + 1) 0) ((sN l i).getD (i + 1 + 1) 0) else if k = i + 1 + 1 then max ((sN l i).getD (i + 1) 0) ((sN l i).getD (i + 1 + 1) 0) else (sN l i).getD k 0 := fun k => sN_get (by rw [sN_len]; exact h) k
  rw [sN_get (l := sN (sN l (i + 1)) i) (i := i + 1) (by rw [sN_len, sN_len]; exact h), sN_get (l := sN (sN l i) (i + 1)) (i := i) (by rw [sN_len, sN_len]; exact h1)]
  simp only [g3, g4, g1, g2]
  generalize l.getD i 0 = a
  generalize l.getD (i + 1) 0 = b
  generalize l.getD (i + 1 + 1) 0 = c
  generalize l.getD k 0 = d
  by_cases k1 : k = i
  · subst k1
    simp
    omega
  · by_cases k2 : k = i + 1
    · subst k2
      simp
      omega
    · by_cases k3 : k = i + 1 + 1
      · subst k3
        simp
        omega
      · simp [k1, k2, k3]
/-! ### words of steps, by the left place -/
def runN (w : List Nat) (l : List Int) : List Int := w.foldl sN l
theorem runN_app (a b : List Nat) (l : List Int) : runN (a ++ b) l = runN b (runN a l) := by unfold runN; rw [List.foldl_append]
theorem runN_cons (i : Nat) (a : List Nat) (l : List Int) : runN (i :: a) l = runN a (sN l i) := rfl
theorem runN_one (i : Nat) (l : List Int) : runN [i] l = sN l i := rfl
theorem runN_len : ∀ (w : List Nat) (l : List Int), (runN w l).length = l.length
  | [], _ => rfl
  | i :: w, l => by rw [runN_cons, runN_len w, sN_len]
theorem sN_comm2 {l : List Int} {i j : Nat} (hi : i + 1 < l.length) (hj : j + 1 < l.length) (h : i + 2 ≤ j ∨ j + 2 ≤ i) : sN (sN l i) j = sN (sN l j) i := by
  rcases h with h | h
  · exact sN_comm hi hj h
  · exact (sN_comm hj hi h).symm
theorem comm_past {i : Nat} : ∀ (ds : List Nat) (l : List Int), i + 1 < l.length → (∀ d ∈ ds, d + 1 < l.length ∧ (i + 2 ≤ d ∨ d + 2 ≤ i)) → runN (ds ++ [i]) l = runN (i :: ds) l
  | [], _, _, _ => rfl
  | d :: ds, l, hi, h => by
    obtain ⟨hd, hc⟩ := h d List.mem_cons_self
    have ih := comm_past ds (sN l d) (by rw [sN_len]; exact hi) fun e he => by
      rw [sN_len]
      exact h e (List.mem_cons_of_mem _ he)
    rw [List.cons_append, runN_cons, ih, runN_cons, runN_cons, runN_cons, sN_comm2 hd hi (hc.symm)]
/-- a descending block: m, m - 1, .. (c of them) -/
def dn : Nat → Nat → List Nat
  | _, 0 => []
  | m, c + 1 => m :: dn (m - 1) c
theorem dn_mem : ∀ (c m : Nat), c ≤ m + 1 → ∀ d ∈ dn m c, d ≤ m ∧ m < d + c
  | 0, _, _, d, h => by cases h
  | c + 1, m, hc, d, h => by
    rcases List.mem_cons.mp h with h | h
    · subst h
      omega
    · cases m with
      | zero =>
        have : c = 0 := by omega
        subst this
        cases h
      | succ m =>
        have := dn_mem c m (by omega) d h
        omega
theorem dn_snoc : ∀ (c m : Nat), c ≤ m → dn m (c + 1) = dn m c ++ [m - c]
  | 0, m, _ => rfl
  | c + 1, m, h => by
    rw [dn, dn_snoc c (m - 1) (by omega), dn, List.cons_append, show m - 1 - c = m - (c + 1) by omega]
/-- a step that lies within a block goes through it, one place lower -/
theorem push : ∀ (c m i : Nat) (l : List Int), c ≤ m + 1 → m + 1 < i + c → i ≤ m → m + 1 < l.length → runN (dn m c ++ [i]) l = runN ((i - 1) :: dn m c) l
  | 0, m, i, l, _, h1, h2, _ => by omega
  | c + 1, m, i, l, hc, h1, h2, hl => by
    by_cases him : i = m
    · subst him
      cases c with
      | zero => omega
      | succ c =>
        obtain ⟨k, rfl⟩ : ∃ k, i = k + 1 := ⟨i - 1, by omega⟩
        have far := comm_past (i := k + 1) (dn (k - 1) c) (sN (sN l (k + 1)) k) (by rw [sN_len, sN_len]; omega) fun d hd => by
          rw [sN_len, sN_len]
          cases k with
          | zero =>
            have : c = 0 := by omega
            subst this
            cases hd
          | succ k =>
            have := dn_mem c k (by omega) d hd
            omega
        show runN (dn (k - 1) c ++ [k + 1]) (sN (sN l (k + 1)) k) = runN (dn (k - 1) c) (sN (sN (sN l k) (k + 1)) k)
        rw [far, runN_cons, sN_braid (by omega)]
    · have ih := push c (m - 1) i (sN l m) (by omega) (by omega) (by omega) (by rw [sN_len]; omega)
      show runN (dn (m - 1) c ++ [i]) (sN l m) = runN (dn (m - 1) c) (sN (sN l (i - 1)) m)
      rw [ih, runN_cons, sN_comm2 (l := l) (i := m) (j := i - 1) hl (by omega) (.inr (by omega))]
/-! ### normal words by codes; a code is given from its end -/
def nfR : List Nat → List Nat
  | [] => []
  | c :: r => nfR r ++ dn r.length c
def okC : List Nat → Prop
  | [] => True
  | c :: r => c ≤ r.length + 1 ∧ okC r
/-- a step behind a normal word: a normal word again -/
theorem absorb : ∀ (cs : List Nat) (i : Nat), okC cs → i < cs.length → ∃ cs', cs'.length = cs.length ∧ okC cs' ∧ ∀ l : List Int, cs.length < l.length → runN (nfR cs ++ [i]) l = runN (nfR cs') l
  | [], i, _, h => by cases h
  | c :: r, i, ⟨h1, h2⟩, hi => by
    rw [List.length_cons] at hi
    -- a step for what lies before
    have before : ∀ j, j < r.length → (∀ l : List Int, r.length + 1 < l.length → runN (dn r.length c ++ [i]) l = runN (j :: dn r.length c) l) →
        ∃ cs', cs'.length = (c :: r).length ∧ okC cs' ∧ ∀ l : List Int, (c :: r).length < l.length → runN (nfR (c :: r) ++ [i]) l = runN (nfR cs') l := fun j hj hp => by
      obtain ⟨r', e1, e2, e3⟩ := absorb r j h2 hj
      refine ⟨c :: r', by rw [List.length_cons, e1, List.length_cons], ⟨by rw [e1]; exact h1, e2⟩, fun l hl => ?_⟩
      rw [List.length_cons] at hl
      show runN (nfR r ++ dn r.length c ++ [i]) l = runN (nfR r' ++ dn r'.length c) l
      rw [List.append_assoc, runN_app, hp _ (by rw [runN_len]; exact hl), runN_app, e1, ← e3 l (by omega), runN_app]
      rfl
    cases c with
    | zero =>
      by_cases him : i = r.length
      · subst him
        refine ⟨1 :: r, rfl, ⟨by omega, h2⟩, fun l _ => ?_⟩
        show runN (nfR r ++ [] ++ [r.length]) l = runN (nfR r ++ [r.length]) l
        rw [List.append_nil]
      · exact before i (by omega) fun l _ => rfl
    | succ c =>
      by_cases q1 : i + c + 1 = r.length
      · -- it makes the block longer
        refine ⟨(c + 2) :: r, rfl, ⟨by omega, h2⟩, fun l _ => ?_⟩
        show runN (nfR r ++ dn r.length (c + 1) ++ [i]) l = runN (nfR r ++ dn r.length (c + 1 + 1)) l
        rw [dn_snoc (c + 1) r.length (by omega), List.append_assoc, show r.length - (c + 1) = i by omega]
      · by_cases q2 : i + c = r.length
        · -- it is the block's last step
          refine ⟨(c + 1) :: r, rfl, ⟨h1, h2⟩, fun l hl => ?_⟩
          rw [List.length_cons] at hl
          show runN (nfR r ++ dn r.length (c + 1) ++ [i]) l = runN (nfR r ++ dn r.length (c + 1)) l
          rw [dn_snoc c r.length (by omega), show r.length - c = i by omega]
          rw [runN_app, ← List.append_assoc, runN_app, runN_one, runN_one, sN_idem (by rw [runN_len]; omega)]
        · by_cases q3 : i + c + 1 < r.length
          · refine before i (by omega) fun l hl => comm_past _ l (by omega) fun d hd => ?_
            have := dn_mem (c + 1) r.length h1 d hd
            omega
          · exact before (i - 1) (by omega) fun l hl => push (c + 1) r.length i l h1 (by omega) (by omega) hl
theorem normal_from : ∀ (f : List Nat) (cs : List Nat), okC cs → (∀ i ∈ f, i < cs.length) → ∃ cs', cs'.length = cs.length ∧ okC cs' ∧ ∀ l : List Int, cs.length < l.length → runN (nfR cs ++ f) l = runN (nfR cs') l
  | [], cs, h, _ => ⟨cs, rfl, h, fun l _ => by rw [List.append_nil]⟩
  | i :: f, cs, h, hf => by
    obtain ⟨c1, e1, e2, e3⟩ := absorb cs i h (hf i List.mem_cons_self)
    obtain ⟨c2, e4, e5, e6⟩ := normal_from f c1 e2 fun j hj => by
      rw [e1]
      exact hf j (List.mem_cons_of_mem _ hj)
    refine ⟨c2, e4.trans e1, e5, fun l hl => ?_⟩
    rw [show nfR cs ++ i :: f = nfR cs ++ [i] ++ f by simp, runN_app, e3 l hl, ← runN_app]
    exact e6 l (by omega)
theorem zeros_ok : ∀ w, okC (List.replicate w 0)
  | 0 => trivial
  | w + 1 => ⟨Nat.zero_le _, zeros_ok w⟩
theorem zeros_nf : ∀ w, nfR (List.replicate w 0) = []
  | 0 => rfl
  | w + 1 => by
    rw [List.replicate_succ, nfR, zeros_nf w]
    rfl
/-- every word is as a normal one -/
theorem normal (w : Nat) (f : List Nat) (h : ∀ i ∈ f, i < w) : ∃ cs, cs.length = w ∧ okC cs ∧ ∀ l : List Int, w < l.length → runN f l = runN (nfR cs) l := by
  obtain ⟨cs, e1, e2, e3⟩ := normal_from f (List.replicate w 0) (zeros_ok w) (by simpa using h)
  rw [List.length_replicate] at e1 e3
  rw [zeros_nf] at e3
  exact ⟨cs, e1, e2, e3⟩
end Nw

/-! DL22: the profile of a normal word, its code; equal profiles, equal effects. -/
namespace Nw
/-- what a normal word makes of the descending list: numbers put in one after the other -/
def pf (w : Int) : List Nat → List Int
  | [] => [w]
  | c :: r => (pf w r).take (r.length + 1 - c) ++ (w - ((r.length : Int) + 1)) :: (pf w r).drop (r.length + 1 - c)
theorem pf_len (w : Int) : ∀ cs, (pf w cs).length = cs.length + 1
  | [] => rfl
  | c :: r => by
    have ih := pf_len w r
    rw [pf, List.length_append, List.length_cons, List.length_take, List.length_drop, List.length_cons, ih]
    omega
theorem pf_gt (w : Int) : ∀ cs, ∀ y ∈ pf w cs, w - (cs.length : Int) ≤ y
  | [], y, h => by
    have : y = w := by simpa [pf] using h
    subst this
    show y - ((0 : Nat) : Int) ≤ y
    omega
  | c :: r, y, h => by
    have ih := pf_gt w r
    rw [List.length_cons]
    rw [pf] at h
    rcases List.mem_append.mp h with h | h
    · have := ih y (List.mem_of_mem_take h)
      omega
    · rcases List.mem_cons.mp h with h | h
      · subst h
        omega
      · have := ih y (List.mem_of_mem_drop h)
        omega
theorem sN_at {q rest : List Int} {x y : Int} (h : x < y) : sN (q ++ y :: x :: rest) q.length = q ++ x :: y :: rest := by
  have e2 : ((q.length : Int) + 1).toNat = q.length + 1 := by omega
  have e1 : ((q.length : Int) + 1 - 1).toNat = q.length := by omega
  have g1 : (q ++ y :: x :: rest).getD q.length 0 = y := by
    rw [List.getD_eq_getElem?_getD, List.getElem?_append_right (Nat.le_refl _), Nat.sub_self]
    rfl
  have g2 : (q ++ y :: x :: rest).getD (q.length + 1) 0 = x := by
    rw [List.getD_eq_getElem?_getD, List.getElem?_append_right (by omega), show q.length + 1 - q.length = 1 by omega]
    rfl
  have hh : hit (q ++ y :: x :: rest) ((q.length : Int) + 1) = true := by
    unfold hit
    rw [e1, e2, g1, g2]
    exact decide_eq_true h
  unfold sN stp
  rw [hh, if_pos rfl]
  exact xch_split (by omega) (by omega)
/-- a block carries the small number c places down -/
theorem bubble : ∀ (c m : Nat) (q rest : List Int) (x : Int), q.length = m + 1 → c ≤ m + 1 → (∀ y ∈ q, x < y) → runN (dn m c) (q ++ x :: rest) = q.take (m + 1 - c) ++ x :: (q.drop (m + 1 - c) ++ rest)
  | 0, m, q, rest, x, hq, _, _ => by
    rw [Nat.sub_zero, ← hq, List.take_length, List.drop_length]
    rfl
  | c + 1, m, q, rest, x, hq, hc, hx => by
    obtain ⟨q', y, rfl⟩ : ∃ q' y, q = q' ++ [y] := by
      have : q ≠ [] := fun z => by rw [z] at hq; cases hq
      exact ⟨q.dropLast, q.getLast this, (List.dropLast_concat_getLast this).symm⟩
    have hq' : q'.length = m := by simpa using hq
    have hy : x < y := hx y (by simp)
    rw [dn, runN_cons, show q' ++ [y] ++ x :: rest = q' ++ y :: x :: rest by simp]
    have s := sN_at (q := q') (rest := rest) hy
    rw [hq'] at s
    rw [s]
    cases m with
    | zero =>
      have c0 : c = 0 := by omega
      subst c0
      have q0 : q' = [] := List.length_eq_zero_iff.mp hq'
      subst q0
      rfl
    | succ m =>
      have ih := bubble c m q' (y :: rest) x hq' (by omega) fun z hz => hx z (List.mem_append_left _ hz)
      rw [show m + 1 - 1 = m by omega, ih]
      rw [show m + 1 + 1 - (c + 1) = m + 1 - c by omega, List.take_append_of_le_length (by omega), List.drop_append_of_le_length (by omega)]
      simp
theorem desc_succ (n : Nat) : desc (n + 1) = ((n + 1 : Nat) : Int) :: desc n := rfl
/-- the profile of a normal word -/
theorem run_nf (w : Nat) : ∀ cs, okC cs → cs.length + 1 ≤ w → runN (nfR cs) (desc w) = pf w cs ++ desc (w - cs.length - 1)
  | [], _, h => by
    obtain ⟨k, rfl⟩ : ∃ k, w = k + 1 := ⟨w - 1, by simp at h; omega⟩
    show desc (k + 1) = [((k + 1 : Nat) : Int)] ++ desc (k + 1 - 0 - 1)
    rw [show k + 1 - 0 - 1 = k by omega]
    rfl
  | c :: r, ⟨h1, h2⟩, h => by
    rw [List.length_cons] at h
    obtain ⟨k, hk⟩ : ∃ k, w - r.length - 1 = k + 1 := ⟨w - r.length - 2, by omega⟩
    have ih := run_nf w r h2 (by omega)
    rw [nfR, runN_app, ih, hk, desc_succ]
    have ex : ((k + 1 : Nat) : Int) = (w : Int) - ((r.length : Int) + 1) := by omega
    rw [ex]
    rw [bubble c r.length (pf w r) (desc k) _ (pf_len _ _) h1 fun y hy => by
      have := pf_gt w r y hy
      omega]
    rw [pf, List.length_cons, show w - (r.length + 1) - 1 = k by omega]
    simp
/-- what stands behind the first n -/
def aft (n : Int) : List Int → List Int
  | [] => []
  | x :: r => if x = n then r else aft n r
theorem aft_at {n : Int} : ∀ {a b : List Int}, (∀ y ∈ a, n < y) → aft n (a ++ n :: b) = b
  | [], b, _ => by
    show (if n = n then b else aft n b) = b
    rw [if_pos rfl]
  | x :: a, b, h => by
    have := h x List.mem_cons_self
    show (if x = n then a ++ n :: b else aft n (a ++ n :: b)) = b
    rw [if_neg (by omega)]
    exact aft_at fun y hy => h y (List.mem_cons_of_mem _ hy)
theorem cnt_cons (n x : Int) (p : List Int) : cnt n (x :: p) = (if n < x then 1 else 0) + cnt n p := by
  rw [show x :: p = [x] ++ p from rfl, cnt_app, cnt_one]
theorem cnt_put {n x : Int} (h : x < n) : ∀ (a b : List Int), cnt n (aft n (a ++ x :: b)) = cnt n (aft n (a ++ b))
  | [], b => by
    show cnt n (if x = n then b else aft n b) = _
    rw [if_neg (by omega)]
    rfl
  | y :: a, b => by
    show cnt n (if y = n then a ++ x :: b else aft n (a ++ x :: b)) = cnt n (if y = n then a ++ b else aft n (a ++ b))
    split
    · rw [cnt_app, cnt_app, cnt_cons, if_neg (by omega)]
      omega
    · exact cnt_put h a b
/-- how many greater numbers stand behind n -/
def cd (p : List Int) (n : Int) : Nat := cnt n (aft n p)
theorem cd_new {w : Int} {c : Nat} {r : List Nat} (h : c ≤ r.length + 1) : cd (pf w (c :: r)) (w - ((r.length : Int) + 1)) = c := by
  unfold cd
  have gt : ∀ y ∈ pf w r, w - ((r.length : Int) + 1) < y := fun y hy => by
    have := pf_gt w r y hy
    omega
  rw [pf, aft_at fun y hy => gt y (List.mem_of_mem_take hy), cnt_all fun y hy => gt y (List.mem_of_mem_drop hy), List.length_drop, pf_len]
  omega
theorem cd_old {w : Int} {c : Nat} {r : List Nat} {n : Int} (h : w - ((r.length : Int) + 1) < n) : cd (pf w (c :: r)) n = cd (pf w r) n := by
  unfold cd
  rw [pf, cnt_put h, List.take_append_drop]
/-- the code of the profile of a normal word -/
theorem code_pf (w : Int) : ∀ cs, okC cs → (List.range cs.length).map (fun (i : Nat) => cd (pf w cs) (w - 1 - (i : Int))) = cs.reverse
  | [], _ => rfl
  | c :: r, ⟨h1, h2⟩ => by
    rw [List.length_cons, List.range_succ, List.map_append, List.reverse_cons, ← code_pf w r h2]
    congr 1
    · apply List.map_congr_left
      intro i hi
      have := List.mem_range.mp hi
      exact cd_old (by omega)
    · show [cd (pf w (c :: r)) (w - 1 - (r.length : Int))] = [c]
      rw [show w - 1 - (r.length : Int) = w - ((r.length : Int) + 1) by omega, cd_new h1]
/-- equal profiles: equal codes -/
theorem pf_inj {w : Nat} {cs ds : List Nat} (hc : okC cs) (hd : okC ds) (e : cs.length = ds.length) (h : cs.length + 1 ≤ w) (hp : runN (nfR cs) (desc w) = runN (nfR ds) (desc w)) : cs = ds := by
  rw [run_nf w cs hc h, run_nf w ds hd (by omega), e] at hp
  have p : pf w cs = pf w ds := List.append_cancel_right hp
  have a := code_pf w cs hc
  have b := code_pf w ds hd
  rw [p, e, b] at a
  exact (List.reverse_inj.mp a).symm
/-- THE DESCENDING LIST DECIDES -/
theorem decides {w : Nat} {f g : List Nat} (hw : 1 ≤ w) (hf : ∀ i ∈ f, i + 1 < w) (hg : ∀ i ∈ g, i + 1 < w) (hp : runN f (desc w) = runN g (desc w)) (l : List Int) (hl : l.length = w) : runN f l = runN g l := by
  obtain ⟨cs, a1, a2, a3⟩ := normal (w - 1) f fun i hi => by have := hf i hi; omega
  obtain ⟨ds, b1, b2, b3⟩ := normal (w - 1) g fun i hi => by have := hg i hi; omega
  rw [a3 _ (by rw [desc_len]; omega), b3 _ (by rw [desc_len]; omega)] at hp
  have : cs = ds := pf_inj a2 b2 (by omega) (by omega) hp
  rw [a3 l (by omega), b3 l (by omega), this]
end Nw

/-! DL23: sorted of whole numbers. -/
namespace DL
open PySem L2 PyProof.Rows
def srt (ns : List Int) : List Int := ns.mergeSort fun a b => decide (a ≤ b)
theorem srt_perm (ns : List Int) : (srt ns).Perm ns := List.mergeSort_perm ns _
theorem srt_up (ns : List Int) : (srt ns).Pairwise (· ≤ ·) := by
  have h := List.pairwise_mergeSort (le := fun a b : Int => decide (a ≤ b)) (fun a b c h1 h2 => by
    have := of_decide_eq_true h1
    have := of_decide_eq_true h2
    exact decide_eq_true (by omega)) (fun a b => by
    rw [Bool.or_eq_true, decide_eq_true_eq, decide_eq_true_eq]
    omega) ns
  exact h.imp fun q => of_decide_eq_true q
theorem srt_eq {ns ms : List Int} (p : ms.Perm ns) (u : ms.Pairwise (· ≤ ·)) : ms = srt ns :=
  List.Perm.eq_of_pairwise (le := (· ≤ ·)) (fun a b _ _ h1 h2 => Int.le_antisymm h1 h2) u (srt_up ns) (p.trans (srt_perm ns).symm)
def oSorted : List D → Option Out
  | [x] => ((lstItems x).bind asInts).map fun ns => .newL (nums (srt ns))
  | _ => none
section
variable {ca : Nat → Addr} {K : PySem.W.Frag} {Hf H : Hp} {S : Rg}
theorem repL_nums : ∀ l : List Int, RepL ca K Hf H Em (l.map V.int) (nums l)
  | [] => .nil
  | a :: l => .cons (S1 := Em) (S2 := Em) .int (repL_nums l) (fun _ z => z.elim) (fun _ z => z.elim) fun _ z _ => z
theorem os_sorted : OpS ca K (rSortedI K) oSorted := fun Hf H vs ds o Q hx rd h q => by
  match ds, h with
  | [x], h =>
    dsimp only [oSorted] at h
    cases ei : lstItems x with
    | none => simp [ei] at h
    | some xs =>
      rw [ei] at h
      cases en : asInts xs with
      | none => simp [en] at h
      | some ns =>
        simp only [Option.bind_some, en, Option.map_some, Option.some.injEq] at h
        subst h
        obtain ⟨v, S, e1, r1⟩ := rdl1 rd rfl
        subst e1
        obtain ⟨a, vs, T, rfl, e2, r3⟩ := rep_lstItems hx r1 ei
        rw [repL_ints r3 en] at e2
        refine ⟨a, ns, rfl, e2, fun ms p hp up free => ?_⟩
        rw [srt_eq hp up]
        exact q p _ free (repL_nums _)
theorem oSorted_l {o : Bool} {l : List Int} : oSorted [.lst o (nums l)] = some (.newL (nums (srt l))) := by
  show ((lstItems (.lst o (nums l))).bind asInts).map _ = _
  rw [show lstItems (.lst o (nums l)) = some (nums l) from rfl, Option.bind_some, nums_as]
  rfl
end
end DL

/-! DL24: codes as the program's lists; steps as whole numbers. -/
namespace Nw
def up1 (f : List Nat) : List Int := f.map fun (i : Nat) => (i : Int) + 1
theorem up1_run : ∀ (f : List Nat) (l : List Int), runL (up1 f) l = runN f l
  | [], _ => rfl
  | i :: f, l => up1_run f (sN l i)
theorem up1_of {w : Int} : ∀ {ss : List Int}, okS w ss → ∃ f : List Nat, ss = up1 f ∧ ∀ i ∈ f, (i : Int) + 1 ≤ w - 1
  | [], _ => ⟨[], rfl, fun i hi => by cases hi⟩
  | s :: ss, h => by
    obtain ⟨f, e, hf⟩ := up1_of fun t ht => h t (List.mem_cons_of_mem _ ht)
    have hs := h s List.mem_cons_self
    refine ⟨(s - 1).toNat :: f, ?_, fun i hi => ?_⟩
    · rw [e]
      show s :: up1 f = ((((s - 1).toNat : Nat) : Int) + 1) :: up1 f
      rw [show (((s - 1).toNat : Nat) : Int) + 1 = s by omega]
    · rcases List.mem_cons.mp hi with hi | hi
      · subst hi
        omega
      · exact hf i hi
/-- the steps keep the numbers -/
theorem stp_perm {l : List Int} {s : Int} (h1 : 1 ≤ s) (h2 : s < l.length) : (stp l s).Perm l := by
  unfold stp
  cases hit l s with
  | false => exact List.Perm.refl _
  | true =>
    rw [if_pos rfl]
    obtain ⟨p, r, e, hp⟩ := split2 (l := l) (i := (s - 1).toNat) (by omega)
    generalize l.getD (s - 1).toNat 0 = a at *
    generalize l.getD ((s - 1).toNat + 1) 0 = b at *
    subst e
    rw [xch_split h1 (by omega)]
    exact List.Perm.append_left p (List.Perm.swap a b r)
theorem runL_perm : ∀ (ss l : List Int), okS l.length ss → (runL ss l).Perm l
  | [], l, _ => List.Perm.refl _
  | s :: ss, l, h => by
    have hs := h s List.mem_cons_self
    have p := stp_perm (l := l) hs.1 (by omega)
    have ih := runL_perm ss (stp l s) (by rw [stp_len]; exact fun t ht => h t (List.mem_cons_of_mem _ ht))
    exact ih.trans p
end Nw

/-! DL25: the reading of codes: index, slices, extend. -/
namespace DL
open PySem (Str)
open Nw
theorem eMt_s {i j : Nat} {f : List D → Option Out} {st : Sl} {x y : D} {o : Out} (h0 : getS st i = some x) (hl : isLst x = true) (h1 : getS st j = some y) (hf : f [x, y] = some o) : eMt i f [.s j] st = .ok o.d st := by
  unfold eMt
  rw [h0]
  dsimp only
  rw [if_pos hl, opds, if_pos (by rw [h1]; rfl)]
  dsimp only [opds, Option.map, Option.bind]
  rw [h0, h1]
  dsimp only
  rw [hf]
theorem eApp_v {i : Nat} {m : ME} {st st1 : Sl} {d d0 : D} {xs : List D} (h0 : getS st i = some d0) (hl : isLst d0 = true) (h1 : m st = .ok d st1) (h2 : getS st1 i = some (.lst true xs)) (hn : xs.length < 16777216) : eApp i m st = .ok .non (st1.set i (some (.lst true (xs ++ [d])))) := by
  unfold eApp
  rw [h0]
  dsimp only
  rw [if_pos hl, h1]
  dsimp only [Res.bind]
  rw [h2]
  dsimp only
  rw [if_pos hn]
theorem eExt_v {i : Nat} {m : ME} {st st1 : Sl} {d0 : D} {o : Bool} {xs ys : List Int} (h0 : getS st i = some d0) (hl : isLst d0 = true) (h1 : m st = .ok (.lst o (nums ys)) st1) (h2 : getS st1 i = some (.lst true (nums xs))) (hn : xs.length + ys.length ≤ 16777216) : eExt i m st = .ok .non (st1.set i (some (.lst true (nums (xs ++ ys))))) := by
  unfold eExt
  rw [h0]
  dsimp only
  rw [if_pos hl, h1]
  dsimp only [Res.bind]
  rw [h2]
  have e : ext2 (some (.lst true (nums xs))) (.lst o (nums ys)) = some (nums (xs ++ ys)) := by
    unfold ext2
    dsimp only
    rw [nums_colds, nums_len, nums_len, decide_eq_true hn, nums_app]
    rfl
  rw [e]
theorem sExpr_ok {m : ME} {st st1 : Sl} {d : D} (h : m st = .ok d st1) : sExpr m st = .next st1 := by
  unfold sExpr
  rw [h]
  rfl
end DL
namespace Nw
/-- the code's part as it stands after i turns -/
def part (cs : List Nat) (i : Nat) : List Nat := (cs.reverse.take i).reverse
end Nw
namespace DL
open Nw
theorem sm62 {z : Int} (h1 : -1000 ≤ z) (h2 : z ≤ 1000) : small62 z = true := by
  unfold small62
  refine decide_eq_true ?_
  omega
end DL
namespace Nw
end Nw
namespace DL
open Nw
theorem log2_small {m : Int} (h : m.natAbs < 2 ^ 80) : m.natAbs.log2 < 9000 := by
  by_cases z : m.natAbs = 0
  · rw [z]
    decide
  · exact Nat.lt_trans ((Nat.log2_lt z).mpr h) (by decide)
theorem oDiv_w {i j : Int} (h : 0 < j) (h2 : j.natAbs < 2 ^ 80) : oDiv [.int i, .int j] = some (.val (.int (i / j))) := by
  show (if 0 < j ∧ j.natAbs.log2 < 9000 then some (Out.val (.int (i / j))) else none) = _
  rw [if_pos ⟨h, log2_small h2⟩]
end DL

/-! DL26: no network exchanges more often than on the descending list. -/
namespace Nw
end Nw

/-! DL27: the meanings evaluated step by step, by unification. -/
namespace DL
open PySem (Str)
section
variable {m m1 m2 m3 : ME} {ms ns : MA} {st st1 st2 st3 st' : Sl} {a b c d d' x y : D} {ds es : List D} {o : Out} {f : List D → Option Out} {i j k : Nat} {F : MF} {ps : Sl} {g : MG} {s s1 s2 : MS} {r : SR} {t t1 t2 : MT} {p q : Bool} {C : Nat}
theorem od_val : (Out.val d).d = d := rfl
theorem od_newL : (Out.newL ds).d = .lst true ds := rfl
theorem od_newT : (Out.newT ds).d = .tup ds := rfl
theorem od_eq (h : d = d') : (Out.val d).d = d' := h
theorem set_0 {o : Option D} {l : Sl} : (o :: l).set 0 x' = x' :: l := rfl
theorem set_s {o : Option D} {l l' : Sl} {z : Option D} (h : l.set i z = l') : (o :: l).set (i + 1) z = o :: l' := by rw [← h]; rfl
/-! expressions -/
theorem xC : eC d st = .ok d st := rfl
theorem xN (h : getS st i = some d) (hc : hot d = false) : eN i st = .ok d st := eN_v h hc
theorem xNf (h : getS st i = some d) (hc : hot d = true) (hf : frz d = d') (hs : st.set i (some d') = st') : eN i st = .ok d' st' := by
  rw [eNf_v h hc, hf, hs]
theorem xMv (h : getS st i = some d) (hs : st.set i none = st') : eMv i st = .ok d st' := by
  unfold eMv; rw [h]; subst hs; rfl
theorem xOv (h : m st = .ok a st1) (hf : f [a] = some o) (hd : o.d = d) : eOp f [.v m] st = .ok d st1 := by rw [eOp1_v h hf, hd]
theorem xOs (h : getS st i = some a) (hf : f [a] = some o) (hd : o.d = d) : eOp f [.s i] st = .ok d st := by rw [eOp1_s h hf, hd]
theorem xOvv (h : m1 st = .ok a st1) (h2 : m2 st1 = .ok b st2) (hf : f [a, b] = some o) (hd : o.d = d) : eOp f [.v m1, .v m2] st = .ok d st2 := by rw [eOp2_v h h2 hf, hd]
theorem xOvs (h : m1 st = .ok a st1) (h2 : getS st1 i = some b) (hf : f [a, b] = some o) (hd : o.d = d) : eOp f [.v m1, .s i] st = .ok d st1 := by rw [eOpvs_v h h2 hf, hd]
theorem xOsv (h0 : getS st i = some x) (h : m1 st = .ok b st1) (h2 : getS st1 i = some a) (hf : f [a, b] = some o) (hd : o.d = d) : eOp f [.s i, .v m1] st = .ok d st1 := by rw [eOpsv_v (by rw [h0]; rfl) h h2 hf, hd]
theorem xOss (h1 : getS st i = some a) (h2 : getS st j = some b) (hf : f [a, b] = some o) (hd : o.d = d) : eOp f [.s i, .s j] st = .ok d st := by
  unfold eOp opds opds opds
  rw [h1, h2]
  simp only [Option.isSome_some, if_true, h1, h2, Option.bind_some, Option.map_some, hf, hd]
theorem xAndT (h : m1 st = .ok (.bl true) st1) (h2 : m2 st1 = .ok d st2) : eAnd m1 m2 st = .ok d st2 := by unfold eAnd; rw [h]; exact h2
theorem xAndF (h : m1 st = .ok (.bl false) st1) : eAnd m1 m2 st = .ok (.bl false) st1 := by unfold eAnd; rw [h]; rfl
theorem xAndB (h : m1 st = .ok (.bl p) st1) (h2 : m2 st1 = .ok (.bl q) st1) : eAnd m1 m2 st = .ok (.bl (p && q)) st1 := by
  unfold eAnd; rw [h]; cases p
  · rfl
  · exact h2
theorem xOrB (h : m1 st = .ok (.bl p) st1) (h2 : m2 st1 = .ok (.bl q) st1) : eOr m1 m2 st = .ok (.bl (p || q)) st1 := by
  unfold eOr; rw [h]; cases p
  · exact h2
  · rfl
theorem xNot (h : m st = .ok (.bl p) st1) : eNot m st = .ok (.bl (!p)) st1 := by unfold eNot; rw [h]; rfl
theorem xIfT (h : t st = .ok true st1) (h2 : m1 st1 = .ok d st2) : eIf t m1 m2 st = .ok d st2 := by unfold eIf; rw [h]; exact h2
theorem xIfF (h : t st = .ok false st1) (h2 : m2 st1 = .ok d st2) : eIf t m1 m2 st = .ok d st2 := by unfold eIf; rw [h]; exact h2
theorem xANil : aNil st = .ok [] st := rfl
theorem xACons (h : m st = .ok d st1) (h2 : ms st1 = .ok ds st2) : aCons m ms st = .ok (d :: ds) st2 := by unfold aCons; rw [h]; show (ms st1).bind _ = _; rw [h2]; rfl
theorem xLst (h : ms st = .ok ds st1) (hl : Nat.ble ds.length 16777216 = true) : eLst ms st = .ok (.lst true ds) st1 := by
  unfold eLst; rw [h]; exact if_pos (Nat.le_of_ble_eq_true hl)
theorem xTup (h : ms st = .ok ds st1) (hl : Nat.ble ds.length 16777216 = true) (hf : frzL ds = es) : eTup ms st = .ok (.tup es) st1 := by
  unfold eTup; rw [h]; subst hf; exact if_pos (Nat.le_of_ble_eq_true hl)
theorem xFz (h : m st = .ok d st1) (hf : frz d = d') : eFz m st = .ok d' st1 := by rw [eFz_v h, hf]
theorem xCall (h : ms st = .ok ds st1) (hf : F ds = .ok d ps) : eCall F ms st = .ok d st1 := by
  unfold eCall; rw [h]; show (match F ds with | .ok d _ => _ | .exc x _ => _ | .fail => _) = _; rw [hf]
theorem xCallL (h : ms st = .ok ds st1) (h0 : getS st1 i = some y) (h1 : ns st1 = .ok es st2) (h2 : getS st2 i = some x) (hx : hot x = true) (hf : F (ds ++ x :: es) = .ok d ps) (hg : getS ps ds.length = some x1) (hs : st2.set i (some x1) = st') : eCallL F ms i ns st = .ok d st' := by
  rw [← hg] at hs
  unfold eCallL; rw [h]
  show (if (getS st1 i).isSome = true then _ else _) = _
  rw [if_pos (by rw [h0]; rfl), h1]
  show (match getS st2 i with | some d => _ | none => _) = _
  rw [h2]
  show (if hot x = true then _ else _) = _
  rw [if_pos hx, hf]
  subst hs
  rfl
/-- a lent slot that is not owned -/
theorem xCallLc (h : ms st = .ok ds st1) (h0 : getS st1 i = some y) (h1 : ns st1 = .ok es st2) (h2 : getS st2 i = some x) (hx : hot x = false) (hf : F (ds ++ x :: es) = .ok d ps) : eCallL F ms i ns st = .ok d st2 := by
  unfold eCallL; rw [h]
  show (if (getS st1 i).isSome = true then _ else _) = _
  rw [if_pos (by rw [h0]; rfl), h1]
  show (match getS st2 i with | some d => _ | none => _) = _
  rw [h2]
  show (if hot x = true then _ else _) = _
  rw [if_neg (by rw [hx]; exact Bool.false_ne_true), hf]
theorem xMake (h : ms st = .ok ds st1) (hf : F (.ins true C [] :: ds) = .ok .non (some x :: ps)) : eMake C F ms st = .ok x st1 := by
  unfold eMake; rw [h]; show (match F (.ins true C [] :: ds) with | .ok .non ps => _ | .exc x _ => _ | _ => _) = _; rw [hf]; rfl
theorem xEqI {neg : Bool} (h1 : m1 st = .ok a st1) (h2 : m2 st1 = .ok b st2) (ha : insC a = some C) (hb : insC b = some C) (hf : F [a, b] = .ok (.bl p) ps) (hd : D.bl (if neg then !p else p) = d) : eEqI neg C F (.v m1) (.v m2) st = .ok d st2 := by
  rw [eEqI_v h1 h2 ha hb hf, hd]
theorem xLenI {n : Nat} (h : m st = .ok x st2) (hc : insC x = some C) (hf : F [x] = .ok (.int (n : Int)) ps) (hn : Nat.blt n 1000000000 = true) : eLenI C F (.v m) st = .ok (.int (n : Int)) st2 := eLenI_v h hc hf (Nat.le_of_ble_eq_true hn)
theorem xApp {xs : List D} (h0 : getS st i = some a) (hl : isLst a = true) (h : m st = .ok d st1) (h2 : getS st1 i = some (.lst true xs)) (hn : xs.length < 16777216) (hs : st1.set i (some (.lst true (xs ++ [d]))) = st') : eApp i m st = .ok .non st' := by
  rw [eApp_v h0 hl h h2 hn, hs]
theorem xExt {z : Bool} {xs ys : List Int} (h0 : getS st i = some a) (hl : isLst a = true) (h : m st = .ok (.lst z (nums ys)) st1) (h2 : getS st1 i = some (.lst true (nums xs))) (hn : xs.length + ys.length ≤ 16777216) (hs : st1.set i (some (.lst true (nums (xs ++ ys)))) = st') : eExt i m st = .ok .non st' := by
  rw [eExt_v h0 hl h h2 hn, hs]
theorem xMtS (h0 : getS st i = some x) (hl : isLst x = true) (h1 : getS st j = some y) (hf : f [x, y] = some o) (hd : o.d = d) : eMt i f [.s j] st = .ok d st := by rw [eMt_s h0 hl h1 hf, hd]
/-! walked things -/
theorem wE {P : D → Option (List D)} (h : m st = .ok d st1) (hp : P d = some ds) (hc : colds ds = true) : iE m P st = .ok ds st1 := by
  unfold iE; rw [h]; show (match P d with | some ds => _ | none => _) = _; rw [hp]; exact if_pos hc
theorem wR1 {n : Nat} {z : Int} (h : m st = .ok (.int z) st1) (hz : z = (n : Int)) (hs : small62 z = true) : iR1 m st = .ok (rangeD 0 n) st1 := iR1_v hz h hs
theorem lst_it {z : Bool} : lstItems (.lst z ds) = some ds := rfl
theorem tup_it : tupItems (.tup ds) = some ds := rfl
/-! tests -/
theorem cE (h : m st = .ok (.bl p) st1) : tE m st = .ok p st1 := tE_ok h
theorem cNotF (h : t st = .ok true st1) : tNotM t st = .ok false st1 := by unfold tNotM; rw [h]; rfl
theorem cNotT (h : t st = .ok false st1) : tNotM t st = .ok true st1 := by unfold tNotM; rw [h]; rfl
theorem cOrF (h : t1 st = .ok false st1) (h2 : t2 st1 = .ok p st2) : tOrM t1 t2 st = .ok p st2 := tOr_ok h h2
theorem cOrT (h : t1 st = .ok true st1) : tOrM t1 t2 st = .ok true st1 := by unfold tOrM; rw [h]; rfl
theorem cAndT (h : t1 st = .ok true st1) (h2 : t2 st1 = .ok p st2) : tAndM t1 t2 st = .ok p st2 := by unfold tAndM; rw [h]; exact h2
theorem cAndF (h : t1 st = .ok false st1) : tAndM t1 t2 st = .ok false st1 := by unfold tAndM; rw [h]; rfl
/-! statements -/
theorem zSeq (h : s1 st = .next st1) (h2 : s2 st1 = r) : sSeq s1 s2 st = r := sSeq_next h h2
theorem zSeqR (h : s1 st = .ret d st1) : sSeq s1 s2 st = .ret d st1 := by unfold sSeq; rw [h]; rfl
theorem zAsg (h : m st = .ok d st1) (hg : g d st1 = .ok () st2) : sAsg m g st = .next st2 := sAsg_ok h hg
theorem zExpr (h : m st = .ok d st1) : sExpr m st = .next st1 := sExpr_ok h
theorem zRet (h : m st = .ok d st1) : sRet m st = .ret d st1 := sRet_ok h
theorem zYes (h : t st = .ok true st1) (h2 : s1 st1 = r) : sIf t s1 s2 st = r := by rw [sIf_ok h]; exact h2
theorem zNo (h : t st = .ok false st1) (h2 : s2 st1 = r) : sIf t s1 s2 st = r := by rw [sIf_ok h]; exact h2
theorem zSkip : sNext st = .next st := rfl
theorem zFor {src : Sl → Res (List D)} {B : MS} (h : src st = .ok ds st1) (h2 : forD g B ds st1 = r) : sFor src g B st = r := by unfold sFor; rw [h]; exact h2
theorem zPar (h : ms st = .ok [a, b] st1) (hs : st1.set i (some a) = st2) (hs2 : st2.set j (some b) = st3) : sPar i j ms st = .next st3 := by
  unfold sPar; rw [h]; subst hs hs2; rfl
theorem zAug (h0 : getS st i = some a) (hc : cold a = true) (h : m st = .ok b st1) (hf : f [a, b] = some (.val d)) (hs : st1.set i (some d) = st') : sAug i f m st = .next st' := by
  unfold sAug; rw [h0]; show (if cold a = true then _ else _) = _; rw [if_pos hc, h]; show (match f [a, b] with | some (.val z) => _ | _ => _) = _; rw [hf]; subst hs; rfl
theorem gN_r (hs : st.set i (some d) = st') : gN i d st = .ok () st' := by unfold gN; rw [hs]
theorem gIx_r {xs : List D} {kk : Int} {n : Nat} (hc : cold d = true) (h0 : getS st i = some a) (h : m st = .ok (.int kk) st1) (h2 : getS st1 i = some (.lst true xs)) (hn : L2.ixN xs.length kk = some n) (hs : st1.set i (some (.lst true (xs.set n d))) = st') : gIx i m d st = .ok () st' := by
  unfold gIx; rw [hc, h0]
  show (if true = true then _ else _) = _
  rw [if_pos rfl, h]
  show (match getS st1 i with | some (.lst true xs) => _ | _ => _) = _
  rw [h2]
  show (match L2.ixN xs.length kk with | some j => _ | none => _) = _
  rw [hn]; subst hs; rfl
theorem fn_go {n w : Nat} {L : List Nat} {body : MS} (hl : ds.length = n) (h : body (ds.map some ++ List.replicate (w - n) none) = .ret d st) : fn n w L body ds = .ok d (keepL L n st) := fn_ret hl h
/-! operations -/
theorem add_i {i j : Int} : oAdd [.int i, .int j] = some (.val (.int (i + j))) := rfl
theorem sub_i {i j : Int} : oSub [.int i, .int j] = some (.val (.int (i - j))) := rfl
theorem neg_i {i : Int} : oNeg [.int i] = some (.val (.int (-i))) := rfl
theorem abs_i {i : Int} : oAbs [.int i] = some (.val (.int (if i < 0 then -i else i))) := rfl
theorem lt_i {i j : Int} : f2 pLt [.int i, .int j] = some (.val (.bl (decide (i < j)))) := rfl
theorem le_i {i j : Int} : f2 pLe [.int i, .int j] = some (.val (.bl (decide (i ≤ j)))) := rfl
theorem gt_i {i j : Int} : f2 pGt [.int i, .int j] = some (.val (.bl (decide (j < i)))) := rfl
theorem ge_i {i j : Int} : f2 pGe [.int i, .int j] = some (.val (.bl (decide (j ≤ i)))) := rfl
theorem int_i {i : Int} : oInt [.int i] = some (.val (.int i)) := rfl
theorem int_b {b : Bool} : oInt [.bl b] = some (.val (.int (if b then 1 else 0))) := rfl
theorem eq_of {a b c : D} (h : pEq a b = some c) : f2 pEq [a, b] = some (.val c) := by simp only [f2, h, Option.map_some]
theorem ne_of {a b c : D} (h : pNe a b = some c) : f2 pNe [a, b] = some (.val c) := by simp only [f2, h, Option.map_some]
theorem bl_y {P : Prop} [Decidable P] (h : P) : D.bl (decide P) = .bl true := by rw [decide_eq_true h]
theorem bl_n {P : Prop} [Decidable P] (h : ¬ P) : D.bl (decide P) = .bl false := by rw [decide_eq_false h]
theorem nbl_y {P : Prop} [Decidable P] (h : ¬ P) : D.bl (!decide P) = .bl true := by rw [decide_eq_false h]; rfl
theorem nbl_n {P : Prop} [Decidable P] (h : P) : D.bl (!decide P) = .bl false := by rw [decide_eq_true h]; rfl
theorem lst_o {z : Bool} {l : List Int} (h : l.length ≤ 16777216) : oList [.lst z (nums l)] = some (.newL (nums l)) := by
  simp [oList, items, newLc, nums_colds, nums_len, h]
theorem lst_t {l : List Int} (h : l.length ≤ 16777216) : oList [.tup (nums l)] = some (.newL (nums l)) := by
  simp [oList, items, newLc, nums_colds, nums_len, h]
theorem tup_l {z : Bool} {l : List Int} (h : l.length ≤ 16777216) : oTuple [.lst z (nums l)] = some (.newT (nums l)) := by
  simp [oTuple, nums_colds, nums_len, h]
theorem tup_t {l : List D} : oTuple [.tup l] = some (.val (.tup l)) := rfl
theorem len_t {l : List Int} : oLen [.tup (nums l)] = some (.val (.int (l.length : Nat))) := by simp [oLen, items, nums_len]
theorem fz_l {z : Bool} {l : List Int} : frz (.lst z (nums l)) = .lst false (nums l) := by rw [frz, nums_frz]
theorem fz_t {l : List Int} : frz (.tup (nums l)) = .tup (nums l) := by rw [frz, nums_frz]
theorem fz_i {i : Int} : frz (.int i) = .int i := by rw [frz]
theorem fz_b {b : Bool} : frz (.bl b) = .bl b := by rw [frz]
theorem fz_s {b : Str} : frz (.str b) = .str b := by rw [frz]
theorem fz_n : frz .non = .non := by rw [frz]
theorem fzL_n : frzL [] = [] := by rw [frzL]
theorem fzL_c (h : frz d = d') (h2 : frzL ds = es) : frzL (d :: ds) = d' :: es := by rw [frzL, h, h2]
theorem fz_lst {z : Bool} (h : frzL ds = es) : frz (.lst z ds) = .lst false es := by rw [frz, h]
theorem fz_tup (h : frzL ds = es) : frz (.tup ds) = .tup es := by rw [frz, h]
end
/-! comprehensions of one clause whose parts leave the state -/
section
variable {α : Type}
theorem comp_go {g : MG} {t : MT} {e : ME} {i : Nat} {st : Sl} (enc φ : α → D) (p : α → Bool) (hi : i < st.length) : ∀ (l : List α) (acc : List D),
    (∀ x ∈ l, g (enc x) (st.set i none) = .ok () (st.set i (some (enc x)))) → (∀ x ∈ l, t (st.set i (some (enc x))) = .ok (p x) (st.set i (some (enc x)))) →
    (∀ x ∈ l, p x = true → e (st.set i (some (enc x))) = .ok (φ x) (st.set i (some (enc x)))) → acc.length + l.length ≤ 16777216 →
    compD g t e [i] (l.map enc) (st.set i none) acc = .ok (acc ++ (l.filter p).map φ) (st.set i none)
  | [], acc, _, _, _, _ => by rw [List.map_nil, compD, List.filter_nil, List.map_nil, List.append_nil]
  | x :: l, acc, hg, ht, he, hl => by
    have w : ∀ o : Option D, wipeS (st.set i o) [i] = st.set i none := fun o => by
      show (st.set i o).set i none = _
      rw [List.set_set]
    rw [List.map_cons, compD, hg x List.mem_cons_self]
    show ((t (st.set i (some (enc x)))).noX.bind _) = _
    rw [ht x List.mem_cons_self]
    show (if p x = true then _ else _) = _
    rw [List.length_cons] at hl
    by_cases hp : p x = true
    · rw [if_pos hp, he x List.mem_cons_self hp]
      show (if acc.length < 16777216 then _ else _) = _
      rw [if_pos (by omega), w, comp_go enc φ p hi l (acc ++ [φ x]) (fun y h => hg y (List.mem_cons_of_mem _ h)) (fun y h => ht y (List.mem_cons_of_mem _ h)) (fun y h => he y (List.mem_cons_of_mem _ h)) (by rw [List.length_append, List.length_singleton]; omega), List.filter_cons_of_pos hp, List.map_cons, List.append_assoc]
      rfl
    · rw [if_neg hp, w, comp_go enc φ p hi l acc (fun y h => hg y (List.mem_cons_of_mem _ h)) (fun y h => ht y (List.mem_cons_of_mem _ h)) (fun y h => he y (List.mem_cons_of_mem _ h)) (by omega), List.filter_cons_of_neg hp]
theorem xLc {g : MG} {t : MT} {e : ME} {i : Nat} {st st1 st2 : Sl} {src : Sl → Res (List D)} (enc φ : α → D) (p : α → Bool) (l : List α) {ds out : List D} (hs : src st = .ok ds st1) (hd : ds = l.map enc) (hl : l.length ≤ 16777216) (hi : i < st1.length) (hw : st1.set i none = st2)
    (hg : ∀ x ∈ l, g (enc x) (st1.set i none) = .ok () (st1.set i (some (enc x)))) (ht : ∀ x ∈ l, t (st1.set i (some (enc x))) = .ok (p x) (st1.set i (some (enc x))))
    (he : ∀ x ∈ l, p x = true → e (st1.set i (some (enc x))) = .ok (φ x) (st1.set i (some (enc x)))) (ho : (l.filter p).map φ = out) : eLc src g t e [i] st = .ok (.lst true out) st2 := by
  unfold eLc
  rw [hs]
  show (compD g t e [i] ds (st1.set i none) []).bind _ = _
  subst hd hw ho
  rw [comp_go enc φ p hi l [] hg ht he (by simpa using hl), List.nil_append]
  rfl
/-- every item is taken -/
theorem xLcA {g : MG} {e : ME} {i : Nat} {st st1 st2 : Sl} {src : Sl → Res (List D)} (enc φ : α → D) (l : List α) {ds out : List D} (hs : src st = .ok ds st1) (hd : ds = l.map enc) (hl : l.length ≤ 16777216) (hi : i < st1.length) (hw : st1.set i none = st2)
    (hg : ∀ x ∈ l, g (enc x) (st1.set i none) = .ok () (st1.set i (some (enc x))))
    (he : ∀ x ∈ l, e (st1.set i (some (enc x))) = .ok (φ x) (st1.set i (some (enc x)))) (ho : l.map φ = out) : eLc src g tYesM e [i] st = .ok (.lst true out) st2 :=
  xLc enc φ (fun _ => true) l hs hd hl hi hw hg (fun _ _ => rfl) (fun x hx _ => he x hx) (by rw [List.filter_eq_self.mpr (fun _ _ => rfl), ho])
end
end DL

/-! DL28: methods called, defs with a starred parameter, classmethods; promises by FnR. -/
namespace DL
open PySem L2 PyProof.Rows
def insOf (C : Nat) (nm : Str) : D → Bool
  | .ins _ C' fs => decide (C' = C) && (fs.lookup nm).isNone
  | _ => false
/-- o.m(..): o's value handed over -/
def eMth (C : Nat) (nm : Str) (f : MF) (m0 : ME) (ms : MA) : ME := fun st => (m0 st).bind fun d0 st1 => if insOf C nm d0 then (ms st1).bind fun ds st2 => (match f (d0 :: ds) with
  | .ok d _ => .ok d st2
  | .exc x _ => .exc x st2
  | .fail => .fail) else .fail
/-- room, and no repr under way -/
def RoomG (k : Nat) (A : Around) : Prop := A.guards = some [] ∧ Room k A
theorem RoomG.mono {j k : Nat} {A : Around} (r : RoomG k A) (h : j ≤ k) : RoomG j A := ⟨r.1, r.2.mono h⟩
theorem RoomG.in1 {k : Nat} {A : Around} (r : RoomG (k + 1) A) : RoomG k A.in1 := ⟨r.1, r.2.in1⟩
theorem RoomG.deeper {k : Nat} {A : Around} (r : RoomG (k + 1) A) (env : Env) : RoomG k (A.deeper env) := ⟨r.1, r.2.deeper env⟩
theorem RoomG.make {k : Nat} {A : Around} (r : RoomG (k + 1) A) (C : Addr) (us : List Value) (kw : List (Str × Value)) : RoomG k (A.under (.builtin "type.__call__" ⟨.ref C :: us, kw⟩)) := ⟨r.1, r.2.make C us kw⟩
/-- a promise by positional values, no repr under way -/
def FnG (P : Program) (w : World) (K : PySem.W.Frag) (mg : Str → Option Value) (base : Heap) (CX : CXT) (k : Nat) (f : Addr) (sp : Sp) : Prop :=
  ∀ (A : Around) (outer : List Env) (s : Shared) (H : Hp) (us : List Value) (vs : List V) (Q : VK) (E : XK), RoomG k A → Env0 P w K mg base A outer s H → Vals vs us → sp vs H Q E →
    codeAny (model P w) A (.call (.ref f) ⟨us, []⟩) (L2.CR CX outer P w H s Q E) s
section
variable {ca : Nat → Addr} {Hf H Hf1 H1 Hf2 H2 : Hp} {S P P1 P2 : Rg} {R R1 R2 : Nat → Rg} {σ : L2.St} {st : Sl} {v : V} {d : D} {vs : List V} {ds : List D} {X : Cx} {L : List Nat}
theorem run_fnRS {CX : CXT} {pins : List (Addr × Obj)} {s : Shared} {k : Nat} {f : Addr} {sp : Sp} {E : XK} {Q : VK} {us : List Value} {vs : List V} (F : FnG X.prog X.w X.K X.mg X.base CX k f sp) (hr : RoomG k X.A) (hx : PassesAt CX X σ E) (I : Inv X pins σ H s) (r : Vals vs us) (h : sp vs H Q E) :
    codeAny (model X.prog X.w) X.A (.call (.ref f) ⟨us, []⟩) (fun r s' => match r with | .ok (.ret v) => EP X pins σ Q v s' | .ok _ => False | .error e => X.xe e s') s := by
  refine codeAny_mono (F X.A X.stack s H us vs Q E hr I.env0 r h) fun r s' hq => ?_
  cases r with
  | error e => exact hx pins H s e s' I hq
  | ok fl =>
    cases fl with
    | ret u => exact I.after hq
    | next => exact False.elim hq
    | brk => exact False.elim hq
    | cont => exact False.elim hq
/-! ### methods -/
theorem pe_mth {C f : Addr} {CX : CXT} {k : Nat} {sp : Sp} {E : L2.St → XK} {m : Str} {o : Expr} {es : List Expr} {to : TE} {t : TA} {apos pos : Pos} {pl : Sem Bool} (he : PE X o to) (c : Cls X.K C) (hm : Meth X.K C m f) (F : FnG X.prog X.w X.K X.mg X.base CX k f sp) (hr : RoomG k X.A)
    (hx : ∀ σ, PassesAt CX X σ (E σ)) (ha : PA X es t) (hes : es = [] ∨ ∃ e r, es = e :: r ∧ starEach (e :: r) X.env = (false, eval e X.env) :: starEach r X.env ∧ (backTo pos (starEach r X.env)).any (·.1) = false)
    (ht : eval (.Call (.Attribute o m apos) es [] pos) X.env = (do
      let ov ← eval o X.env
      standAt apos.atName
      let (g, first) ← holding [ov] (getMethod ov m pl)
      callWith pos g first (backTo pos (starEach es X.env)) (backToKw pos (keywordEach [] X.env)))) :
    PE X (.Call (.Attribute o m apos) es [] pos) (fun σ H Q => to σ H fun x H1 => ∃ a dx fs, x = .ref a ∧ H1 a = some (.ins C dx fs) ∧ fs.lookup m = none ∧ (match es with | [] => sp [x] H1 Q (E σ) | _ :: _ => t σ H1 fun vs H2 => sp (x :: vs) H2 Q (E σ))) := ⟨fun pins s σ H Q I h => by
  refine PySem.W.methodCall_KW (pl := pl) (thn (he.run pins s σ H _ I h) fun u s1 hh => ?_) ht
  obtain ⟨x, H1, I1, rx, a, dx, fs, ex, ea, lk, q⟩ := hh
  subst ex
  cases rx
  rcases hes with rfl | ⟨e, r, rfl, hst, hpl⟩
  · exact getmeth_ok I1 ea c hm lk (PySem.W.callWith_K0 (first := [.ref a]) I1.kIn hm.kp (wpAny_call (run_fnRS (us := [.ref a]) (vs := [.ref a]) F hr (hx σ) I1 (.cons rfl .nil) q)))
  · refine getmeth_ok I1 ea c hm lk (PySem.W.callWith_K (first := [.ref a]) (h₀ := X.base) I.ok.mod.kin hm.kp (thn (ha.run pos pins s1 σ H1 _ I1 q) fun us s2 hh => ?_) hst hpl)
    obtain ⟨vs, H2, I2, rs, q2⟩ := hh
    exact ⟨I2.kIn, wpAny_call (run_fnRS (us := .ref a :: us) (vs := .ref a :: vs) F hr (hx σ) I2 (.cons rfl rs) q2)⟩⟩
theorem lookup_none {α β : Type} : ∀ {fs : List (Str × α)} {gs : List (Str × β)} {f : Str}, fs.map (·.1) = gs.map (·.1) → gs.lookup f = none → fs.lookup f = none
  | [], [], _, _, _ => rfl
  | [], _ :: _, _, h, _ => by simp at h
  | _ :: _, [], _, h, _ => by simp at h
  | (a, x) :: fs, (b, y) :: gs, f, h, e => by
    simp only [List.map_cons, List.cons.injEq] at h
    obtain ⟨h1, h2⟩ := h
    subst h1
    rw [List.lookup_cons] at e ⊢
    cases hb : f == a with
    | true => rw [hb] at e; cases e
    | false => rw [hb] at e; exact lookup_none h2 e
theorem insOf_rep {C : Nat} {nm : Str} (hx : Ex Hf H) (r : Rep ca X.K Hf H S v d) (h : insOf C nm d = true) : ∃ a dx fs, v = .ref a ∧ H a = some (.ins (ca C) dx fs) ∧ fs.lookup nm = none := by
  cases d with
  | ins o C' gs =>
    simp only [insOf, Bool.and_eq_true, decide_eq_true_eq] at h
    obtain ⟨rfl, h2⟩ := h
    obtain ⟨a, dx, fs, T, e1, e2, e3, _⟩ := rep_ins hx r
    exact ⟨a, dx, fs, e1, e2, lookup_none e3 (by simpa using h2)⟩
  | _ => cases h
/-- the form of a method's call -/
def MForm (X : Cx) (o : Expr) (m : Str) (es : List Expr) (apos pos : Pos) (pl : Sem Bool) : Prop := eval (.Call (.Attribute o m apos) es [] pos) X.env = (do
      let ov ← eval o X.env
      standAt apos.atName
      let (g, first) ← holding [ov] (getMethod ov m pl)
      callWith pos g first (backTo pos (starEach es X.env)) (backToKw pos (keywordEach [] X.env)))
theorem ce_mth {k C : Nat} {f : Addr} {nm : Str} {o : Expr} {es : List Expr} {m0 : ME} {m : MF} {ms : MA} {apos pos : Pos} {pl : Sem Bool} (c : Cls X.K (ca C)) (hm : Meth X.K (ca C) nm f) (F : FnG X.prog X.w X.K X.mg X.base (L2.CX X.prog X.w) k f (spM ca X.K m)) (hr : RoomG k X.A)
    (ho : CE ca X o m0) (ha : CL ca X es ms) (hst : NoStar es) (ht : MForm X o nm es apos pos pl := by exact rfl) (hpl : ∀ e r, es = e :: r → (backTo pos (starEach r X.env)).any (·.1) = false := by intro e r h; cases h; rfl) :
    CE ca X (.Call (.Attribute o nm apos) es [] pos) (eMth C nm m m0 ms) := fun Hf H R σ st Q pr h => by
  have key : We X o σ H fun x H1 => ∃ a dx fs, x = .ref a ∧ H1 a = some (.ins (ca C) dx fs) ∧ fs.lookup nm = none ∧ WL X es σ H1 fun vs H2 => spM ca X.K m (x :: vs) H2 Q (fun cls dd H' => wX X cls dd σ H') := by
    refine ho Hf H R σ st _ pr ?_
    unfold eMth at h
    cases e0 : m0 st with
    | fail => rw [e0] at h; exact h
    | exc x st1 => rw [e0] at h; exact h
    | ok d0 st1 =>
      rw [e0] at h
      intro Hf1 H1 P1 R1 x t1 p1
      change Post ca X Hf H _ σ (if insOf C nm d0 = true then _ else .fail) Q at h
      by_cases hi : insOf C nm d0 = true
      · rw [if_pos hi] at h
        obtain ⟨a, dx, fs, e1, e2, e3⟩ := insOf_rep p1.w.ex p1.pend hi
        refine ⟨a, dx, fs, e1, e2, e3, ?_⟩
        have h1 := Post.from (less0 t1) h
        refine ha Hf1 H1 R1 σ st1 _ p1.drop ?_
        cases e2 : ms st1 with
        | fail => dsimp only [Res.bind] at h1; rw [e2] at h1; exact h1
        | exc x st2 => dsimp only [Res.bind] at h1; rw [e2] at h1; exact h1
        | ok ds st2 =>
          dsimp only [Res.bind] at h
          rw [e2] at h
          intro Hf2 H2 P2 R2 vs t2 p2
          obtain ⟨c1, c2, c3, c4, c5⟩ := PR.carry (ppf := fun _ _ => True) p1 t2 p2
          have p3 : PR ca X.K Hf2 H2 (fun b => P1 b ∨ P2 b) (RepL ca X.K Hf2 H2 (fun b => P1 b ∨ P2 b) (x :: vs) (d0 :: ds)) R2 σ st2 :=
            ⟨.cons (p1.pend.keep t2.fx c1) p2.pend (fun _ q => .inl q) (fun _ q => .inr q) c2, p2.len, p2.at_, p2.dj, fun i b q1 q2 => q1.elim (fun q => c3 i b q q2) (fun q => p2.dp i b q q2), c4⟩
          exact ⟨Hf2, _, d0 :: ds, p3.pend, p3.w.mono fun b q => .inl q, postC_of p3 (Post.from (t1.trans c5) h)⟩
      · rw [if_neg hi] at h; exact h.elim
  have sub : ∀ σ H Q, WL X es σ H Q → Wa X es σ H Q := fun σ H Q q => wa_wl (fun e' r' q' => noStar_suf hst e' r' q' _) q
  refine we_of (pe_mth (we_pe X o) c hm F hr (E := fun σ cls dd H' => wX X cls dd σ H') (fun σ => passAt (takes_wX X) σ) (wa_pa X es) ?_ ht) ?_
  · cases es with
    | nil => exact .inl rfl
    | cons e r => exact .inr ⟨e, r, rfl, hst.1 _, hpl e r rfl⟩
  · refine ⟨fun pins s I => ?_⟩
    refine thn (key pins s I) fun u s1 ⟨x, H1, I1, r1, a, dx, fs, e1, e2, e3, q⟩ => ⟨x, H1, I1, r1, a, dx, fs, e1, e2, e3, ?_⟩
    cases es with
    | nil => exact q
    | cons e r => exact sub _ _ _ q
end
end DL

/-! DL29: defs with a starred parameter; classmethods. -/
namespace DL
open PySem L2 PyProof.Rows
/-- how a def with a starred parameter binds -/
structure StarB (fd : FuncData) (ps : List Str) (pv : Str) : Prop where
  b : ∀ us rest : List Value, us.length = ps.length → bindArgs fd ⟨us ++ rest, []⟩ = (newTuple rest >>= fun t => pure (ps.zip us ++ [(pv, t)]))
section
variable {ca : Nat → Addr} {P : Program} {w : World} {K : PySem.W.Frag} {mg : Str → Option Value} {base : Heap} {L : List Nat}
theorem repL_cutAt {K : PySem.W.Frag} {Hf H : Hp} : ∀ (n : Nat) {S : Rg} {vs : List V} {ds : List D}, RepL ca K Hf H S vs ds → ∃ A B : Rg, RepL ca K Hf H A (vs.take n) (ds.take n) ∧ RepL ca K Hf H B (vs.drop n) (ds.drop n) ∧ (∀ b, A b → S b) ∧ (∀ b, B b → S b) ∧ ∀ b, A b → B b → False
  | 0, S, vs, ds, r => ⟨Em, S, .nil, r, fun _ q => q.elim, fun _ q => q, fun _ q => q.elim⟩
  | n + 1, S, [], [], r => ⟨Em, S, .nil, r, fun _ q => q.elim, fun _ q => q, fun _ q => q.elim⟩
  | n + 1, S, v :: vs, d :: ds, r => by
    cases r with
    | cons r1 r2 h1 h2 h3 =>
      obtain ⟨A, B, a, b, c, e, f⟩ := repL_cutAt n r2
      exact ⟨_, B, .cons (S := fun x => _ ∨ A x) r1 a (fun _ q => .inl q) (fun _ q => .inr q) (fun x q1 q2 => h3 x q1 (c x q2)), b, fun x q => q.elim (h1 x) fun q => h2 x (c x q), fun x q => h2 x (e x q), fun x q1 q2 => q1.elim (fun q => h3 x q (e x q2)) fun q => f x q q2⟩
  | _ + 1, _, [], _ :: _, r => by cases r
  | _ + 1, _, _ :: _, [], r => by cases r
theorem fn_body {x qual : Str} {st : Stmt} {f : Addr} {fd : FuncData} {N ps : List Str} {k n : Nat} {mb : MS} (F : Fun K x qual st f fd) (S : FnScope N ps (defScope st)) (hn : ps.length = n)
    (hb : ∀ (cdv : Value) (A : Around) (outer : List Env) (s : Shared) (H : Hp) (E : XK), RoomG k (A.deeper (envOfC qual (defScope st) s.heap.objs.size f cdv)) →
      CSs ca (cxOf (L2.CX P w) P w K mg base N qual (defScope st) f cdv A outer s H E) L (defBody st) mb) {cdv : Value} {A : Around} {outer : List Env} {s : Shared} {H : Hp} {vs : List V} {Q : VK} {E : XK} (hr : RoomG k (A.deeper (envOfC qual (defScope st) s.heap.objs.size f cdv)))
    (h : spM ca K (fn n N.length L mb) vs H Q E) : ∃ t, PSs (cxOf (L2.CX P w) P w K mg base N qual (defScope st) f cdv A outer s H E) (defBody st) t ∧ t { nx := fun _ H' => Q .non H', rt := Q } (L2.start N vs) H := by
  refine ⟨_, wss_pss _ _, ?_⟩
  have hl := spM_len h
  obtain ⟨Hf, Pg, ds, r, w1, post⟩ := h
  have hds : ds.length = n := by rw [← r.length]; exact hl
  obtain ⟨R, a, b, c⟩ := repL_split r
  have hvn : vs.length ≤ N.length := by
    have := congrArg List.length S.pre
    rw [List.length_take] at this
    omega
  have p0 : PR ca K Hf H Em True R (L2.start N vs) (ds.map some ++ List.replicate (N.length - n) none) := by
    refine ⟨trivial, ?_, fun i d e => ?_, b, fun _ _ q => q.elim, ?_⟩
    · unfold L2.start; simp [hds, hl]
    · have hi : i < ds.length := by
        by_cases hi : i < ds.length
        · exact hi
        · exfalso
          unfold getS at e
          rw [List.getElem?_append_right (by simp; omega), List.getElem?_replicate] at e
          split at e <;> cases e
      have e1 : ds[i]? = some d := by
        unfold getS at e
        rw [List.getElem?_append_left (by simpa using hi), List.getElem?_map, List.getElem?_eq_getElem hi] at e
        rw [List.getElem?_eq_getElem hi]
        exact e
      obtain ⟨v, e2, r2⟩ := a i d e1
      refine ⟨v, ?_, r2⟩
      rw [start_at (by rw [r.length]; exact hi), e2]
    · exact w1.mono fun b q => q.elim (fun q => q.elim) fun ⟨i, q⟩ => c i b q
  refine hb cdv A outer s H E hr Hf H R (L2.start N vs) _ _ p0 ?_
  unfold fn at post
  rw [if_pos hds] at post
  have hkk : ∀ σ' : L2.St, Lk L (L2.start N vs) σ' → ∀ i ∈ L, i < n → σ'[i]? = some (vs[i]?) := fun σ' k i hi hn' => by
    rw [k.2 i hi]; exact start_at (by omega)
  have hS : ∀ b, jn Em R b → Pg b := fun b q => q.elim (fun q => q.elim) fun ⟨i, q⟩ => c i b q
  have hR : ∀ {P' : Rg} {R' : Nat → Rg} (b : Addr), jn P' (fun i b => i ∈ L ∧ i < n ∧ R' i b) b → jn P' R' b := fun b q => q.elim .inl fun ⟨i, q⟩ => .inr ⟨i, q.2.2⟩
  cases em : mb (ds.map some ++ List.replicate (N.length - n) none) with
  | fail => rw [em] at post; exact post.elim
  | brk st1 => rw [em] at post; exact post.elim
  | cont st1 => rw [em] at post; exact post.elim
  | next st1 =>
    rw [em] at post
    intro Hf1 H1 R1 σ1 t1 p1 k1
    exact post Hf1 H1 Em _ .non ((t1.more hS).less hR) (p1.params hl (hkk σ1 k1) .non fun _ q => q)
  | ret d st1 =>
    rw [em] at post
    intro Hf1 H1 P1 R1 σ1 v t1 p1 k1
    exact post Hf1 H1 P1 _ v ((t1.more hS).less hR) (p1.params hl (hkk σ1 k1) p1.pend fun _ q => q)
  | exc x st1 =>
    rw [em] at post
    intro Hf1 H1 R1 σ1 cls dd t1 p1 k1
    exact wX_of (takes_of rfl rfl rfl rfl) (post Hf1 H1 _ cls dd ((t1.more hS).less hR) (p1.params hl (hkk σ1 k1) p1.pend fun _ q => q))
theorem FnG.imp {CX : CXT} {k : Nat} {f : Addr} {sp sp' : Sp} (F : FnG P w K mg base CX k f sp) (h : ∀ vs H Q E, sp' vs H Q E → sp vs H Q E) : FnG P w K mg base CX k f sp' :=
  fun A outer s H us vs Q E hr e0 r hs => F A outer s H us vs Q E hr e0 r (h _ _ _ _ hs)
theorem fn_okG {x qual : Str} {st : Stmt} {f : Addr} {fd : FuncData} {N ps : List Str} {k n : Nat} {mb : MS} (F : Fun K x qual st f fd) (B : Binds K fd ps []) (S : FnScope N ps (defScope st)) (hn : ps.length = n)
    (hb : ∀ (cdv : Value) (A : Around) (outer : List Env) (s : Shared) (H : Hp) (E : XK), RoomG k (A.deeper (envOfC qual (defScope st) s.heap.objs.size f cdv)) →
      CSs ca (cxOf (L2.CX P w) P w K mg base N qual (defScope st) f cdv A outer s H E) L (defBody st) mb) : FnG P w K mg base (L2.CX P w) (k + 1) f (spM ca K (fn n N.length L mb)) := by
  obtain ⟨oc, od, kV, doc, pm, an, cdv, ct, osl, rfl, lk, hcd⟩ := F.ex
  have F' : Fun K x qual st f (PySem.W.fnOf x qual (defArgs st) (defBody st) (defScope st) .none kV doc pm an cdv ct) := F
  intro A outer s H us vs Q E hr e0 r h
  have hl := spM_len h
  have KX : K.In s.heap := e0.mod.kin.keeps fun b o e => (e0.bs b o e).1
  refine StX.run_bnd lk hcd S hr.2 e0 (G := fun xs H2 => xs = vs ∧ H2 = H) (fun A' Ex Q' hq => ?_) fun s2 H2 xs ⟨e1, e2⟩ hr' => ?_
  · have b := B s us KX (by rw [List.append_nil, ← r.length, hl, hn])
    rw [List.append_nil] at b
    exact b _ _ _ _ (hq s H vs us e0 Un.refl rfl (fun _ _ z => z) r (by rw [hl, hn]) ⟨rfl, rfl⟩)
  · subst e1 e2
    exact fn_body F' S hn hb ⟨hr.1, hr'⟩ h
end
end DL

/-! DL30: t[::-1] of a tuple; slices of lists and tuples; classmethods; a class at a slot called. -/
namespace DL
open PySem L2 PyProof.Rows
section
variable {prog : Program} {w : World} {A : Around} {E : Value → Shared → Prop} {s : Shared}
theorem applied_rev {sl : Addr} {vs : Value} {n : Nat} {Q : Int × Int × Nat → Shared → Prop} (hs : s.heap.IsSliceOf sl .none .none vs) (ps : IsPart vs (some (-1)))
    (h : Q ((n : Int) - 1, -1, n) s) : wpAny (model prog w) A (Builtin.Slice.sliceApplied (.ref sl) (pure (n : Int))) Q E s := by
  obtain ⟨os, hos, hcs, hds⟩ := id hs
  unfold Builtin.Slice.sliceApplied
  unfold Builtin.Slice.sliceFields
  refine wpAny_bind (wpAny_bind (wpAny_field hos hds (x := .none) rfl (wpAny_bind
    (wpAny_field hos hds (x := .none) rfl (wpAny_bind (wpAny_field hos hds (x := vs) rfl
      (wpAny_pure ?_)))))))
  refine wpAny_bind (HT.slicePart_ ps ?_)
  show wpAny _ _ (if ((-1 : Int) == 0) = true then _ else _) _ _ s
  rw [if_neg (by decide)]
  refine wpAny_bind (HT.slicePart_ .none (wpAny_bind
    (HT.slicePart_ .none (wpAny_bind (wpAny_pure ?_)))))
  have e : Builtin.Slice.sliceAdjust none none (-1) (n : Int) = ((n : Int) - 1, -1) := rfl
  have e2 : Builtin.Slice.slicePlaces ((n : Int) - 1) (-1) (-1) = n := by
    unfold Builtin.Slice.slicePlaces
    rw [if_neg (by decide)]
    by_cases hn : n = 0
    · subst hn; rfl
    · rw [if_pos (by omega), show -(-1 : Int) = 1 from rfl, Int.ediv_one]; omega
  show wpAny _ _ (match Builtin.Slice.sliceAdjust none none (-1) (n : Int) with | (lo, hi) => pure (lo, (-1 : Int), Builtin.Slice.slicePlaces lo hi (-1))) _ _ s
  rw [e]
  show wpAny _ _ (pure ((n : Int) - 1, (-1 : Int), Builtin.Slice.slicePlaces ((n : Int) - 1) (-1) (-1))) _ _ s
  rw [e2]
  exact wpAny_pure h
theorem pick_rev (xs : Array Value) : ((List.range xs.size).filterMap fun (m : Nat) => xs[(((xs.size : Int) - 1) + (m : Int) * (-1)).toNat]?).toArray = xs.toList.reverse.toArray := by
  congr 1
  have e : ∀ m ∈ List.range xs.size, xs[(((xs.size : Int) - 1) + (m : Int) * (-1)).toNat]? = xs.toList.reverse[m]? := fun m hm => by
    have hm : m < xs.size := by simpa using hm
    have i : (((xs.size : Int) - 1) + (m : Int) * (-1)).toNat = xs.size - 1 - m := by omega
    rw [i, List.getElem?_reverse (by simpa using hm)]
    simp
  have e3 : (List.range xs.size).filterMap (fun (m : Nat) => xs[(((xs.size : Int) - 1) + (m : Int) * (-1)).toNat]?) = (List.range xs.size).filterMap fun m => xs.toList.reverse[m]? := by
    have gen : ∀ l : List Nat, (∀ m ∈ l, xs[(((xs.size : Int) - 1) + (m : Int) * (-1)).toNat]? = xs.toList.reverse[m]?) → l.filterMap (fun (m : Nat) => xs[(((xs.size : Int) - 1) + (m : Int) * (-1)).toNat]?) = l.filterMap fun m => xs.toList.reverse[m]? := fun l => by
      induction l with
      | nil => exact fun _ => rfl
      | cons y l ih =>
        intro h
        rw [List.filterMap_cons, List.filterMap_cons, h y List.mem_cons_self, ih fun z hz => h z (List.mem_cons_of_mem _ hz)]
    exact gen _ e
  rw [e3]
  have := PySem.W.krv_all (xs.toList.reverse.toArray)
  simpa using this
theorem getItem_tuple_rev {t sl : Addr} {items : Array Value} {vs : Value} {Q : Value → Shared → Prop} (ht : IsTup s.heap t items) (hs : s.heap.IsSliceOf sl .none .none vs) (ps : IsPart vs (some (-1)))
    (h : Q (.ref s.heap.objs.size) { s with heap := s.heap.push { cls := .type "tuple", data := .seq items.toList.reverse.toArray } })
    (hsz : items.size ≤ sizeLine) : wpAny (model prog w) A (getItem (.ref t) (.ref sl)) Q E s := by
  have htake : sizeOk (.seq items.toList.reverse.toArray) := by
    show items.toList.reverse.toArray.size ≤ sizeLine
    rw [List.size_toArray, List.length_reverse, Array.length_toList]
    exact hsz
  obtain ⟨os, hos, hcs, hds⟩ := id hs
  have hTs : s.TypeIs (.ref sl) "slice" := ⟨os, hos, hcs⟩
  unfold getItem
  try with_reducible refine wpAny_holding ?_
  first
    | refine wpAny_bind (wpAny_pure ?_)
    | skip
  refine wpAny_bind (wpAny_sequenceKey ht.typeIs
    (by decide) ?_)
  refine wpAny_bind (wpAny_callSpecial?_slot (name := Str.ofString "__getitem__")
    ht.typeIs PyProof.Rows.slot_tuple_getitem
    (wpAny_call_entry PyProof.Rows.slot_tuple_getitem ht.typeIs
      entry_tuple_getitem ?_ (args_tuple_getitem _ _)))
  show wpAny _ _ (Builtin.Tuple.tupleItemsOf (.ref t)
    >>= _) _ _ s
  refine wpAny_bind (PyProof.Rows.tupleItemsOf_ ht ?_)
  refine wpAny_bind (wpAny_typeOf hTs ?_)
  rw [if_pos (by decide)]
  refine wpAny_bind (applied_rev hs ps ?_)
  have hno : ¬ ((((items.size : Int) - 1) == 0 && (-1 : Int) == 1 && items.size == items.size) = true) := by
    intro q
    rw [Bool.and_eq_true, Bool.and_eq_true] at q
    exact absurd (eq_of_beq q.1.2) (by decide)
  show wpAny _ _ (if (((items.size : Int) - 1) == 0 && (-1 : Int) == 1 && items.size == items.size) = true then _ else _) _ _ s
  rw [if_neg hno, pick_rev]
  first
    | exact wpAny_bind (m := Builtin.Tuple.tupleExact _)
        (wpAny_newObj_type (wpAny_pure ⟨_, rfl, wpAny_pure h⟩) htake)
    | exact wpAny_bind (m := Builtin.Tuple.tupleExact _)
        (wpAny_newObj_type (wpAny_bind (wpAny_pure (wpAny_pure ⟨_, rfl, wpAny_pure h⟩))) htake)
    | exact wpAny_bind (wpAny_bind (m := Builtin.Tuple.tupleExact _)
        (wpAny_newObj_type (wpAny_pure (wpAny_pure ⟨_, rfl, wpAny_pure h⟩)) htake))
    | exact wpAny_bind (wpAny_bind (m := Builtin.Tuple.tupleExact _)
        (wpAny_newObj_type (wpAny_pure ⟨_, rfl, wpAny_pure h⟩) htake))
end
/-- xs[::-1], a list or a tuple -/
def oRevA : List D → Option Out
  | [.tup xs] => if xs.length ≤ 16777216 then some (.newT xs.reverse) else none
  | ds => oRev ds
section
variable {ca : Nat → Addr} {Hf H Hf1 H1 Hf2 H2 : Hp} {S P P1 P2 : Rg} {R R1 R2 : Nat → Rg} {σ : L2.St} {st : Sl} {v : V} {d : D} {vs : List V} {ds : List D} {X : Cx} {L : List Nat}
theorem pe_revA {e : Expr} {te : TE} {k : Nat} {p1 p2 p3 pos : Pos} (he : PE X e te) : PE X (.Subscript e (.Slice none none (some (.UnaryOp .USub (.Constant (.int 1) k p1) p2)) p3) pos)
    (fun σ H Q => te σ H fun x H1 => ∃ a xs, x = .ref a ∧ ((SqL X.K H1 a xs ∧ ∀ p, H1 p = none → Q (.ref p) (upd H1 p (.lst xs.reverse))) ∨ (SqT X.K H1 a xs ∧ ∀ p, H1 p = none → Q (.ref p) (upd H1 p (.tup xs.reverse))))) := by
  refine ⟨fun pins s σ H Q I h => ?_⟩
  refine Subscript_ (thn (he.run pins s σ H _ I h) fun v s1 ⟨x, H1, I1, r1, q1⟩ => ?_)
  obtain ⟨a, xs, ex, q⟩ := q1
  subst ex
  cases r1
  have hst : PO X (some (.UnaryOp .USub (.Constant (.int 1) k p1) p2)) (tPart (tUn (rU fun i => .int (-i)) (tC (.int 1)))) :=
    po_some (pe_un un_neg pe_int)
  refine wpAny_Slice (thn (po_none.run pins s1 σ H1 (fun o H2 => o = none ∧ H2 = H1) I1 ⟨rfl, rfl⟩)
    fun vl s2 ⟨l, H2, I2, pl, el, e2⟩ => ?_)
  subst el e2
  refine thn (po_none.run pins s2 σ H2 (fun o H3 => o = none ∧ H3 = H2) I2 ⟨rfl, rfl⟩)
    fun vu s3 ⟨u, H3, I3, pu, eu, e3⟩ => ?_
  subst eu e3
  refine thn (hst.run pins s3 σ H3 (fun o H4 => o = some (-1) ∧ H4 = H3) I3 ⟨1, rfl, -1, rfl, rfl, rfl⟩)
    fun vs s4 ⟨o, H4, I4, ps, eo, e4⟩ => ?_
  subst eo e4
  have I5 : Inv X pins σ H4 { s4 with heap := s4.heap.push { cls := .type "slice", data := .fields #[vl, vu, vs] } } :=
    I4.kept (t' := s4.toks) fun b ob q => Heap.get?_push_of_some _ q
  show wpAny (model X.prog X.w) X.A (subscriptTail e (.Slice none none (some (.UnaryOp .USub (.Constant (.int 1) k p1) p2)) p3) (.ref a) (.ref s4.heap.objs.size))
    (EP X pins σ Q) X.xe { s4 with heap := s4.heap.push { cls := .type "slice", data := .fields #[vl, vu, vs] } }
  rcases q with ⟨hx, q⟩ | ⟨hx, q⟩
  · obtain ⟨its, r, ht, hz⟩ := I5.list hx
    have hlen := r.length
    refine tail_any (ops := [.ref a, .ref s4.heap.objs.size]) ht.isList.typeIs
      (PySem.slot_list_getitem.lookup) ?_ (by with_unfolding_all rfl)
    refine wpAny_getItem_list_slice ht.isList (Heap.IsSliceOf.new _ vl vu vs) pl pu ps (by decide)
      ?_ (by rw [List.size_toArray]; omega)
    rw [PySem.W.krv_pick]
    refine ⟨.ref _, _, I5.laid (t' := s4.toks) (o := .lst xs.reverse) (fun b ob q => Heap.get?_push_of_some _ q)
      (Nat.le_refl _) ?_, rfl, q _ (I5.hok.fresh (Nat.le_refl _))⟩
    exact ⟨by rw [List.length_reverse]; exact hz, _, 0, r.reverse,
      Heap.get?_push_size _ rfl⟩
  · obtain ⟨its, r, ht, hz⟩ := I5.tuple hx
    have hlen := r.length
    cases pl
    cases pu
    refine tail_any (ops := [.ref a, .ref s4.heap.objs.size]) ht.typeIs
      (PyProof.Rows.slot_tuple_getitem.lookup) ?_ (by with_unfolding_all rfl)
    refine getItem_tuple_rev ht (Heap.IsSliceOf.new _ _ _ vs) ps
      ?_ (by rw [List.size_toArray]; omega)
    refine ⟨.ref _, _, I5.laid (t' := s4.toks) (o := .tup xs.reverse) (fun b ob q => Heap.get?_push_of_some _ q)
      (Nat.le_refl _) ?_, rfl, q _ (I5.hok.fresh (Nat.le_refl _))⟩
    exact ⟨by rw [List.length_reverse]; exact hz, _, r.reverse, IsTup.new _ _⟩
end
end DL

/-! DL31: where a statement stands in a def; slices of lists and tuples; classmethods; a class at a slot called. -/
namespace DL
open PySem L2 PyProof.Rows
def nthS (ss : List Stmt) (i : Nat) : Stmt := ss.getD i (.Pass ⟨0, 0, 0, 0⟩)
def forB : Stmt → List Stmt
  | .For _ _ b _ _ => b
  | _ => []
def ifB : Stmt → List Stmt
  | .If _ b _ _ => b
  | _ => []
/-- xs[lo:hi], a list or a tuple -/
def cutA (lo hi : Option Int) : List D → Option Out
  | [.tup xs] => if HT.sIx xs.length 0 lo = 0 ∧ HT.sIx xs.length xs.length hi = xs.length then some (.val (.tup xs)) else if xs.length ≤ 16777216 then some (.newT (cutD xs lo hi)) else none
  | ds => cutO lo hi ds
def oS01 : List D → Option Out
  | [x, .int b] => cutA none (some b) [x]
  | _ => none
def rSlZ (K : PySem.W.Frag) : V → Option Int → Option Int → Hp → VK → Prop := fun x lo hi H Q => rSlL K x lo hi H Q ∨ rSlA K x lo hi H Q
section
variable {ca : Nat → Addr} {K : PySem.W.Frag} {Hf H Hf1 H1 Hf2 H2 : Hp} {S P P1 P2 : Rg} {R R1 R2 : Nat → Rg} {σ : L2.St} {st : Sl} {v : V} {d : D} {vs : List V} {ds : List D} {X : Cx} {L : List Nat}
theorem sl_any : SlR X (rSlZ X.K) := SlR.or sl_list sl_tupA
theorem os_cutA {lo hi : Option Int} {x : D} {o : Out} {Q : VK} (hx : Ex Hf H) (r1 : Rep ca K Hf H S v x) (h : cutA lo hi [x] = some o) (q : OutQ ca K Hf H o Q) : rSlZ K v lo hi H Q := by
  cases x with
  | tup xs =>
    right
    obtain ⟨a, vs, rfl, e2, r3⟩ := rep_tup hx r1
    have hl := r3.length
    refine ⟨a, vs, rfl, (show SqT K H a vs from .inl (.inl e2)), fun hw => ?_, fun hw p hp => ?_⟩
    · rw [hl] at hw
      dsimp only [cutA] at h
      rw [if_pos hw] at h
      cases h
      exact q _ (r1.cold rfl)
    · rw [hl] at hw
      dsimp only [cutA] at h
      rw [if_neg hw] at h
      split at h
      · cases h
        refine q p _ hp ?_
        obtain ⟨_, B, _, r4, _, hB, _⟩ := repL_cutAt (HT.sIx vs.length 0 lo) r3
        obtain ⟨A, _, r5, _, hA, _, _⟩ := repL_cutAt (HT.sIx vs.length vs.length hi - HT.sIx vs.length 0 lo) r4
        have r6 := r5.mono (S' := Em) fun b z => hB b (hA b z)
        unfold cutV cutD
        rw [← hl]
        exact r6
      · cases h
  | _ => exact .inl (os_cut hx r1 h q)
theorem ce_s01 {e a : Expr} {oe oa : Opd} {p2 pos : Pos} (he : CO ca X e oe) (ha : CO ca X a oa) : CE ca X (.Subscript e (.Slice none (some a) none p2) pos) (eOp oS01 [oe, oa]) :=
  ce_op (es := [e, a]) (rl := rl2 fun x y H Q => ∃ i, y = .int i ∧ rSlZ X.K x none (some i) H Q) (fun σ H Q h => we_of (pe_slice sl_any (we_pe X e) po_none (po_some (we_pe X a))) h) (.cons he (.cons ha .nil)) fun Hf H vs ds o Q hx rd h q => by
    match ds, h with
    | [x, .int i], h =>
      obtain ⟨v, w, S, S', e1, r1, r2⟩ := rdl2 rd rfl
      subst e1
      exact ⟨i, rep_int r2, os_cutA hx r1 h q⟩
end
end DL

/-! DL32: classmethods called; a class at a slot called; calls and instances made by FnR. -/
namespace DL
open PySem L2 PyProof.Rows
section
variable {ca : Nat → Addr} {Hf H Hf1 H1 Hf2 H2 : Hp} {S P P1 P2 : Rg} {R R1 R2 : Nat → Rg} {σ : L2.St} {st : Sl} {v : V} {d : D} {vs : List V} {ds : List D} {X : Cx} {L : List Nat}
theorem run_makeG {CX : CXT} {k : Nat} {f C : Addr} {sp : Sp} {E : XK} {pins : List (Addr × Obj)} {s : Shared} {Q : VK} {us : List Value}
    (M : Mk X.K C f) (F : FnG X.prog X.w X.K X.mg X.base CX k f sp) (hr : RoomG (k + 1) X.A) (hx : PassesAt CX X σ E) (I : Inv X pins σ H s) (r : Vals vs us)
    (h : ∀ x dx, H x = none → H dx = none → dx ≠ x → sp (.ref x :: vs) (upd (upd H dx (.own x)) x (.ins C dx [])) (fun v H2 => v = .non ∧ Q (.ref x) H2) E) : wpAny (model X.prog X.w) X.A (call (.ref C) us) (EP X pins σ Q) X.xe s := by
  have wish := h (s.heap.objs.size + 1) s.heap.objs.size (I.hok.fresh (Nat.le_succ _)) (I.hok.fresh (Nat.le_refl _)) (Nat.ne_of_lt (Nat.lt_succ_self _))
  have J := Inv.made (C := C) I
  have rs : Vals (V.ref (s.heap.objs.size + 1) :: vs) (Value.ref (s.heap.objs.size + 1) :: us) := .cons rfl r
  refine wpAny_call (make_map (f := f) I.kIn M.makes M.init (beq_iff_eq.mp M.fn) (codeAny_mono (F _ X.stack _ _ _ _ _ E (hr.make C us []) (J.env0.make C us []) rs wish) fun res s' got => ?_))
  cases res with
  | error e => exact hx pins _ _ e s' J got
  | ok fl => cases fl with
    | ret u =>
      obtain ⟨v, H', I3, rv, ev, q3⟩ := J.after got
      subst ev
      exact ⟨rv, ⟨V.ref (s.heap.objs.size + 1), H', I3, rfl, q3⟩⟩
    | next => exact got.elim
    | brk => exact got.elim
    | cont => exact got.elim
/-- f(e, ..), by FnR -/
theorem ce_callR {k : Nat} {f : Addr} {x : Str} {p pos : Pos} {e : Expr} {es : List Expr} {m : MF} {ms : MA} (F : FnG X.prog X.w X.K X.mg X.base (L2.CX X.prog X.w) k f (spM ca X.K m)) (hr : RoomG k X.A) (hg : Gl X x) (hm : X.mg x = some (.ref f))
    (hk : PySem.W.keepIn X.K (.ref f) = true) (ha : CL ca X (e :: es) ms) (hst : NoStar (e :: es)) (hdb : (x == ("__debug__" : Str)) = false := by decide) (hpl : (backTo pos (starEach es X.env)).any (·.1) = false := by rfl) :
    CE ca X (.Call (.Name x p) (e :: es) [] pos) (eCall m ms) := fun Hf H R σ st Q pr h => by
  have hw : Wa X (e :: es) σ H fun vs H1 => spM ca X.K m vs H1 Q (fun cls dd H' => wX X cls dd σ H') := by
    refine wa_wl (fun e' r' q => noStar_suf hst e' r' q _) (ha Hf H R σ st _ pr ?_)
    unfold eCall at h
    cases e1 : ms st with
    | fail => rw [e1] at h; exact h
    | exc x st1 => rw [e1] at h; exact h
    | ok ds st1 =>
      rw [e1] at h
      intro Hf1 H1 P1 R1 vs t1 p1
      exact ⟨Hf1, P1, ds, p1.pend, p1.w.mono fun b q => .inl q, postC_of p1 (Post.from t1 h)⟩
  refine ⟨fun pins s I => ?_⟩
  refine wpAny_Call_Name_kw (ld_glob I hg hm ?_ hdb)
  refine PySem.W.callWith_K (h₀ := X.base) I.ok.mod.kin hk
    (thn (hw pos pins s I) fun us s1 ⟨vs, H1, I1, r, q⟩ => ⟨I1.kIn, ?_⟩) (hst.1 _) hpl
  exact wpAny_call (run_fnRS F hr (passAt (takes_wX X) σ) I1 r q)
end
end DL

/-! DL33: repr of what is no container; texts compared. -/
namespace DL
open PySem L2 PyProof.Rows
section
variable {ca : Nat → Addr} {K : PySem.W.Frag} {Hf H Hf1 H1 : Hp} {S : Rg} {X : Cx} {v : V} {d : D}
theorem ce_revA {e : Expr} {oe : Opd} {k : Nat} {p1 p2 p3 pos : Pos} (he : CO ca X e oe) : CE ca X (.Subscript e (.Slice none none (some (.UnaryOp .USub (.Constant (.int 1) k p1) p2)) p3) pos) (eOp oRevA [oe]) :=
  ce_op (es := [e]) (rl := rl1 fun x H Q => ∃ a xs, x = .ref a ∧ ((SqL X.K H a xs ∧ ∀ p, H p = none → Q (.ref p) (upd H p (.lst xs.reverse))) ∨ (SqT X.K H a xs ∧ ∀ p, H p = none → Q (.ref p) (upd H p (.tup xs.reverse)))))
    (fun σ H Q h => we_of (pe_revA (we_pe X e)) h) (.cons he .nil) fun Hf H vs ds o Q hx rd h q => by
    obtain ⟨x, rfl⟩ : ∃ x, ds = [x] := by
      match ds, h with
      | [], h => cases h
      | [x], _ => exact ⟨x, rfl⟩
      | a :: b :: r, h => cases a <;> cases h
    cases x with
    | tup xs =>
      obtain ⟨v, S, e1, r1⟩ := rdl1 rd rfl
      subst e1
      obtain ⟨a, vs, rfl, e2, r3⟩ := rep_tup hx r1
      dsimp only [oRevA] at h
      split at h
      · cases h
        exact ⟨a, vs, rfl, .inr ⟨.inl (.inl e2), fun p hp => q p _ hp (repL_rev r3)⟩⟩
      · cases h
    | lst o xs =>
      obtain ⟨rfl, hc, hl⟩ := newLc_some (show newLc xs.reverse = some _ from h)
      obtain ⟨v, S, e1, r1⟩ := rdl1 rd rfl
      subst e1
      obtain ⟨a, vs, T, rfl, e2, r3⟩ := rep_lstItems hx r1 (show lstItems (.lst o xs) = some xs from rfl)
      exact ⟨a, vs, rfl, .inl ⟨e2, fun p hp => q p _ hp (repL_rev (repL_cold r3 (colds_rev hc)))⟩⟩
    | scr xs =>
      obtain ⟨rfl, hc, hl⟩ := newLc_some (show newLc (xs.map D.int).reverse = some _ from h)
      obtain ⟨v, S, e1, r1⟩ := rdl1 rd rfl
      subst e1
      obtain ⟨a, vs, T, rfl, e2, r3⟩ := rep_lstItems hx r1 (show lstItems (.scr xs) = some (xs.map D.int) from rfl)
      exact ⟨a, vs, rfl, .inl ⟨e2, fun p hp => q p _ hp (repL_rev (repL_cold r3 (colds_rev hc)))⟩⟩
    | _ => cases h
end
theorem oS01_scr (l : List Int) (j : Int) (hl : l.length ≤ 63) : ∃ k, oS01 [.scr l, .int j] = some (.newL (nums k)) := oSl01_scr l j hl
theorem cutD_nums (l : List Int) (lo hi : Option Int) : cutD (nums l) lo hi = nums ((l.drop (HT.sIx l.length 0 lo)).take (HT.sIx l.length l.length hi - HT.sIx l.length 0 lo)) := by
  unfold cutD
  rw [nums_len]
  unfold nums
  rw [List.map_take, List.map_drop]
theorem s01_n {o : Bool} {p : List Int} {j : Int} {k : Nat} (hj : j = (k : Int)) (hp : p.length ≤ 16777216) : oS01 [.lst o (nums p), .int j] = some (.newL (nums (p.take k))) := by
  subst hj
  show newLc (cutD (nums p) none (some (k : Int))) = _
  rw [cutD_nums]
  have e1 : HT.sIx p.length p.length (some (k : Int)) = min k p.length := by
    show (if (k : Int) < 0 then ((k : Int) + (p.length : Int)).toNat else min (k : Int).toNat p.length) = _
    rw [if_neg (by omega), Int.toNat_natCast]
  have e2 : HT.sIx p.length 0 none = 0 := rfl
  rw [e1, e2, List.drop_zero, Nat.sub_zero]
  have e3 : p.take (min k p.length) = p.take k := by
    by_cases h : k ≤ p.length
    · rw [Nat.min_eq_left h]
    · rw [Nat.min_eq_right (by omega), List.take_length, List.take_of_length_le (by omega)]
  rw [e3]
  unfold newLc
  rw [nums_colds, nums_len, List.length_take]
  exact if_pos (by simp; omega)
theorem add_l {o z : Bool} {p q : List Int} (h : p.length + q.length ≤ 16777216) : oAdd [.lst o (nums p), .lst z (nums q)] = some (.newL (nums (p ++ q))) := by
  show newLc (nums p ++ nums q) = _
  rw [← nums_app]
  unfold newLc
  rw [nums_colds, nums_len, List.length_append]
  exact if_pos (by simp; omega)
end DL

/-! DL34: the splitting into descending runs; the one normal word of an effect. -/
namespace Nw
open DL
end Nw

/-! DL35: calls with a slot lent, instances made, ==, len, the law's end, by FnG; repr of data. -/
namespace DL
open PySem L2 PyProof.Rows
section
variable {ca : Nat → Addr} {K : PySem.W.Frag} {Hf H Hf1 H1 Hf2 H2 : Hp} {S S1 S2 P P1 P2 : Rg} {R R1 R2 : Nat → Rg} {pp qq : Prop} {σ σ' : L2.St} {st st' : Sl} {v w : V} {d e : D} {vs : List V} {ds xs : List D} {X : Cx} {L : List Nat}
theorem ce_callLG {k : Nat} {f : Addr} {x : Str} {p pos : Pos} {e0 : Expr} {es : List Expr} (es1 fs : List Expr) (e : Expr) {i : Nat} {m : MF} {ms ns : MA} (F : FnG X.prog X.w X.K X.mg X.base (L2.CX X.prog X.w) k f (spM ca X.K m)) (hr : RoomG k X.A) (hg : Gl X x) (hm : X.mg x = some (.ref f))
    (hk : PySem.W.keepIn X.K (.ref f) = true) (ha : CL ca X es1 ms) (he : PE X e (tVar i)) (hbs : CL ca X fs ns) (hes : e0 :: es = es1 ++ e :: fs) (hst : NoStar (e0 :: es)) (hdb : (x == ("__debug__" : Str)) = false := by decide) (hpl : (backTo pos (starEach es X.env)).any (·.1) = false := by rfl) :
    CE ca X (.Call (.Name x p) (e0 :: es) [] pos) (eCallL m ms i ns) := fun Hf H R σ st Q pr h => by
  have hw : Wa X (e0 :: es) σ H fun vs H1 => spM ca X.K m vs H1 Q (fun cls dd H' => wX X cls dd σ H') := by
    refine wa_wl (fun e' r' q => noStar_suf hst e' r' q _) ?_
    rw [hes]
    exact lent_args (E := fun σ cls dd H' => wX X cls dd σ H') ha he hbs pr h rfl
  refine ⟨fun pins s I => ?_⟩
  refine wpAny_Call_Name_kw (ld_glob I hg hm ?_ hdb)
  refine PySem.W.callWith_K (h₀ := X.base) I.ok.mod.kin hk
    (thn (hw pos pins s I) fun us s1 ⟨vs, H1, I1, r, q⟩ => ⟨I1.kIn, ?_⟩) (hst.1 _) hpl
  exact wpAny_call (run_fnRS F hr (passAt (takes_wX X) σ) I1 r q)
theorem ce_makeG {k C : Nat} {f : Addr} {x : Str} {p pos : Pos} {e : Expr} {es : List Expr} {m : MF} {ms : MA} (M : Mk X.K (ca C) f) (F : FnG X.prog X.w X.K X.mg X.base (L2.CX X.prog X.w) k f (spM ca X.K m)) (hr : RoomG (k + 1) X.A) (hg : Gl X x) (hm : X.mg x = some (.ref (ca C)))
    (ha : CL ca X (e :: es) ms) (hst : NoStar (e :: es)) (hdb : (x == ("__debug__" : Str)) = false := by decide) (hpl : (backTo pos (starEach es X.env)).any (·.1) = false := by rfl) :
    CE ca X (.Call (.Name x p) (e :: es) [] pos) (eMake C m ms) := fun Hf H R σ st Q pr h => by
  have hw : Wa X (e :: es) σ H fun vs H1 => ∀ x dx, H1 x = none → H1 dx = none → dx ≠ x → spM ca X.K m (.ref x :: vs) (upd (upd H1 dx (.own x)) x (.ins (ca C) dx [])) (fun v H2 => v = .non ∧ Q (.ref x) H2) (fun cls dd H' => wX X cls dd σ H') := by
    refine wa_wl (fun e' r' q => noStar_suf hst e' r' q _) (ha Hf H R σ st _ pr ?_)
    unfold eMake at h
    cases e1 : ms st with
    | fail => rw [e1] at h; exact h
    | exc x st1 => rw [e1] at h; exact h
    | ok ds st1 =>
      rw [e1] at h
      intro Hf1 H1 P1 R1 vs t1 p1 x dx n1 n2 n3
      exact postC_make p1 n1 n2 n3 (Post.from t1 h)
  refine ⟨fun pins s I => ?_⟩
  refine wpAny_Call_Name_kw (ld_glob
      I hg hm ?_ hdb)
  refine PySem.W.callWith_K (h₀ := X.base) I.ok.mod.kin M.kp (thn (hw pos pins s I) fun us s1 ⟨vs, H1, I1, r, q⟩ => ⟨I1.kIn, ?_⟩) (hst.1 _) hpl
  exact run_makeG M F hr (passAt (takes_wX X) σ) I1 r q
/-! ### a law's end -/
theorem law_base {P : Program} {w : World} {K : PySem.W.Frag} {mg mb : Str → Option Value} {k : Nat} {fa a : Addr} {sp : Sp} {s₁ : Shared} {vs : List Value} {H : Hp}
    (KX : K.In s₁.heap) (hns : s₁.heap.Ns mainGlobals mg) (hb : s₁.heap.Ns builtinsNs mb) (hbb : ∀ x : Str, x ≠ "__name__" → mb x = bootBuiltins x) (hlim : s₁.heap.NoLimit) (hg : s₁.gens = #[])
    (ha : s₁.heap.get? a = some { cls := .type "list", data := .seq vs.toArray }) (hr : RoomG k callerA)
    (F : ∀ base : Heap, K.In base → base.Ns mainGlobals mg → FnG P w K mg base (L2.CX P w) k fa sp) (hq : sp [.ref a] H (fun v _ => v = .bl true) fun _ _ _ => False)
    (hCX : ∀ e s', L2.CX P w [] H s₁ (fun _ _ _ => False) e s' → False) (hO : Only H) (hok : HOk P w H s₁.heap) (hA : ∀ b, H b ≠ none → b = a) (hK : H a ≠ none → K.lookup a = none) :
    codeAny (model P w) callerA (.call (.ref fa) ⟨[.ref a], []⟩) (fun r s' => r = .ok (.ret (.bool true)) ∧ OldK s₁.heap s'.heap ∧ s'.os = s₁.os ∧ AllBare s'.gens) s₁ := by
  have only : ∀ {b : Addr}, H b ≠ none → ∀ {o : Obj}, s₁.heap.get? b = some o → b = a ∧ o = { cls := .type "list", data := .seq vs.toArray } := fun {b} q o e => by
    have z := hA b q
    subst z
    rw [ha] at e
    exact ⟨rfl, (Option.some.inj e).symm⟩
  have free : ∀ {b : Addr} {o : Obj} {es : Array DictEntry} {ep : Nat}, s₁.heap.get? b = some o → o.data = .dict es ep → H b = none := fun {b o es ep} e dd =>
    Classical.byContradiction fun q => by
      obtain ⟨_, z⟩ := only q e
      subst z
      have z2 : Data.seq vs.toArray _ = Data.dict es ep := dd
      cases z2
  have ns : ∀ {b : Addr} {m : Str → Option Value}, s₁.heap.Ns b m → (hidT s₁.heap H).Ns b m :=
    fun {b m} ⟨o, es, ep, e, dd, r⟩ => ⟨o, es, ep, hidT_get e (free e dd), dd, r⟩
  have kin : K.In (hidT s₁.heap H) := fun b o e => hidT_get (KX b o e) (Classical.byContradiction fun q => by
    have z := hA b q
    subst z
    rw [hK q] at e
    cases e)
  have md : Mod K mg (hidT s₁.heap H) := ⟨kin, ns hns, ⟨mb, ns hb, hbb⟩, let ⟨mc, h1, h2⟩ := hlim; ⟨mc, ns h1, h2⟩⟩
  have nil : ∀ b : Addr, ¬ b ∈ ([] : List Addr) := fun b z => by cases z
  have e0 : Env0 P w K mg (hidT s₁.heap H) callerA [] s₁ H :=
    ⟨rfl, md, fun b o e => of_hidT e, Nat.le_of_eq (hidT_size _ _), trivial, fun b z => absurd z (nil b), hok, .of_eq hg⟩
  refine codeAny_mono (F _ kin (ns hns) callerA [] s₁ H [.ref a] [.ref a] _ _ hr e0 (.cons rfl .nil) hq) fun r s' h => ?_
  cases r with
  | error e => exact (hCX e s' h).elim
  | ok fl =>
    cases fl with
    | next => exact h.elim
    | brk => exact h.elim
    | cont => exact h.elim
    | ret u =>
      obtain ⟨v, H', os, bare, un, hok', r', q⟩ := h
      have q' : v = .bl true := q
      subst q'
      obtain rfl : u = Value.bool true := r'
      refine ⟨rfl, OldK.of_keep fun b o e => ?_, os, bare⟩
      rcases hO b with z | ⟨ob, xs, z⟩
      · exact un.keep b o e z (nil b) (nil b)
      · obtain ⟨e1, _⟩ := hok b _ z
        obtain ⟨e2, _⟩ := hok' b _ (un.frzs b ob _ z)
        rw [e] at e1
        cases e1
        exact e2
theorem law_callG {P : Program} {w : World} {K : PySem.W.Frag} {mg mb : Str → Option Value} {k : Nat} {fa a : Addr} {sp : Sp} {s₁ : Shared} {vs : List Value} {ns : List Int}
    (KX : K.In s₁.heap) (hns : s₁.heap.Ns mainGlobals mg) (hb : s₁.heap.Ns builtinsNs mb) (hbb : ∀ x : Str, x ≠ "__name__" → mb x = bootBuiltins x) (hlim : s₁.heap.NoLimit) (hg : s₁.gens = #[])
    (ha : s₁.heap.get? a = some { cls := .type "list", data := .seq vs.toArray }) (hi : IntsAre vs ns) (hl : ns.length ≤ sizeLine) (hr : RoomG k callerA)
    (F : ∀ base : Heap, K.In base → base.Ns mainGlobals mg → FnG P w K mg base (L2.CX P w) k fa sp)
    (hsp : ∀ H : Hp, Only H → SqL K H a (ns.map V.int) → sp [.ref a] H (fun v _ => v = .bl true) fun _ _ _ => False)
    (hCX : ∀ H e s', L2.CX P w [] H s₁ (fun _ _ _ => False) e s' → False) :
    codeAny (model P w) callerA (.call (.ref fa) ⟨[.ref a], []⟩) (fun r s' => r = .ok (.ret (.bool true)) ∧ OldK s₁.heap s'.heap ∧ s'.os = s₁.os ∧ AllBare s'.gens) s₁ := by
  have rv := vals_ints hi
  have lv := hi.length
  have go : ∀ H : Hp, Only H → SqL K H a (ns.map V.int) → HOk P w H s₁.heap → (∀ b, H b ≠ none → b = a) → (H a ≠ none → K.lookup a = none) → _ :=
    fun H hO hS hok hA hK => law_base KX hns hb hbb hlim hg ha hr F (hsp H hO hS) (hCX H) hO hok hA hK
  cases hk : K.lookup a with
  | some o =>
    have e := KX a o hk
    rw [ha] at e
    cases e
    have lit : vs.toArray.size ≤ sizeLine := by
      rw [List.size_toArray, lv]
      exact hl
    exact go (fun _ => none) (fun _ => .inl rfl) (.inr ⟨_, vs.toArray, _, hk, rfl, rfl, rfl, lit, by simpa using rv⟩)
      (fun b u z => nomatch z) (fun b z => absurd rfl z) fun z => absurd rfl z
  | none =>
    obtain ⟨H, h1, h2⟩ : ∃ H : Hp, H a = some (.frz { cls := .type "list", data := .seq vs.toArray } (.lst (ns.map V.int))) ∧ ∀ b, b ≠ a → H b = none :=
      ⟨fun b => if b = a then some (.frz { cls := .type "list", data := .seq vs.toArray } (.lst (ns.map V.int))) else none, if_pos rfl, fun b z => if_neg z⟩
    refine go H (fun b => ?_) (.inl (.inr ⟨_, h1⟩)) (fun b u z => ?_) (fun b z => Classical.byContradiction fun q => z (h2 b q)) fun _ => hk
    · by_cases q : b = a
      · subst q
        exact .inr ⟨_, _, h1⟩
      · exact .inl (h2 b q)
    · by_cases q : b = a
      · subst q
        rw [h1] at z
        cases z
        exact ⟨ha, by rw [List.length_map]; exact hl, vs, _, rv, ha⟩
      · rw [h2 b q] at z
        cases z
theorem walk_lawG {l : PySem.W.OpenLaw} {k : Nat} {q : Program} {loose : List Str} {XP : (Str → Option Value) → Heap → Prop} {YP : World → Heap → Prop} {d : DefRec} {K : Params → PySem.W.Frag} {m : MF}
    (hn : l.most = some 63) (hdf : d.params.defaults = []) (hr : Room k callerA) (hY : ∀ (w : World) (h : Heap), YP w h → (K w.params).In h)
    (F : ∀ (w : World) (mg : Str → Option Value) (fa : Addr) (h : Heap),
        (K w.params).In h → h.Ns mainGlobals mg → mg d.name = some (.ref fa) →
      ∃ (ca : Nat → Addr), ∀ base : Heap, (K w.params).In base → base.Ns mainGlobals mg → FnG l.prog w (K w.params) mg base (L2.CX l.prog w) k fa (spM ca (K w.params) m))
    (hm : ∀ ns : List Int, ns.length ≤ 63 → ∃ ps, m [.scr ns] = .ok (.bl true) ps) :
    PySem.W.WalkO q loose XP YP l.row.toRowW d [] (fun f vs => PySem.call f vs) := by
  refine Att.attach_call hn hdf fun w s₀ s₁ mg mb fa o pm cd doc a vs ns G Y ho hd hcd hmg hobj hints hlen hg => ?_
  obtain ⟨ca, h5⟩ := F w mg fa _ (hY w _ Y) G.T.g hmg
  exact law_callG (hY w _ Y) G.T.g G.T.b G.T.builtins G.T.nolimit hg hobj hints (Nat.le_trans hlen (by decide)) ⟨rfl, hr⟩ h5 (fun H hO hS => sp_law hm H a ns hlen hS) fun H e s' h => law_cx h
end
end DL

/-! DL36: repr of data. -/
namespace DL
open PySem L2 PyProof.Rows
/-- what repr takes -/
def rpOk (p : PyData) : Bool := p.canLay0 && p.showable && !p.hasDict && decide (p.depth ≤ 64) && decide (p.shown.length ≤ 16777216)
def rRepr (K : PySem.W.Frag) : List V → Hp → VK → Prop := fun xs H Q => ∃ x p, xs = [x] ∧ Dp K H x p ∧ rpOk p = true ∧ Q (.str p.shown) H
def oRepr : List D → Option Out
  | [x] => if rpOk (toPy x) then some (.val (.str (toPy x).shown)) else none
  | _ => none
section
variable {ca : Nat → Addr} {K : PySem.W.Frag} {Hf H Hf1 H1 : Hp} {S : Rg} {X : Cx} {v : V} {d : D}
theorem call_repr {k : Nat} (hr : RoomG k X.A) : CallR X (.builtin "repr") (rRepr X.K) := by
  intro pins s σ H xs us Q I r h
  obtain ⟨x, p, rfl, hd, ok, q⟩ := h
  unfold rpOk at ok
  simp only [Bool.and_eq_true, decide_eq_true_eq, Bool.not_eq_true'] at ok
  obtain ⟨⟨⟨⟨h1, h2⟩, h3⟩, h4⟩, h5⟩ := ok
  rw [sz_eq] at h5
  obtain ⟨u, rfl, rx⟩ := vals1 r
  obtain ⟨as, rd⟩ := Dp.reads I p x u hd rx
  have hu := hr.2.un
  have big : ∀ a, u = .ref a → wpAny (model X.prog X.w) X.A (call (.builtin "repr") [.ref a]) (EP X pins σ Q) X.xe s := fun a e => by
    subst e
    exact PySem.repr_of_reads' rd h2 (PyData.noDict_hsm h3) hr.1 (by omega) (fun _ _ e => e)
      (fun h' u tk keep => ⟨.str _, H, I.kept (t' := tk) keep, ⟨_, rfl⟩, q⟩) h5
  cases rd with
  | none => exact PySem.P.repr_of_none ⟨.str _, H, I.tok _, ⟨_, rfl⟩, q⟩
  | bool b => exact PySem.P.repr_of_bool ⟨.str _, H, I.tok _, ⟨_, rfl⟩, q⟩
  | int i t => exact PySem.P.repr_of_int (by simpa [PyData.showable] using h2) ⟨.str _, H, I.tok _, ⟨_, rfl⟩, q⟩
  | str y t => exact PySem.P.repr_of_str ⟨.str _, H, I.tok _, ⟨_, rfl⟩, q⟩ h5
  | list _ _ _ _ => exact big _ rfl
  | tuple _ _ _ _ => exact big _ rfl
  | dict _ _ _ _ _ => exact big _ rfl
theorem os_repr : OpS ca K (rRepr K) oRepr := fun Hf H vs ds o Q hx rd h q => by
  match ds, h with
  | [x], h =>
    obtain ⟨v, S, e1, r1⟩ := rdl1 rd rfl
    subst e1
    dsimp only [oRepr] at h
    split at h
    · rename_i hz
      cases h
      have hl : (toPy x).canLay0 = true := by
        unfold rpOk at hz
        simp only [Bool.and_eq_true] at hz
        exact hz.1.1.1.1
      exact ⟨v, _, rfl, rep_dp hx r1 hl, hz, q _ .str⟩
    · cases h
end
end DL

/-! DL37: zip; << >> &; walks of a list or a tuple. -/
namespace DL
open PySem L2 PyProof.Rows
def zipD : List D → List D → List D
  | a :: as, b :: bs => .tup [a, b] :: zipD as bs
  | _, _ => []
theorem zipD_get : ∀ {xs ys : List D} {i : Nat} {e : D}, (zipD xs ys)[i]? = some e → ∃ a b, xs[i]? = some a ∧ ys[i]? = some b ∧ e = .tup [a, b]
  | a :: xs, b :: ys, 0, e, h => ⟨a, b, rfl, rfl, (Option.some.inj h).symm⟩
  | a :: xs, b :: ys, i + 1, e, h => by
    obtain ⟨a', b', h1, h2, h3⟩ := zipD_get (xs := xs) (ys := ys) (i := i) (by simpa [zipD] using h)
    exact ⟨a', b', by simpa using h1, by simpa using h2, h3⟩
  | [], _, _, _, h => by simp [zipD] at h
  | _ :: _, [], _, _, h => by simp [zipD] at h
theorem zipD_len : ∀ {xs ys : List D}, (zipD xs ys).length = min xs.length ys.length
  | a :: xs, b :: ys => by rw [zipD, List.length_cons, zipD_len, List.length_cons, List.length_cons]; omega
  | [], _ => by simp [zipD]
  | _ :: _, [] => by simp [zipD]
/-- zip(a, b), two lists -/
def iZ (ms : MA) : Sl → Res (List D) := fun st => (ms st).bind fun ds st1 => match ds with
  | [d, e] => (match lstItems d, lstItems e with
    | some xs, some ys => if colds xs && colds ys then .ok (zipD xs ys) st1 else .fail
    | _, _ => .fail)
  | _ => .fail
section
variable {ca : Nat → Addr} {K : PySem.W.Frag} {Hf H Hf1 H1 Hf2 H2 : Hp} {S S1 S2 P P1 P2 : Rg} {R R1 R2 : Nat → Rg} {σ : L2.St} {st : Sl} {v : V} {d : D} {vs us : List V} {ds xs ys : List D} {X : Cx} {L : List Nat}
theorem itd_zip {a b : Addr} (h1 : SqL K Hf a vs) (r1 : RepL ca K Hf H Em vs xs) (h2 : SqL K Hf b us) (r2 : RepL ca K Hf H Em us ys) : ItD ca K (Itz K a b) Hf (zipD xs ys) := by
  intro Hf' H' x1 x2 x5
  have x3 : Ex Hf H' := fun a o e => x2 a o (x1 a o e)
  have l1 := r1.length
  have l2 := r2.length
  refine ⟨fun i hi => ?_, ⟨vs, us, sqL_ex x3 h1, sqL_ex x3 h2, ?_⟩, fun i d x H2 e y => ?_⟩
  · rw [zipD_len] at hi
    have i1 : i < vs.length := by omega
    have i2 : i < us.length := by omega
    exact ⟨vs, us, vs[i], us[i], sqL_ex x3 h1, sqL_ex x3 h2, by simp [i1], by simp [i2]⟩
  · rw [zipD_len]
    omega
  · obtain ⟨T, xv, yv, rfl, hT, rfl, y1, y2⟩ := y
    obtain ⟨d1, d2, e1, e2, rfl⟩ := zipD_get e
    obtain ⟨v1, T1, f1, q1, z1⟩ := repL_at r1 e1
    obtain ⟨v2, T2, f2, q2, z2⟩ := repL_at r2 e2
    have g1 := y1 vs (sqL_ex x3 h1)
    have g2 := y2 us (sqL_ex x3 h2)
    rw [f1] at g1
    rw [f2] at g2
    cases g1
    cases g2
    have hT' : Hf' T = none := by
      cases q : Hf' T with
      | none => rfl
      | some o => rw [x2 T o q] at hT; cases hT
    refine ⟨rfl, upd Hf' T (.tup [xv, yv]), fun b o e => upd_keep hT' b o e, fun b o e => upd_keep hT b o e, fun b o e => ?_, fun b o e => ?_, x5.upd2, ?_⟩
    · by_cases q : b = T
      · subst q; rw [upd_same] at e ⊢; exact e
      · rw [upd_ne q] at e ⊢; exact x2 b o e
    · by_cases q : b = T
      · subst q; exact .inr hT
      · rw [upd_ne q] at e; exact .inl e
    · have k1 := (q1.mono z1).keep (Hf' := upd Hf' T (.tup [xv, yv])) (H' := upd H' T (.tup [xv, yv])) (fun b o e => upd_keep hT' b o (x1 b o e)) fun _ q => q.elim
      have k2 := (q2.mono z2).keep (Hf' := upd Hf' T (.tup [xv, yv])) (H' := upd H' T (.tup [xv, yv])) (fun b o e => upd_keep hT' b o (x1 b o e)) fun _ q => q.elim
      exact .tup upd_same (.cons (S1 := Em) (S2 := Em) k1 (RepL.one k2) (fun _ q => q) (fun _ q => q) fun _ q _ => q)
/-- a datum that stands and is a list -/
theorem rep_std {Hf' : Hp} (r : Rep ca K Hf H S v d) (h : lstItems d = some xs) (hc : colds xs = true) (x1 : Ex Hf Hf') (x2 : ∀ b, S b → ∀ o, H b = some o → Hf' b = some o) : ∃ a us, v = .ref a ∧ SqL K Hf' a us ∧ RepL ca K Hf' H Em us xs := by
  cases r with
  | lstF e r => cases h; exact ⟨_, _, rfl, .inl (.inl (x1 _ _ e)), repL_cold (r.keep x1 fun _ _ _ e => e) hc⟩
  | lstO s e r => cases h; exact ⟨_, _, rfl, .inl (.inl (x2 _ s _ e)), repL_cold (r.keep x1 fun _ _ _ e => e) hc⟩
  | scr e => cases h; exact ⟨_, _, rfl, sqL_ex x1 e, repL_mapInt _⟩
  | _ => cases h
theorem ci_zip {a b : Expr} {ms : MA} {p pos tpos : Pos} {elts : List Expr} {kk : Nat} (hg : Gl X "zip") (hm : X.mg "zip" = none) (ha : CL ca X [a, b] ms) (hst : NoStar [a, b] := by exact ⟨fun _ => rfl, fun _ => rfl, trivial⟩) (hpl : (backTo pos (starEach [b] X.env)).any (·.1) = false := by rfl) :
    CI ca X (.Tuple elts kk tpos) (.Call (.Name "zip" p) [a, b] [] pos) (iZip X.K (Wa X [a, b])) (iZ ms) :=
  ⟨pi_zip hg hm (wa_pa X [a, b]) (hst.1 _) hpl, fun Hf H R σ st Q p h => by
    refine wa_wl (fun e' r' q => noStar_suf hst e' r' q _) (ha Hf H R σ st _ p ?_)
    unfold iZ at h
    cases r : ms st with
    | fail => rw [r] at h; exact h
    | exc x st => rw [r] at h; exact h
    | ok ds st1 =>
      rw [r] at h
      intro Hf1 H1 P R1 vs t1 p1
      dsimp only [Res.bind] at h
      match ds, h with
      | [d, e], h =>
        dsimp only at h
        cases e1 : lstItems d with
        | none => rw [e1] at h; exact h.elim
        | some xs =>
          cases e2 : lstItems e with
          | none => rw [e1, e2] at h; exact h.elim
          | some ys =>
            rw [e1, e2] at h
            dsimp only at h
            by_cases hc : (colds xs && colds ys) = true
            · rw [if_pos hc] at h
              rw [Bool.and_eq_true] at hc
              obtain ⟨Hf', x1, x2, p', t'⟩ := p1.standP
              cases p1.pend with
              | cons q1 q2 c1 c2 c3 => cases q2 with
                | cons q3 q4 c4 c5 c6 =>
                  cases q4
                  obtain ⟨a1, u1, rfl, s1, r1⟩ := rep_std q1 e1 hc.1 x1 fun b z => x2 b (c1 b z)
                  obtain ⟨a2, u2, rfl, s2, r2⟩ := rep_std q3 e2 hc.2 x1 fun b z => x2 b (c2 b (c4 b z))
                  exact ⟨a1, a2, u1, u2, rfl, sqL_ex p'.w.ex s1, sqL_ex p'.w.ex s2, h Hf' H1 R1 _ (t1.trans t') p' (itd_zip s1 r1 s2 r2)⟩
            · rw [if_neg hc] at h; exact h.elim⟩
end
end DL

/-! DL38: how a def with a starred parameter binds. -/
namespace DL
open PySem PySem.Spec PyProof.Rows L2
end DL

/-! DL39: tuple * int. -/
namespace DL
open PySem PySem.Spec PyProof.Rows L2
open AutoSeq1 (wpAny_loadPart')
section
variable {X : Cx}
end
section
variable {ca : Nat → Addr} {K : PySem.W.Frag} {Hf H Hf1 H1 : Hp} {S S1 : Rg} {X : Cx} {v : V} {d : D}
end
end DL

/-! DL40: equality of data by what it stands for. -/
namespace DL
open PySem (PyData)
/-- a type whose values stand for data -/
class Py (α : Type) where
  py : α → PyData
  dep : Nat
  lay : ∀ a, (py a).canLay0 = true
  depth : ∀ a, (py a).depth ≤ dep
  eqv : ∀ a b, PyData.eqv (py a) (py b) = true ↔ a = b
theorem layA : ∀ {l : List PyData}, (∀ p ∈ l, p.canLay0 = true) → PyData.canLayAll0 l = true
  | [], _ => by rw [PyData.canLayAll0]
  | a :: l, h => by rw [PyData.canLayAll0, h a List.mem_cons_self, layA fun p hp => h p (List.mem_cons_of_mem _ hp)]; rfl
theorem depA {n : Nat} : ∀ {l : List PyData}, (∀ p ∈ l, p.depth ≤ n) → PyData.depthAll l ≤ n
  | [], _ => by rw [PyData.depthAll]; omega
  | a :: l, h => by
    rw [PyData.depthAll]
    have h1 := h a List.mem_cons_self
    have h2 := depA fun p hp => h p (List.mem_cons_of_mem _ hp)
    omega
theorem eqvA {α : Type} [Py α] : ∀ l k : List α, PyData.eqvAll (l.map Py.py) (k.map Py.py) = true ↔ l = k
  | [], [] => by rw [List.map_nil, PyData.eqvAll]; simp
  | [], b :: k => by rw [List.map_nil, List.map_cons, PyData.eqvAll]; simp
  | a :: l, [] => by rw [List.map_nil, List.map_cons, PyData.eqvAll]; simp
  | a :: l, b :: k => by rw [List.map_cons, List.map_cons, PyData.eqvAll, Bool.and_eq_true, Py.eqv, eqvA l k]; simp
instance : Py Int where
  py := .int
  dep := 0
  lay _ := by rw [PyData.canLay0]
  depth _ := by rw [PyData.depth]; omega
  eqv a b := by rw [PyData.eqv]; simp
instance : Py Bool where
  py := .bool
  dep := 0
  lay _ := by rw [PyData.canLay0]
  depth _ := by rw [PyData.depth]; omega
  eqv a b := by rw [PyData.eqv]; simp
instance {α : Type} [Py α] : Py (List α) where
  py l := .list (l.map Py.py)
  dep := Py.dep α + 1
  lay l := by
    rw [PyData.canLay0]
    exact layA fun p hp => by
      obtain ⟨a, _, rfl⟩ := List.mem_map.mp hp
      exact Py.lay a
  depth l := by
    rw [PyData.depth]
    have := depA (l := l.map Py.py) (n := Py.dep α) fun p hp => by
      obtain ⟨a, _, rfl⟩ := List.mem_map.mp hp
      exact Py.depth a
    omega
  eqv l k := by rw [PyData.eqv]; exact eqvA l k
instance {α β : Type} [Py α] [Py β] : Py (α × β) where
  py x := .tuple [Py.py x.1, Py.py x.2]
  dep := max (Py.dep α) (Py.dep β) + 1
  lay x := by
    rw [PyData.canLay0, PyData.canLayAll0, PyData.canLayAll0, PyData.canLayAll0, Py.lay, Py.lay]
    rfl
  depth x := by
    rw [PyData.depth, PyData.depthAll, PyData.depthAll, PyData.depthAll]
    have h1 := Py.depth x.1
    have h2 := Py.depth x.2
    omega
  eqv x y := by
    rw [PyData.eqv, PyData.eqvAll, PyData.eqvAll, PyData.eqvAll, Bool.and_true, Bool.and_eq_true, Py.eqv, Py.eqv]
    exact ⟨fun h => Prod.ext h.1 h.2, fun h => by rw [h]; exact ⟨rfl, rfl⟩⟩
/-- a tuple of likes -/
structure Tp (α : Type) where
  l : List α
  deriving DecidableEq
instance {α : Type} [Py α] : Py (Tp α) where
  py x := .tuple (x.l.map Py.py)
  dep := Py.dep α + 1
  lay x := by
    rw [PyData.canLay0]
    exact layA fun p hp => by
      obtain ⟨a, _, rfl⟩ := List.mem_map.mp hp
      exact Py.lay a
  depth x := by
    rw [PyData.depth]
    have := depA (l := x.l.map Py.py) (n := Py.dep α) fun p hp => by
      obtain ⟨a, _, rfl⟩ := List.mem_map.mp hp
      exact Py.depth a
    omega
  eqv x y := by
    rw [PyData.eqv, eqvA]
    obtain ⟨a⟩ := x
    obtain ⟨b⟩ := y
    simp
theorem py_shaped {α : Type} [Py α] (hd : Py.dep α ≤ 64) (a : α) : PySem.SeqAt.shaped (Py.py a) = true := by
  unfold PySem.SeqAt.shaped
  rw [Py.lay, decide_eq_true (Nat.le_trans (Py.depth a) hd)]
  rfl
theorem py_eqv {α : Type} [Py α] [DecidableEq α] (a b : α) : PyData.eqv (Py.py a) (Py.py b) = decide (a = b) := by
  by_cases h : a = b
  · rw [decide_eq_true h, Py.eqv]; exact h
  · rw [decide_eq_false h]
    exact Bool.eq_false_iff.mpr fun q => h ((Py.eqv a b).mp q)
theorem pE {α : Type} [Py α] [DecidableEq α] {x y : D} {a b : α} (hx : toPy x = Py.py a) (hy : toPy y = Py.py b) (hd : Py.dep α ≤ 64 := by decide) : f2 pEq [x, y] = some (.val (.bl (decide (a = b)))) := by
  refine eq_of ?_
  unfold pEq
  rw [hx, hy, py_shaped hd, py_shaped hd, py_eqv]
  rfl
theorem toPyL_map : ∀ (ds : List D), toPyL ds = ds.map toPy
  | [] => by rw [toPyL]; rfl
  | d :: ds => by rw [toPyL, toPyL_map ds]; rfl
theorem py_int {i : Int} : toPy (.int i) = Py.py i := by rw [toPy]; rfl
/-- a list of encodings -/
theorem py_lst {α : Type} [Py α] {o : Bool} {enc : α → D} (h : ∀ a, toPy (enc a) = Py.py a) (l : List α) : toPy (.lst o (l.map enc)) = Py.py l := by
  rw [toPy, toPyL_map, List.map_map]
  exact congrArg PyData.list (List.map_congr_left fun a _ => h a)
theorem py_nums {o : Bool} (l : List Int) : toPy (.lst o (nums l)) = Py.py l := py_lst (fun _ => py_int) l
theorem py_rows {o p : Bool} (l : List (List Int)) : toPy (.lst o (l.map fun r => D.lst p (nums r))) = Py.py l := py_lst (fun a => py_nums a) l
/-! walks of a list or a tuple -/
section
open PySem L2 PyProof.Rows
def iOr (a b : TI) : TI := fun σ H R => a σ H R ∨ b σ H R
theorem pi_or {X : Cx} {tg e : Expr} {a b : TI} (h1 : PI X tg e a) (h2 : PI X tg e b) : PI X tg e (iOr a b) :=
  ⟨fun pins s σ H R I h => h.elim (h1.run pins s σ H R I) (h2.run pins s σ H R I)⟩
/-- enumerate of a list or a tuple -/
def iEnA (m : ME) : Sl → Res (List D) := fun st => match m st with
  | .ok (.tup _) _ => iEnT m st
  | _ => iEn m st
/-- a list or a tuple -/
def iEA (m : ME) : Sl → Res (List D) := fun st => match m st with
  | .ok (.tup _) _ => iE m tupItems st
  | _ => iE m lstItems st
variable {ca : Nat → Addr} {X : Cx}
theorem ci_or {tg e : Expr} {a b : TI} {A B C : Sl → Res (List D)} (h1 : CI ca X tg e a A) (h2 : CI ca X tg e b B) (hc : ∀ st, C st = A st ∨ C st = B st) : CI ca X tg e (iOr a b) C :=
  ⟨pi_or h1.1 h2.1, fun Hf H R σ st Q p h => by
    rcases hc st with q | q
    · exact .inl (h1.2 Hf H R σ st Q p (q ▸ h))
    · exact .inr (h2.2 Hf H R σ st Q p (q ▸ h))⟩
theorem iEnA_or (m : ME) (st : Sl) : iEnA m st = iEn m st ∨ iEnA m st = iEnT m st := by
  unfold iEnA
  split
  · exact .inr rfl
  · exact .inl rfl
theorem iEA_or (m : ME) (st : Sl) : iEA m st = iE m lstItems st ∨ iEA m st = iE m tupItems st := by
  unfold iEA
  split
  · exact .inr rfl
  · exact .inl rfl
theorem wEL {m : ME} {st st1 : Sl} {o : Bool} {ds : List D} (h : m st = .ok (.lst o ds) st1) (hc : colds ds = true) : iEA m st = .ok ds st1 := by
  unfold iEA
  rw [h]
  exact wE h rfl hc
end
end DL

/-! DL41: method calls, starred calls, short loops evaluated; lists of lists; steps far apart. -/
namespace DL
open PySem (Str)
theorem xMth {C : Nat} {nm : Str} {f : MF} {m0 : ME} {ms : MA} {st st1 st2 : Sl} {d0 d : D} {ds : List D} {ps : Sl} (h0 : m0 st = .ok d0 st1) (hi : insOf C nm d0 = true) (h : ms st1 = .ok ds st2) (hf : f (d0 :: ds) = .ok d ps) : eMth C nm f m0 ms st = .ok d st2 := by
  unfold eMth
  rw [h0]
  show (if insOf C nm d0 = true then _ else _) = _
  rw [if_pos hi, h]
  show (match f (d0 :: ds) with | .ok d _ => Res.ok d st2 | .exc x _ => .exc x st2 | .fail => .fail) = _
  rw [hf]
theorem forD_cons {g : MG} {body : MS} {d : D} {ds : List D} {st st1 st2 : Sl} {r : SR} (h1 : g d st = .ok () st1) (h2 : body st1 = .next st2) (h3 : forD g body ds st2 = r) : forD g body (d :: ds) st = r := by
  rw [forD, h1]
  show (match body st1 with | .next st2 => _ | .cont st2 => _ | .brk st2 => _ | r => r) = _
  rw [h2]
  exact h3
theorem repr_bl (b : Bool) : oRepr [.bl b] = some (.val (.str (if b then "True" else "False"))) := by cases b <;> rfl
end DL
namespace Nw
open DL
/-- steps far apart -/
theorem far1 {l : List Int} {s t : Int} (h1 : 1 ≤ s) (h2 : s + 2 ≤ t) (h3 : t < l.length) : stp (stp l s) t = stp (stp l t) s := by
  have a := sN_comm (l := l) (i := (s - 1).toNat) (j := (t - 1).toNat) (by omega) (by omega) (by omega)
  unfold sN at a
  rw [show (((s - 1).toNat : Nat) : Int) + 1 = s by omega, show (((t - 1).toNat : Nat) : Int) + 1 = t by omega] at a
  exact a
theorem far2 : ∀ (a : List Int) {t : Int} (l : List Int), (∀ s ∈ a, 1 ≤ s ∧ s + 2 ≤ t) → t < l.length → runL a (stp l t) = stp (runL a l) t
  | [], _, _, _, _ => rfl
  | s :: a, t, l, h, ht => by
    show runL a (stp (stp l t) s) = stp (runL a (stp l s)) t
    obtain ⟨h1, h2⟩ := h s List.mem_cons_self
    rw [← far1 h1 h2 ht]
    exact far2 a (stp l s) (fun x hx => h x (List.mem_cons_of_mem _ hx)) (by rw [stp_len]; exact ht)
theorem far : ∀ (b a l : List Int), (∀ s ∈ a, ∀ t ∈ b, 1 ≤ s ∧ s + 2 ≤ t) → (∀ t ∈ b, t < l.length) → runL a (runL b l) = runL b (runL a l)
  | [], _, _, _, _ => rfl
  | t :: b, a, l, h, hl => by
    show runL a (runL b (stp l t)) = runL b (stp (runL a l) t)
    rw [far b a (stp l t) (fun s hs x hx => h s hs x (List.mem_cons_of_mem _ hx)) (fun x hx => by rw [stp_len]; exact hl x (List.mem_cons_of_mem _ hx)), far2 a l (fun s hs => h s hs t List.mem_cons_self) (hl t List.mem_cons_self)]
end Nw

/-! DL42: xs.extend(tuple). -/
namespace DL
open PySem PySem.Spec PyProof.Rows L2
open AutoSeq1 (wpAny_loadPart')
def ext2T : Option D → D → Option (List D)
  | some (.lst true xs), .tup ys => if colds ys && decide (xs.length + ys.length ≤ 16777216) then some (xs ++ ys) else none
  | _, _ => none
/-- xs.extend(tuple) -/
def eExtT (i : Nat) (m : ME) : ME := fun st => match getS st i with
  | some d0 => if isLst d0 then (m st).bind fun d st1 => (match ext2T (getS st1 i) d with
    | some zs => .ok .non (st1.set i (some (.lst true zs)))
    | none => .fail) else .fail
  | none => .fail
section
variable {ca : Nat → Addr} {K : PySem.W.Frag} {Hf H Hf1 H1 Hf2 H2 : Hp} {S S1 S2 P P1 P2 : Rg} {R R1 R2 : Nat → Rg} {σ : L2.St} {st : Sl} {X : Cx}
end
theorem xExtT {i : Nat} {m : ME} {st st1 st' : Sl} {a : D} {xs ys : List Int} (h0 : getS st i = some a) (hl : isLst a = true) (h : m st = .ok (.tup (nums ys)) st1) (h2 : getS st1 i = some (.lst true (nums xs))) (hn : xs.length + ys.length ≤ 16777216) (hs : st1.set i (some (.lst true (nums (xs ++ ys)))) = st') : eExtT i m st = .ok .non st' := by
  unfold eExtT
  rw [h0]
  dsimp only
  rw [if_pos hl, h]
  dsimp only [Res.bind]
  rw [h2]
  have e : ext2T (some (.lst true (nums xs))) (.tup (nums ys)) = some (nums (xs ++ ys)) := by
    unfold ext2T
    dsimp only
    rw [nums_colds, nums_len, nums_len, decide_eq_true hn, nums_app]
    rfl
  rw [e, ← hs]
end DL

/-! DL43: enumerate(list, k). -/
namespace DL
open PySem L2 PyProof.Rows
open Sem (wp)
/-- the list at a, each item in a new pair with its number from k on -/
def IteK (K : PySem.W.Frag) (k : Nat) (a : Addr) : It where
  go := fun i H => ∃ ys y, SqL K H a ys ∧ ys[i]? = some y
  yld := fun i H v H' => ∃ T x, v = .ref T ∧ H T = none ∧ H' = upd H T (.tup [.int ((k + i : Nat) : Int), x]) ∧ ∀ ys, SqL K H a ys → ys[i]? = some x
  stop := fun i H => ∃ ys : List V, SqL K H a ys ∧ ys.length ≤ i
structure EkAt (k : Nat) (a e it : Addr) (i : Nat) (h : Heap) : Prop where
  en : ∃ old, IsEnum h e it ((k + i : Nat) : Int) old
  iter : h.IsListIter it a i
  n1 : e ≠ it
  n2 : e ≠ a
  n3 : a ≠ it
section
variable {pr : Program} {wo : World} {Ar : Around} {Ex' : Value → Shared → Prop} {st : Shared}
theorem ek_end {e it t : Addr} {i : Nat} {c : Int} {xs : Array Value} {old : Value} {Q : Option Value → Shared → Prop} (hh : Ar.handled = none) (he : IsEnum st.heap e it c old) (hi : st.heap.IsListIter it t i)
    (ht : st.heap.IsList t xs) (hx : xs[i]? = none) (hq : ∀ h', Heap.ExtBut it st.heap h' → Q none { st with heap := h' }) : wpAny (model pr wo) Ar (pyNext (.ref e)) Q Ex' st := by
  have ty : st.TypeIs (.ref e) "enumerate" := ⟨_, he, rfl⟩
  unfold pyNext
  refine wpAny_bind (wpAny_attempt
      ?_)
  refine wpAny_callSpecial?_slot (name := Str.ofString "__next__") ty F.slot_enumerate_next ?_
  refine wpAny_call_entry F.slot_enumerate_next ty F.entry_enumerate_next ?_ (F.args_enumerate_next_1 _)
  refine wpAny_bind (m := field (.ref e) 2) ?_
  refine wpAny_field he rfl (x := .ref it) rfl (wpAny_bind ?_)
  refine wpAny_nextOf_list_end hh hi ht hx fun h' x ext ⟨o, ho, hc⟩ => ?_
  refine wpAny_bind ?_
  exact wpAny_isInstance (T := "StopIteration") (b := true)
    ⟨o, ho, hc⟩ isSubtype_stop (wpAny_pure (hq _ ext))
end
theorem turn_enumK {P : Program} {w : World} {K : PySem.W.Frag} {elts : List Expr} {kk : Nat} {tpos : Pos} (k : Nat) (a e it : Addr) : Turn P w K (.Tuple elts kk tpos) (IteK K k a) [e, it] e (EkAt k a e it) where
  mem := List.mem_cons_self
  obj := by
    intro i h z b hb
    obtain ⟨old, he⟩ := z.en
    obtain ⟨o, ho, _, hd⟩ := z.iter
    rcases two_mem hb with rfl | rfl
    · exact ⟨_, he, fun _ q => nomatch q⟩
    · refine ⟨o, ho, fun v q => ?_⟩
      rw [hd] at q
      cases q
  keep := by
    intro i h h' z kp
    obtain ⟨old, he⟩ := z.en
    exact ⟨⟨old, kp e (List.mem_cons_self) _ he⟩, z.iter.at fun o q => kp it (by simp) o q, z.n1, z.n2, z.n3⟩
  item := by
    intro X e1 e2 e3 calm i pins s σ H E I fresh z go
    subst e1 e2 e3
    obtain ⟨old, he⟩ := z.en
    obtain ⟨ys, y, hq, hy⟩ := go
    obtain ⟨us, rel, isL, _⟩ := I.list hq
    obtain ⟨u, hu, ru⟩ := rel.get hy
    have isL' : s.heap.IsList a us.toArray := isL.isList
    have below : ∀ b ∈ [e, it], b < s.heap.objs.size := fun b hb => by
      rcases two_mem hb with rfl | rfl
      · exact Heap.lt_size he
      · obtain ⟨_, q, _⟩ := z.iter
        exact Heap.lt_size q
    have ilt : i < us.toArray.size := by simpa using (List.getElem?_eq_some_iff.mp hu).1
    have draws := Draws.list (prog := X.prog) (w := X.w) (A := X.A.in1) (I.ok.hd calm) it a z.n3 us.toArray
    refine wpAny_pyNext_enum_itemC draws he ⟨z.iter, isL'⟩ ilt z.n1 (by simp [z.n1, z.n2]) fun xv h1 tk at_i out st1 newT size kept => ?_
    obtain rfl : u = xv := by
      have q : us.toArray[i]? = some u := by simpa using hu
      exact Option.some.inj (q.symm.trans at_i)
    refine ⟨_, rfl, ?_⟩
    refine wpAny_letOwnedTupleGo_enum (s := { s with heap := h1, toks := tk + 1 }) out fun h2 en2 same => ?_
    have eN : s.heap.objs.size ≠ e := Nat.ne_of_gt (below e List.mem_cons_self)
    have T2 : h2.get? s.heap.objs.size = some { cls := .type "tuple", data := .seq #[.int ((k + i : Nat) : Int) tk, u] } := (same.2 _ eN).trans newT
    have pair : Vals [V.int ((k + i : Nat) : Int), y] [.int ((k + i : Nat) : Int) tk, u] := .cons ⟨_, rfl⟩ (.cons ru .nil)
    have ok : ObjOk X.prog X.w (upd H s.heap.objs.size (.tup [.int ((k + i : Nat) : Int), y])) h2 s.heap.objs.size
        (.tup [.int ((k + i : Nat) : Int), y]) := ⟨show 2 ≤ sizeLine from by decide, _, pair, ⟨_, T2, rfl, _, rfl⟩⟩
    have stays : ∀ b o, b ∉ [e, it] → s.heap.get? b = some o → h2.get? b = some o := fun b o nb q => by
      have b1 : b ≠ e := fun h => nb (by simp [h])
      have b2 : b ≠ it := fun h => nb (by simp [h])
      exact (same.2 b b1).trans (kept b o b1 b2 q)
    have J := I.turnedNew (t' := tk + 1) (ch := [e, it]) stays fresh (Nat.le_refl _) ok
    refine ⟨.ref s.heap.objs.size, _, J, rfl, ⟨_, y, rfl, I.hok.fresh (Nat.le_refl _), rfl, ?_⟩, ⟨⟨u, ?_⟩, ?_, z.n1, z.n2, z.n3⟩, ?_⟩
    · intro ws hws
      rw [I.list_inj hws hq]
      exact hy
    · rw [show ((k + (i + 1) : Nat) : Int) = ((k + i : Nat) : Int) + 1 by omega]
      exact en2
    · exact st1.1.at fun o q => (same.2 it z.n1.symm).trans q
    · intro b hb
      rw [upd_ne (Nat.ne_of_lt (below b hb))]
      exact (fresh b hb).1
  done := by
    intro X e1 e2 e3 calm i pins s σ H E I fresh z stop
    subst e1 e2 e3
    obtain ⟨old, he⟩ := z.en
    obtain ⟨ys, hq, le⟩ := stop
    obtain ⟨us, rel, isL, _⟩ := I.list hq
    have isL' : s.heap.IsList a us.toArray := isL.isList
    have len := rel.length
    have none_at : us.toArray[i]? = none := by
      simp
      omega
    have ft := fresh it (by simp)
    refine ek_end (I.ok.hd calm) he z.iter isL' none_at fun h' ext => ⟨rfl, ?_⟩
    exact I.turned (t' := s.toks) (fun b o nb q => ext b o nb q) ft.1 ft.2.1 ft.2.2.2.1 ft.2.2.2.2.1 ft.2.2.2.2.2
  self := by
    intro A i s Q E z h
    obtain ⟨_, he⟩ := z.en
    exact wpAny_pyIter_enum he h
def iEnumK (K : PySem.W.Frag) (ta : TA) : TI := fun σ H R => ta σ H fun vs H1 => ∃ (a : Addr) (ys : List V) (k : Nat), vs = [.ref a, .int (k : Int)] ∧ k < 1000000 ∧ SqL K H1 a ys ∧ R (IteK K k a) H1
theorem pi_enumK {X : Cx} {e e2 : Expr} {ta : TA} {p pos tpos : Pos} {elts : List Expr} {kk : Nat} (hg : Gl X "enumerate") (hm : X.mg "enumerate" = none) (ha : PA X [e, e2] ta)
    (hs : starEach [e, e2] X.env = (false, eval e X.env) :: starEach [e2] X.env := by rfl) (hpl : (backTo pos (starEach [e2] X.env)).any (·.1) = false := by rfl) :
    PI X (.Tuple elts kk tpos) (.Call (.Name "enumerate" p) [e, e2] [] pos) (iEnumK X.K ta) := by
  constructor
  intro pins s σ H R I h
  refine Call_ (ld_blt I hg hm boot_enumerate ?_)
  refine PyProof.Rows.callWith_type1 (thn (ha.run pos pins s σ H _ I h) ?_) hs hpl
  rintro us s1 ⟨vs, H1, I1, rel, a, ys, k, rfl, hk, hq, goal⟩
  cases rel with
  | cons r rr => cases rr with
    | cons r' rr =>
      cases rr
      cases r
      obtain ⟨t, rfl⟩ := r'
      obtain ⟨its, _, isL, _⟩ := I1.list hq
      have isL' : s1.heap.IsList a its.toArray := isL.isList
      have alt : a < s1.heap.objs.size := by
        obtain ⟨o, ho, _⟩ := isL'
        exact Heap.lt_size ho
      refine enum_begins (begins_list a its.toArray) isL' (by omega) (by omega) fun h' en itr hsz grown => wpAny_pyIter_enum en ?_
      have I2 := I1.kept (t' := s1.toks) grown
      refine ⟨s1.heap.objs.size + 1, [s1.heap.objs.size + 1, s1.heap.objs.size], _, _, H1, rfl, I2, turn_enumK k a (s1.heap.objs.size + 1) s1.heap.objs.size,
        ⟨⟨.none, en⟩, ⟨_, itr, rfl, rfl⟩, Nat.succ_ne_self _, Nat.ne_of_gt (Nat.lt_succ_of_lt alt), Nat.ne_of_lt alt⟩, ?_, goal⟩
      intro b hb
      have up : s1.heap.objs.size ≤ b := by
        rcases two_mem hb with rfl | rfl
        · exact Nat.le_succ _
        · exact Nat.le_refl _
      exact I1.fpOk up (I1.hok.fresh up)
section
variable {ca : Nat → Addr} {K : PySem.W.Frag} {Hf H : Hp} {vs : List V} {ds : List D} {X : Cx}
theorem itd_enumK {k : Nat} {a : Addr} (h : SqL K Hf a vs) (r : RepL ca K Hf H Em vs ds) : ItD ca K (IteK K k a) Hf (enumD k ds) := by
  intro Hf' H' x1 x2 x5
  have x3 : Ex Hf H' := fun a o e => x2 a o (x1 a o e)
  refine ⟨fun i hi => ?_, ⟨vs, sqL_ex x3 h, by rw [r.length, enumD_length]; exact Nat.le_refl _⟩, fun i d x H2 e y => ?_⟩
  · have : i < vs.length := by rw [r.length]; rw [enumD_length] at hi; exact hi
    exact ⟨vs, vs[i], sqL_ex x3 h, by simp [this]⟩
  · obtain ⟨T, xv, rfl, hT, rfl, y⟩ := y
    obtain ⟨d', e1, rfl⟩ := enumD_get e
    obtain ⟨v', T', e2, r2, z⟩ := repL_at r e1
    have := y vs (sqL_ex x3 h)
    rw [e2] at this
    have e3 : v' = xv := Option.some.inj this
    subst e3
    have hT' : Hf' T = none := by
      cases q : Hf' T with
      | none => rfl
      | some o => rw [x2 T o q] at hT; cases hT
    refine ⟨rfl, upd Hf' T (.tup [.int ((k + i : Nat) : Int), v']), fun b o e => upd_keep hT' b o e, fun b o e => upd_keep hT b o e, fun b o e => ?_, fun b o e => ?_, x5.upd2, ?_⟩
    · by_cases q : b = T
      · subst q; rw [upd_same] at e ⊢; exact e
      · rw [upd_ne q] at e ⊢; exact x2 b o e
    · by_cases q : b = T
      · subst q; exact .inr hT
      · rw [upd_ne q] at e; exact .inl e
    · have k2 := (r2.mono z).keep (Hf' := upd Hf' T (.tup [.int ((k + i : Nat) : Int), v'])) (H' := upd H' T (.tup [.int ((k + i : Nat) : Int), v'])) (fun b o e => upd_keep hT' b o (x1 b o e)) fun _ q => q.elim
      exact .tup upd_same (.cons (S1 := Em) (S2 := Em) .int (RepL.one k2) (fun _ q => q) (fun _ q => q) fun _ q _ => q)
/-- enumerate(list, k) -/
def iEnK (ms : MA) : Sl → Res (List D) := fun st => (ms st).bind fun ds st1 => match ds with
  | [d, .int k] => (match lstItems d with
    | some xs => if colds xs = true ∧ 0 ≤ k ∧ k < 1000000 then .ok (enumD k.toNat xs) st1 else .fail
    | none => .fail)
  | _ => .fail
theorem ci_enumK {a b : Expr} {ms : MA} {p pos tpos : Pos} {elts : List Expr} {kk : Nat} (hg : Gl X "enumerate") (hm : X.mg "enumerate" = none) (ha : CL ca X [a, b] ms) (hst : NoStar [a, b] := by exact ⟨fun _ => rfl, fun _ => rfl, trivial⟩) (hpl : (backTo pos (starEach [b] X.env)).any (·.1) = false := by rfl) :
    CI ca X (.Tuple elts kk tpos) (.Call (.Name "enumerate" p) [a, b] [] pos) (iEnumK X.K (Wa X [a, b])) (iEnK ms) :=
  ⟨pi_enumK hg hm (wa_pa X [a, b]) (hst.1 _) hpl, fun Hf H R σ st Q p h => by
    refine wa_wl (fun e' r' q => noStar_suf hst e' r' q _) (ha Hf H R σ st _ p ?_)
    unfold iEnK at h
    cases r : ms st with
    | fail => rw [r] at h; exact h
    | exc x st => rw [r] at h; exact h
    | ok ds st1 =>
      rw [r] at h
      intro Hf1 H1 P R1 vs t1 p1
      dsimp only [Res.bind] at h
      match ds, h with
      | [d, .int k], h =>
        dsimp only at h
        cases e1 : lstItems d with
        | none => rw [e1] at h; exact h.elim
        | some xs =>
          rw [e1] at h
          dsimp only at h
          by_cases hc : colds xs = true ∧ 0 ≤ k ∧ k < 1000000
          · rw [if_pos hc] at h
            obtain ⟨Hf', x1, x2, p', t'⟩ := p1.standP
            cases p1.pend with
            | cons q1 q2 c1 c2 c3 => cases q2 with
              | cons q3 q4 c4 c5 c6 =>
                cases q4
                obtain ⟨a1, u1, rfl, s1, r1⟩ := rep_std q1 e1 hc.1 x1 fun b z => x2 b (c1 b z)
                obtain ⟨n, hn⟩ : ∃ n : Nat, k = (n : Int) := ⟨k.toNat, by omega⟩
                subst hn
                rw [Int.toNat_natCast] at h
                exact ⟨a1, u1, n, by rw [rep_int q3], by omega, sqL_ex p'.w.ex s1, h Hf' H1 R1 _ (t1.trans t') p' (itd_enumK s1 r1)⟩
          · rw [if_neg hc] at h; exact h.elim⟩
end
theorem wEnK {ms : MA} {st st1 : Sl} {o : Bool} {ds : List D} {k : Nat} (h : ms st = .ok [.lst o ds, .int (k : Int)] st1) (hc : colds ds = true) (hk : k < 1000000) : iEnK ms st = .ok (enumD k ds) st1 := by
  unfold iEnK
  rw [h]
  show (if colds ds = true ∧ 0 ≤ ((k : Nat) : Int) ∧ ((k : Nat) : Int) < 1000000 then Res.ok (enumD ((k : Nat) : Int).toNat ds) st1 else .fail) = _
  rw [if_pos ⟨hc, by omega, by omega⟩, Int.toNat_natCast]
theorem wZ {ms : MA} {st st1 : Sl} {o p : Bool} {ds es : List D} (h : ms st = .ok [.lst o ds, .lst p es] st1) (hc : colds ds = true) (hc2 : colds es = true) : iZ ms st = .ok (zipD ds es) st1 := by
  unfold iZ
  rw [h]
  show (if (colds ds && colds es) = true then _ else _) = _
  rw [hc, hc2]
  rfl
end DL

/-! DL44: how many small numbers stand in front; one list in front of another; steps left out. -/
namespace Nw
/-- how many of the first p numbers are at most t -/
def cp (t : Int) (l : List Int) (p : Nat) : Nat := ((l.take p).filter fun x => decide (x ≤ t)).length
def sm (t x : Int) : Nat := if x ≤ t then 1 else 0
theorem cp_nil (t : Int) (p : Nat) : cp t [] p = 0 := by unfold cp; rw [List.take_nil]; rfl
theorem cp_0 (t : Int) (l : List Int) : cp t l 0 = 0 := rfl
theorem cp_cons (t x : Int) (l : List Int) (p : Nat) : cp t (x :: l) (p + 1) = sm t x + cp t l p := by
  unfold cp sm
  rw [List.take_succ_cons]
  by_cases h : x ≤ t
  · rw [List.filter_cons_of_pos (by simpa using h), if_pos h, List.length_cons]; omega
  · rw [List.filter_cons_of_neg (by simpa using h), if_neg h]; omega
theorem cp_app (t : Int) : ∀ (a b : List Int) (p : Nat), cp t (a ++ b) (a.length + p) = cp t a a.length + cp t b p
  | [], b, p => by rw [List.nil_append, List.length_nil, Nat.zero_add, cp_0, Nat.zero_add]
  | x :: a, b, p => by
    rw [List.cons_append, List.length_cons, show a.length + 1 + p = (a.length + p) + 1 by omega, cp_cons, cp_app t a b p, cp_cons]
    omega
theorem cp_low (t : Int) : ∀ (a b : List Int) (p : Nat), p ≤ a.length → cp t (a ++ b) p = cp t a p
  | _, _, 0, _ => rfl
  | [], _, p + 1, h => by simp at h
  | x :: a, b, p + 1, h => by
    rw [List.cons_append, cp_cons, cp_cons, cp_low t a b p (by simpa using h)]
/-- the counts around a pair -/
theorem cp_mid (t : Int) (a r : List Int) (x y : Int) (p : Nat) : cp t (a ++ x :: y :: r) p =
    if p ≤ a.length then cp t a p else if p = a.length + 1 then cp t a a.length + sm t x else cp t a a.length + sm t x + sm t y + cp t r (p - a.length - 2) := by
  by_cases h : p ≤ a.length
  · rw [if_pos h, cp_low t _ _ _ h]
  · rw [if_neg h]
    by_cases h2 : p = a.length + 1
    · rw [if_pos h2, h2, cp_app, show (1 : Nat) = 0 + 1 from rfl, cp_cons, cp_0]; omega
    · rw [if_neg h2]
      obtain ⟨k, rfl⟩ : ∃ k, p = a.length + (k + 1 + 1) := ⟨p - a.length - 2, by omega⟩
      rw [cp_app, cp_cons, cp_cons, show a.length + (k + 1 + 1) - a.length - 2 = k by omega]
      omega
theorem sm_le (t x : Int) : sm t x ≤ 1 := by unfold sm; split <;> omega
theorem sm_min (t x y : Int) : sm t (min x y) = min (sm t x + sm t y) 1 := by
  unfold sm
  by_cases h1 : x ≤ t <;> by_cases h2 : y ≤ t <;> simp [h1, h2] <;> omega
theorem sm_max (t x y : Int) : sm t (max x y) = sm t x + sm t y - 1 := by
  unfold sm
  by_cases h1 : x ≤ t <;> by_cases h2 : y ≤ t <;> simp [h1, h2] <;> omega
/-- a list splits at a step -/
theorem at_step {l : List Int} {s : Int} (h1 : 1 ≤ s) (h2 : s < l.length) : ∃ a x y r, l = a ++ x :: y :: r ∧ a.length + 1 = s.toNat ∧ hit l s = decide (y < x) ∧ xch l s = a ++ y :: x :: r := by
  obtain ⟨a, r, e, ha⟩ := split2 (l := l) (i := (s - 1).toNat) (by omega)
  refine ⟨a, _, _, r, e, by omega, ?_, ?_⟩
  · unfold hit
    rw [show (s - 1).toNat + 1 = s.toNat by omega]
  · have := xch_split (p := a) (r := r) (a := l.getD (s - 1).toNat 0) (b := l.getD ((s - 1).toNat + 1) 0) h1 (by omega)
    rw [← e] at this
    exact this
theorem stp_eq {l : List Int} {s : Int} (h1 : 1 ≤ s) (h2 : s < l.length) : ∃ a x y r, l = a ++ x :: y :: r ∧ a.length + 1 = s.toNat ∧ stp l s = a ++ min x y :: max x y :: r := by
  obtain ⟨a, x, y, r, e, ha, hh, hx⟩ := at_step h1 h2
  refine ⟨a, x, y, r, e, ha, ?_⟩
  unfold stp
  by_cases h : y < x
  · rw [hh, decide_eq_true h, if_pos rfl, hx, Int.min_eq_right (by omega), Int.max_eq_left (by omega)]
  · rw [hh, decide_eq_false h, if_neg (by decide), e, Int.min_eq_left (by omega), Int.max_eq_right (by omega)]
/-- what a step does to the counts -/
theorem cp_stp {l : List Int} {s : Int} (h1 : 1 ≤ s) (h2 : s < l.length) (t : Int) (p : Nat) :
    cp t (stp l s) p = if p = s.toNat then min (cp t l (s.toNat + 1)) (cp t l (s.toNat - 1) + 1) else cp t l p := by
  obtain ⟨a, x, y, r, e, ha, hs⟩ := stp_eq h1 h2
  rw [hs, e, ← ha]
  have m1 := sm_min t x y
  have m2 := sm_max t x y
  have m3 := sm_le t x
  have m4 := sm_le t y
  simp only [cp_mid, Nat.add_sub_cancel, Nat.le_refl, if_true]
  rw [if_neg (show ¬ a.length + 1 + 1 ≤ a.length by omega), if_neg (show ¬ a.length + 1 + 1 = a.length + 1 by omega), show a.length + 1 + 1 - a.length - 2 = 0 by omega, cp_0]
  by_cases c1 : p ≤ a.length
  · rw [if_pos c1, if_neg (by omega), if_pos c1]
  · rw [if_neg c1]
    by_cases c2 : p = a.length + 1
    · rw [if_pos c2, if_pos c2]; omega
    · rw [if_neg c2, if_neg c2, if_neg c1, if_neg c2]; omega
/-- l holds at every place at least as many small numbers in front as m -/
def dom (l m : List Int) : Prop := ∀ t p, cp t m p ≤ cp t l p
theorem dom_refl (l : List Int) : dom l l := fun _ _ => Nat.le_refl _
theorem dom_trans {l m k : List Int} (h1 : dom l m) (h2 : dom m k) : dom l k := fun t p => Nat.le_trans (h2 t p) (h1 t p)
theorem dom_stp {l m : List Int} {s : Int} (h1 : 1 ≤ s) (h2 : s < l.length) (h3 : s < m.length) (h : dom l m) : dom (stp l s) (stp m s) := fun t p => by
  rw [cp_stp h1 h2, cp_stp h1 h3]
  split
  · have a := h t (s.toNat + 1)
    have b := h t (s.toNat - 1)
    omega
  · exact h t p
theorem cp_mono (t : Int) (l : List Int) (p : Nat) : cp t l p ≤ cp t l (p + 1) ∧ cp t l (p + 1) ≤ cp t l p + 1 := by
  induction l generalizing p with
  | nil => rw [cp_nil, cp_nil]; omega
  | cons x l ih =>
    cases p with
    | zero => rw [cp_0, cp_cons, cp_0]; have := sm_le t x; omega
    | succ p => rw [cp_cons, cp_cons]; have := ih p; omega
theorem dom_run : ∀ (ss : List Int) {l m : List Int}, okS l.length ss → l.length = m.length → dom l m → dom (runL ss l) (runL ss m)
  | [], _, _, _, _, h => h
  | s :: ss, l, m, hs, hl, h => by
    have a := hs s List.mem_cons_self
    exact dom_run ss (l := stp l s) (m := stp m s) (by rw [stp_len]; exact fun x hx => hs x (List.mem_cons_of_mem _ hx)) (by rw [stp_len, stp_len, hl]) (dom_stp a.1 (by omega) (by omega) h)
theorem dom_base : ∀ (w : Nat) (m : List Int), List.Perm m (desc w) → dom (desc w) m → m = desc w
  | 0, m, hp, _ => List.Perm.eq_nil hp
  | w + 1, [], hp, _ => by have := hp.length_eq; simp [desc_len] at this
  | w + 1, x :: m, hp, h => by
    have h1 := h w 1
    rw [desc, show (1 : Nat) = 0 + 1 from rfl, cp_cons, cp_cons, cp_0, cp_0] at h1
    have hx : ¬ x ≤ (w : Int) := fun q => by
      unfold sm at h1
      rw [if_pos q, if_neg (by omega)] at h1
      omega
    have hm : x ∈ desc (w + 1) := hp.subset List.mem_cons_self
    have hxe : x = ((w + 1 : Nat) : Int) := by
      have := (desc_mem (w + 1) x hm).2
      omega
    subst hxe
    have hp' : List.Perm m (desc w) := by rw [desc] at hp; exact (List.perm_cons _).mp hp
    rw [desc, dom_base w m hp' fun t p => by
      have := h t (p + 1)
      rw [desc, cp_cons, cp_cons] at this
      omega]
where
  desc_mem : ∀ (n : Nat) (x : Int), x ∈ desc n → 1 ≤ x ∧ x ≤ (n : Int)
  | 0, x, h => by cases h
  | n + 1, x, h => by
    rw [desc] at h
    rcases List.mem_cons.mp h with rfl | h
    · omega
    · have := desc_mem n x h
      omega
theorem xch_perm {a r : List Int} (x y : Int) : List.Perm (a ++ y :: x :: r) (a ++ x :: y :: r) := List.Perm.append_left a (List.Perm.swap x y r)
end Nw

/-! DL45: loops that look for something and return at once. -/
namespace DL
theorem rangeD_mem {a : Int} {n : Nat} {d : D} (h : d ∈ rangeD a n) : ∃ i : Nat, i < n ∧ d = .int (a + i) := by
  obtain ⟨i, e⟩ := List.getElem?_of_mem h
  obtain ⟨h1, h2⟩ := rangeD_get e
  exact ⟨i, h1, h2⟩
theorem wR2 {a b : ME} {st st1 st2 : Sl} {i j : Int} {n : Nat} (h1 : a st = .ok (.int i) st1) (h2 : b st1 = .ok (.int j) st2) (hi : small62 i = true) (hj : small62 j = true) (hn : (j - i).toNat = n) : iR2 a b st = .ok (rangeD i n) st2 := by
  unfold iR2
  rw [h1]
  show (b st1).bind _ = _
  rw [h2]
  show (if (small62 i && small62 j) = true then Res.ok (rangeD i (j - i).toNat) st2 else .fail) = _
  rw [hi, hj, hn]
  rfl
end DL

/-! DL46: a tuple target in a comprehension. -/
namespace DL
open PySem L2 PyProof.Rows
theorem cg_tupB {ca : Nat → Addr} {X : Cx} {scope : Scope} {s : Shared} {H : Hp} {C : Addr} {cl : List (Str × Addr)} {fp : List Addr} {L : List Nat} {es : List Expr} {k : Nat} {pos : Pos} {t : TGs} {gs : List MG} {n : Nat} (hc : (bk X scope s H C cl fp).calm = true) (h : CGs ca (bk X scope s H C cl fp) L es t gs) (hl : gs.length = n)
    (hn : (assignEach es (bk X scope s H C cl fp).env).length = n := by rfl) (hst : (assignEach es (bk X scope s H C cl fp).env).findIdx? (·.1) = none := by rfl) : CG ca (bk X scope s H C cl fp) L (.Tuple es k pos) (gTup X.K n t) (gT gs) := cg_tup hc h hl hn hst
end DL

/-! DL47: the text of nested data of numbers, truth values, None. -/
namespace DL
open PySem (Str PyData)
mutual
/-- no texts, no dicts, numbers of at most 25 digits -/
def sml : PyData → Bool
  | .none => true
  | .bool _ => true
  | .int i => decide (i.natAbs < 10 ^ 25)
  | .str _ => false
  | .list xs => smlA xs
  | .tuple xs => smlA xs
  | .dict _ => false
def smlA : List PyData → Bool
  | [] => true
  | x :: xs => sml x && smlA xs
end
def cpsOk (x : Str) : Bool := x.cps.all (· < 0x110000)
theorem cps_app {x y : Str} (h : cpsOk x = true) (h2 : cpsOk y = true) : cpsOk (x ++ y) = true := by
  unfold cpsOk at *
  show (x.cps ++ y.cps).all _ = true
  rw [Array.all_append, h, h2]
  rfl
theorem cps_str (s : String) : cpsOk (Str.ofString s) = true := by
  unfold cpsOk
  rw [Str.ofString_eq_toList]
  simp only [List.all_toArray, List.all_map, List.all_eq_true, Function.comp, decide_eq_true_eq]
  intro c _
  have := c.valid
  show c.val.toNat < 0x110000
  rcases this with h | h
  · have : c.val.toNat < 0xd800 := h
    omega
  · exact h.2
theorem cps_from : ∀ (ts : List Str) (k : Nat) (acc : Str), cpsOk acc = true → (∀ t ∈ ts, cpsOk t = true) → cpsOk (PySem.textFrom k acc ts) = true
  | [], _, _, h, _ => h
  | t :: ts, k, acc, h, hs => cps_from ts (k + 1) _ (cps_app (cps_app h (cps_str _)) (hs t List.mem_cons_self)) fun u hu => hs u (List.mem_cons_of_mem _ hu)
theorem cps_list {ts : List Str} (hs : ∀ t ∈ ts, cpsOk t = true) : cpsOk (PySem.listText ts) = true := cps_app (cps_from ts 0 _ (cps_str _) hs) (cps_str _)
theorem cps_join {sep : Str} (h : cpsOk sep = true) : ∀ {ts : List Str}, (∀ t ∈ ts, cpsOk t = true) → cpsOk (Str.join sep ts) = true
  | [], _ => cps_str ""
  | [x], hs => hs x List.mem_cons_self
  | x :: y :: r, hs => cps_app (cps_app (hs x List.mem_cons_self) h) (cps_join h fun t ht => hs t (List.mem_cons_of_mem _ ht))
theorem cps_tup {ts : List Str} (hs : ∀ t ∈ ts, cpsOk t = true) : cpsOk (PySem.tupleText ts) = true := cps_app (cps_app (cps_str _) (cps_join (cps_str _) hs)) (cps_str _)
mutual
theorem sml_cps : ∀ p : PyData, sml p = true → cpsOk p.shown = true
  | .none, _ => cps_str "None"
  | .bool b, _ => by cases b <;> exact cps_str _
  | .int i, _ => cps_str (toString i)
  | .str _, h => by rw [sml] at h; cases h
  | .list xs, h => by rw [sml] at h; rw [PyData.shown]; exact cps_list (smlA_cps xs h)
  | .tuple xs, h => by rw [sml] at h; rw [PyData.shown]; exact cps_tup (smlA_cps xs h)
  | .dict _, h => by rw [sml] at h; cases h
theorem smlA_cps : ∀ xs : List PyData, smlA xs = true → ∀ t ∈ PyData.shownAll xs, cpsOk t = true
  | [], _, t, ht => by rw [PyData.shownAll] at ht; cases ht
  | x :: xs, h, t, ht => by
    rw [smlA, Bool.and_eq_true] at h
    rw [PyData.shownAll] at ht
    rcases List.mem_cons.mp ht with rfl | ht
    · exact sml_cps x h.1
    · exact smlA_cps xs h.2 t ht
end
theorem log_small {n : Nat} (h : n < 10 ^ 25) : n.log2 < 84 := by
  by_cases h0 : n = 0
  · subst h0; decide
  · exact (Nat.log2_lt h0).mpr (Nat.lt_of_lt_of_le h (by decide))
theorem int_len {i : Int} (h : i.natAbs < 10 ^ 25) : (PyData.shown (.int i)).length ≤ 26 := by
  have e := PySem.int_text_length_le10 (k := 25) (by decide) h
  show (Str.ofString (toString i)).length ≤ 26
  rw [PySem.ofString_length]; exact e
mutual
theorem sml_all : ∀ p : PyData, sml p = true → p.canLay0 = true ∧ p.showable = true ∧ p.leavesShort 26 = true
  | .none, _ => ⟨rfl, rfl, rfl⟩
  | .bool _, _ => ⟨rfl, rfl, rfl⟩
  | .int i, h => by
    rw [sml, decide_eq_true_eq] at h
    refine ⟨rfl, ?_, ?_⟩
    · rw [PyData.showable, decide_eq_true_eq]
      have := log_small h
      omega
    · rw [PyData.leavesShort, decide_eq_true_eq]
      exact int_len h
  | .str _, h => by rw [sml] at h; cases h
  | .list xs, h => by rw [sml] at h; rw [PyData.canLay0, PyData.showable, PyData.leavesShort]; exact smlA_all xs h
  | .tuple xs, h => by rw [sml] at h; rw [PyData.canLay0, PyData.showable, PyData.leavesShort]; exact smlA_all xs h
  | .dict _, h => by rw [sml] at h; cases h
theorem smlA_all : ∀ xs : List PyData, smlA xs = true → PyData.canLayAll0 xs = true ∧ PyData.showableAll xs = true ∧ PyData.leavesShortAll 26 xs = true
  | [], _ => ⟨rfl, rfl, rfl⟩
  | x :: xs, h => by
    rw [smlA, Bool.and_eq_true] at h
    obtain ⟨a, b, c⟩ := sml_all x h.1
    obtain ⟨a2, b2, c2⟩ := smlA_all xs h.2
    rw [PyData.canLayAll0, PyData.showableAll, PyData.leavesShortAll, a, b, c, a2, b2, c2]
    exact ⟨rfl, rfl, rfl⟩
end
/-- data whose text is told: how heavy, how deep -/
structure Rp (p : PyData) : Prop where
  s : sml p = true
  w : p.weight ≤ 500000
  d : p.depth ≤ 60
theorem Rp.ok {p : PyData} (h : Rp p) : rpOk p = true := by
  obtain ⟨a, b, c⟩ := sml_all p h.s
  have l := PyData.shown_le 26 (by decide) p c
  have w := h.w
  have l2 : p.shown.length ≤ 16777216 := by omega
  unfold rpOk
  rw [a, b, PyData.hasDict_of_canLay p a, decide_eq_true (Nat.le_trans h.d (by decide)), decide_eq_true l2]
  rfl
theorem Rp.repr {x : D} {p : PyData} (h : Rp p) (e : toPy x = p) : oRepr [x] = some (.val (.str p.shown)) := by
  subst e
  show (if _ then _ else _) = _
  rw [if_pos h.ok]
theorem Rp.shaped {p : PyData} (h : Rp p) : PySem.SeqAt.shaped (toPy (.str p.shown)) = true := by
  rw [toPy]
  unfold PySem.SeqAt.shaped
  rw [PyData.canLay0, PyData.depth]
  have := sml_cps p h.s
  unfold cpsOk at this
  rw [show PyData.strOk p.shown = true from this]
  rfl
theorem Rp.ne {p : PyData} (h : Rp p) : f2 pNe [.str p.shown, .str p.shown] = some (.val (.bl false)) := by
  refine ne_of ?_
  unfold pNe
  rw [h.shaped, toPy, PyData.eqv]
  simp
theorem Rp.eq {p : PyData} (h : Rp p) : f2 pEq [.str p.shown, .str p.shown] = some (.val (.bl true)) := by
  refine eq_of ?_
  unfold pEq
  rw [h.shaped, toPy, PyData.eqv]
  simp
/-! lists of numbers and lists of such lists -/
theorem smlA_map {α : Type} {f : α → PyData} : ∀ {l : List α}, (∀ a ∈ l, sml (f a) = true) → smlA (l.map f) = true
  | [], _ => rfl
  | a :: l, h => by rw [List.map_cons, smlA, h a List.mem_cons_self, smlA_map fun b hb => h b (List.mem_cons_of_mem _ hb)]; rfl
theorem wA_map {α : Type} {f : α → PyData} {c : Nat} : ∀ {l : List α}, (∀ a ∈ l, (f a).weight ≤ c) → PyData.weightAll (l.map f) ≤ (c + 1) * l.length
  | [], _ => by rw [List.map_nil, PyData.weightAll]; omega
  | a :: l, h => by
    rw [List.map_cons, PyData.weightAll, List.length_cons, Nat.mul_succ]
    have h1 := h a List.mem_cons_self
    have h2 := wA_map fun b hb => h b (List.mem_cons_of_mem _ hb)
    omega
theorem w_int {i : Int} (h : i.natAbs < 10 ^ 25) : (PyData.int i).weight ≤ 84 := by
  rw [PyData.weight]
  have := log_small h
  split <;> omega
theorem rp_nums {l : List Int} (h : ∀ x ∈ l, x.natAbs < 10 ^ 25) (hl : l.length ≤ 5000) : Rp (Py.py l) := by
  refine ⟨?_, ?_, ?_⟩
  · show sml (.list (l.map .int)) = true
    rw [sml]
    exact smlA_map fun a ha => by rw [sml]; exact decide_eq_true (h a ha)
  · show (PyData.list (l.map .int)).weight ≤ 500000
    rw [PyData.weight]
    have := wA_map (f := PyData.int) (c := 84) (l := l) fun a ha => w_int (h a ha)
    omega
  · exact Nat.le_trans (Py.depth l) (by decide)
end DL

set_option maxHeartbeats 4000000
/-! DL48: try with several clauses; a caught exception is tracked from its clause on. -/
namespace DL
open PySem PySem.Spec PyProof.Rows L2
section
variable {X : Cx} {pins : List (Addr × Obj)} {σ : L2.St} {H : Hp} {sI s s' : Shared} {B : Heap} {a : Addr} {cls : Value} {d : Option Addr}
end

abbrev Cls1 := Value × Option Nat × (Addr → TS)
inductive HdC (X : Cx) : List ExceptHandler → List Cls1 → Prop
  | nil : HdC X [] []
  | plain {x : Str} {c : Value} {ts : Addr → TS} {b0 : Stmt} {body : List Stmt} {p1 p2 : Pos} {hds : List ExceptHandler} {l : List Cls1} (hc : Names X x c)
      (hb : ∀ a pn, PSs (X.suite a pn) (b0 :: body) (ts a)) (r : HdC X hds l) : HdC X (.ExceptHandler (some (.Name x p1)) none (b0 :: body) p2 :: hds) ((c, none, ts) :: l)
  | named {x n : Str} {i : Nat} {c : Value} {ts : Addr → TS} {b0 : Stmt} {body : List Stmt} {p1 p2 : Pos} {hds : List ExceptHandler} {l : List Cls1} (hc : Names X x c)
      (hi : X.N[i]? = some n) (hl : X.env.kindOf n = some .local)
      (hb : ∀ a pn, PSs (X.suite a pn) (b0 :: body) (ts a)) (r : HdC X hds l) : HdC X (.ExceptHandler (some (.Name x p1)) (some n) (b0 :: body) p2 :: hds) ((c, some i, ts) :: l)
section
variable {X : Cx} {body : List Stmt} {hd : ExceptHandler} {hds : List ExceptHandler} {l : List Cls1} {pos : Pos} {tb : WX → TS} {Wo : WX}
end
end DL

set_option maxHeartbeats 4000000
/-! DL49: exceptions of own classes: made, raised, caught. -/
namespace DL
open PySem PySem.Spec PyProof.Rows L2

/-! ### __init__ of an own exception class -/
section
variable {X : Cx} {p1 p2 pos : Pos}
end
section
variable {P : Program} {w : World} {K : PySem.W.Frag} {mg : Str → Option Value} {base : Heap}
end

/-! ### raise -/
section
variable {ca : Nat → Addr} {Hf H Hf1 H1 Hf2 H2 : Hp} {S P P1 P2 : Rg} {R R1 R2 : Nat → Rg} {σ : L2.St} {st : Sl} {v : V} {d : D} {vs : List V} {ds : List D} {X : Cx} {L : List Nat}
end
end DL

set_option maxHeartbeats 4000000
/-! DL50: try by data; what is asked of a caught exception. -/
namespace DL
open PySem PySem.Spec PyProof.Rows L2
/-- a clause: the classes it takes, its name's slot, its suite -/
structure Cl where
  t : Nat → Option Bool
  o : Option Nat
  m : MS
section
variable {ca : Nat → Addr} {K : PySem.W.Frag} {Hf H Hf1 H1 Hf2 H2 : Hp} {S P P1 P2 : Rg} {R R1 R2 : Nat → Rg} {pp : Prop} {σ : L2.St} {st : Sl} {v : V} {d : D} {vs : List V} {ds : List D} {X : Cx} {L : List Nat}
theorem tr_up {a : Addr} {o : HO} (n0 : Hf a = none) (hn : H a = none) : Tr S Hf H S (upd Hf a o) (upd H a o) := by
  refine ⟨fun b u q => upd_keep n0 b u q, fun b u q _ => upd_keep hn b u q, fun b q => .inl q, fun b u q => ?_⟩
  by_cases hb : b = a
  · subst hb
    exact .inr (.inr hn)
  · rw [upd_ne hb] at q
    exact .inl q
inductive CHs (ca : Nat → Addr) (X : Cx) (L : List Nat) : List ExceptHandler → List Cl → List Cls1 → Prop
  | nil : CHs ca X L [] [] []
  | plain {x : Str} {c : Value} {t : Nat → Option Bool} {m : MS} {b0 : Stmt} {body : List Stmt} {p1 p2 : Pos} {hds : List ExceptHandler} {l : List Cl} {l' : List Cls1} (hc : Names X x c)
      (ht : ∀ C b, t C = some b → PySem.W.exmOne X.K (.ref (ca C)) c = some b) (hb : ∀ a pn, CSs ca (X.suite a pn) L (b0 :: body) m) (r : CHs ca X L hds l l') :
      CHs ca X L (.ExceptHandler (some (.Name x p1)) none (b0 :: body) p2 :: hds) (⟨t, none, m⟩ :: l) ((c, none, fun a D σ H => ∀ pn, Wss (X.suite a pn) (b0 :: body) D σ H) :: l')
  | named {x n : Str} {i : Nat} {c : Value} {t : Nat → Option Bool} {m : MS} {b0 : Stmt} {body : List Stmt} {p1 p2 : Pos} {hds : List ExceptHandler} {l : List Cl} {l' : List Cls1} (hc : Names X x c)
      (hi : X.N[i]? = some n) (hl : X.env.kindOf n = some .local) (hL : i ∉ L)
      (ht : ∀ C b, t C = some b → PySem.W.exmOne X.K (.ref (ca C)) c = some b) (hb : ∀ a pn, CSs ca (X.suite a pn) L (b0 :: body) m) (r : CHs ca X L hds l l') :
      CHs ca X L (.ExceptHandler (some (.Name x p1)) (some n) (b0 :: body) p2 :: hds) (⟨t, some i, m⟩ :: l) ((c, some i, fun a D σ H => ∀ pn, Wss (X.suite a pn) (b0 :: body) D σ H) :: l')
theorem CHs.hd {hds : List ExceptHandler} {l : List Cl} {l' : List Cls1} (h : CHs ca X L hds l l') : HdC X hds l' := by
  induction h with
  | nil => exact .nil
  | plain hc ht hb r ih => exact .plain hc (fun a pn => ⟨fun pins s σ H D I h => h pn pins s I⟩) ih
  | named hc hi hl hL ht hb r ih => exact .named hc hi hl (fun a pn => ⟨fun pins s σ H D I h => h pn pins s I⟩) ih
/-- the exception is tracked -/
theorem PR.held {x : Xc} {cls : Value} {dd : Option Addr} {a : Addr} (p : PR ca K Hf H Em (XcR ca K Hf H cls dd x) R σ st) (na : H a = none) :
    PR ca K (upd Hf a (XcO a cls dd)) (upd H a (XcO a cls dd)) Em (Rep ca K (upd Hf a (XcO a cls dd)) (upd H a (XcO a cls dd)) Em (.ref a) (.xc x.C x.fs)) R σ st ∧ Tr (jn Em R) Hf H (jn Em R) (upd Hf a (XcO a cls dd)) (upd H a (XcO a cls dd)) := by
  obtain ⟨ec, b, fs, ed, e1, e2, kk, r⟩ := p.pend
  have p0 : PR ca K Hf H Em True R σ st := p.imp fun _ => trivial
  have n0 : Hf a = none := (wl_new (o := .xd []) p0.w na).2
  refine ⟨(p0.stand na).put ?_, tr_up n0 na⟩
  subst ec ed
  exact .xc upd_same (upd_keep n0 _ _ e2) kk (r.keep (fun b o q => upd_keep n0 b o q) fun _ q => q.elim)
/-! ### e.f, isinstance(e, C), of a tracked exception -/
/-- what the class says, for isinstance of its instances -/
structure XiC (K : PySem.W.Frag) (D : Addr) : Prop where
  hc : (PySem.W.clsIn K D).isSome = true
  hg : PySem.W.findIn K (.ref D) "__getattribute__" = some (some (.builtin "BaseException.__getattribute__"))
  hk : PySem.W.findIn K (.ref D) "__getattr__" = some none
  hs : PySem.W.subIn K (.ref D) (.type "BaseException") = some true
  ha : PySem.W.findIn K (.ref D) "__class__" = some (some (.builtin "object.__class__"))
  hn : PySem.W.specialIn K (.builtin "object.__class__") "__get__" = some (some (.builtin "getset_descriptor.__get__"))
  ht : PySem.W.takesIn K (.builtin "object.__class__") = some true
  hm : PySem.W.mroIn K D (.type "object") = some true
end
end DL

/-! DL51: facts of exception classes, names of the text's constants. -/
namespace DL
open PySem PySem.Spec PyProof.Rows L2
section
variable {K : PySem.W.Frag} {C D : Addr} {b : Bool}
end
section
variable {ca : Nat → Addr} {X : Cx} {v : V} {d : D}
end
end DL

/-! DL52: ascending lists; the descending list decides whether all is sorted. -/
namespace Nw
open DL
def ascB : List Int → Bool
  | x :: y :: r => decide (x ≤ y) && ascB (y :: r)
  | _ => true
theorem ascB_cons {x : Int} {r : List Int} : ascB (x :: r) = true ↔ (∀ y ∈ r, x ≤ y) ∧ ascB r = true := by
  induction r generalizing x with
  | nil => exact ⟨fun _ => ⟨(fun _ h => by cases h), rfl⟩, fun _ => rfl⟩
  | cons y r ih =>
    rw [show ascB (x :: y :: r) = (decide (x ≤ y) && ascB (y :: r)) from rfl, Bool.and_eq_true, decide_eq_true_eq]
    refine ⟨fun ⟨h1, h2⟩ => ⟨fun z hz => ?_, h2⟩, fun ⟨h1, h2⟩ => ⟨h1 y List.mem_cons_self, h2⟩⟩
    rcases List.mem_cons.mp hz with e | hz
    · omega
    · have := (ih.mp h2).1 z hz
      omega
theorem cp_big {t : Int} {l : List Int} (h : ∀ y ∈ l, t < y) (p : Nat) : cp t l p = 0 := by
  induction l generalizing p with
  | nil => exact cp_nil t p
  | cons x l ih =>
    cases p with
    | zero => rfl
    | succ p =>
      have := h x List.mem_cons_self
      rw [cp_cons, ih (fun y hy => h y (List.mem_cons_of_mem _ hy))]
      unfold sm
      rw [if_neg (by omega)]
theorem asc_cp {l : List Int} (h : ascB l = true) (t : Int) (p : Nat) : min p (cp t l l.length) ≤ cp t l p := by
  induction l generalizing p with
  | nil => rw [cp_nil, cp_nil]; omega
  | cons x l ih =>
    obtain ⟨h1, h2⟩ := ascB_cons.mp h
    cases p with
    | zero => omega
    | succ p =>
      rw [List.length_cons, cp_cons, cp_cons]
      by_cases hx : x ≤ t
      · have := ih h2 p
        unfold sm
        rw [if_pos hx]
        omega
      · rw [cp_big (fun y hy => by have := h1 y hy; omega)]
        unfold sm
        rw [if_neg hx]
        omega
def bits (b : List Int) : Prop := ∀ x ∈ b, x = 0 ∨ x = 1
/-! ### numbers as rows of bits -/
end Nw

/-! DL53: more evaluation: loops as folds, pairs of neighbours, rows of bits. -/
namespace DL
open PySem (Str)
open Nw
theorem forD_rel {α β : Type} {g : MG} {body : MS} (enc : α → D) (R : β → Sl → Prop) (f : β → α → β) : ∀ (l : List α) (b : β) (st : Sl), R b st →
    (∀ b x st, x ∈ l → R b st → ∃ st1 st2, g (enc x) st = .ok () st1 ∧ body st1 = .next st2 ∧ R (f b x) st2) → ∃ st', forD g body (l.map enc) st = .next st' ∧ R (l.foldl f b) st'
  | [], b, st, h, _ => ⟨st, rfl, h⟩
  | x :: l, b, st, h, step => by
    obtain ⟨s1, s2, e1, e2, h2⟩ := step b x st List.mem_cons_self h
    obtain ⟨st', e, h3⟩ := forD_rel enc R f l (f b x) s2 h2 fun b y st hy => step b y st (List.mem_cons_of_mem _ hy)
    exact ⟨st', forD_cons e1 e2 e, h3⟩
/-- a loop that only keeps an invariant -/
theorem forD_inv {g : MG} {body : MS} (I : Sl → Prop) : ∀ (ds : List D) (st : Sl), I st →
    (∀ d st, d ∈ ds → I st → ∃ st1 st2, g d st = .ok () st1 ∧ body st1 = .next st2 ∧ I st2) → ∃ st', forD g body ds st = .next st' ∧ I st'
  | [], st, h, _ => ⟨st, rfl, h⟩
  | d :: ds, st, h, step => by
    obtain ⟨s1, s2, e1, e2, h2⟩ := step d st List.mem_cons_self h
    obtain ⟨st', e, h3⟩ := forD_inv I ds s2 h2 fun d st hy => step d st (List.mem_cons_of_mem _ hy)
    exact ⟨st', forD_cons e1 e2 e, h3⟩
/-- a comprehension whose source draws: an invariant of the state, each item from the numbers P -/
theorem comp_draw {g : MG} {e : ME} {vs : List Nat} {src : Sl → Res (List D)} (I : Sl → Prop) (P : Int → Prop) {st st1 : Sl} {lo : Int} {n : Nat} (hs : src st = .ok (rangeD lo n) st1) (hn : n ≤ 16777216) (h1 : I (wipeS st1 vs))
    (step : ∀ (i : Nat) (st : Sl), i < n → I st → ∃ s1 s2 r, g (.int (lo + i)) st = .ok () s1 ∧ e s1 = .ok (.int r) s2 ∧ P r ∧ I (wipeS s2 vs)) :
    ∃ ns st', eLc src g tYesM e vs st = .ok (.lst true (nums ns)) st' ∧ I st' ∧ ns.length = n ∧ ∀ r ∈ ns, P r := by
  obtain ⟨acc, st', h, ns, h2, h3, h4, h5⟩ := compD_ok (g := g) (t := tYesM) (e := e) (vs := vs) (fun i st acc => ∃ ns : List Int, I st ∧ ns.length = i ∧ (∀ r ∈ ns, P r) ∧ acc = nums ns) (rangeD lo n) 0 (wipeS st1 vs) []
    ⟨[], h1, rfl, (fun r hr => by cases hr), rfl⟩ (fun i d st acc ei hI => by
      obtain ⟨ns, g1, g2, g3, rfl⟩ := hI
      obtain ⟨hi, rfl⟩ := rangeD_get ei
      obtain ⟨s1, s2, r, q1, q2, q3, q4⟩ := step i st hi g1
      refine ⟨s1, true, s1, q1, rfl, (fun h => by cases h), fun _ => ⟨by rw [nums_len]; omega, .int r, s2, q2, ns ++ [r], q4, by rw [List.length_append, g2]; rfl, fun x hx => ?_, by rw [nums_app]; rfl⟩⟩
      rcases List.mem_append.mp hx with hx | hx
      · exact g3 x hx
      · rw [List.mem_singleton.mp hx]
        exact q3)
  rw [Nat.zero_add, rangeD_len] at h3
  subst h5
  exact ⟨ns, st', eLc_v hs h, h2, h3, h4⟩
theorem zipD_map {α β : Type} (f : α → D) (h : β → D) : ∀ (l : List α) (k : List β), zipD (l.map f) (k.map h) = (l.zip k).map fun p => .tup [f p.1, h p.2]
  | [], k => by rw [List.map_nil, List.zip_nil_left]; rfl
  | x :: l, [] => rfl
  | x :: l, y :: k => by
    rw [List.map_cons, List.map_cons, List.zip_cons_cons, List.map_cons, ← zipD_map f h l k]
    rfl
/-- a comprehension with two names -/
theorem comp_go2 {α : Type} {g : MG} {t : MT} {e : ME} {i j : Nat} {st : Sl} (enc φ : α → D) (p : α → Bool) : ∀ (l : List α) (acc : List D),
    (∀ x ∈ l, ∃ s1 s2, g (enc x) st = .ok () s1 ∧ t s1 = .ok (p x) s2 ∧ (p x = false → wipeS s2 [i, j] = st) ∧ (p x = true → ∃ s3, e s2 = .ok (φ x) s3 ∧ wipeS s3 [i, j] = st)) → acc.length + l.length ≤ 16777216 →
    compD g t e [i, j] (l.map enc) st acc = .ok (acc ++ (l.filter p).map φ) st := fun l acc h hl => by
  obtain ⟨acc', st', e1, h1, h2⟩ := compD_ok (g := g) (t := t) (e := e) (vs := [i, j]) (fun n s a => s = st ∧ a = acc ++ ((l.take n).filter p).map φ) (l.map enc) 0 st acc ⟨rfl, by simp⟩ (fun n d s a en hI => by
    obtain ⟨rfl, rfl⟩ := hI
    rw [List.getElem?_map] at en
    cases ex : l[n]? with
    | none => rw [ex] at en; cases en
    | some x =>
      rw [ex] at en
      cases en
      rw [Nat.zero_add]
      have hx : x ∈ l := List.mem_of_getElem? ex
      have tk : l.take (n + 1) = l.take n ++ [x] := by rw [List.take_succ, ex]; rfl
      obtain ⟨s1, s2, q1, q2, q3, q4⟩ := h x hx
      refine ⟨s1, p x, s2, q1, q2, fun hp => ⟨q3 hp, ?_⟩, fun hp => ?_⟩
      · rw [tk, List.filter_append]
        simp [hp]
      · obtain ⟨s3, q5, q6⟩ := q4 hp
        refine ⟨?_, φ x, s3, q5, q6, ?_⟩
        · have : ((l.take n).filter p).length ≤ (l.take n).length := List.length_filter_le _ _
          rw [List.length_take] at this
          have hn : n < l.length := (List.getElem?_eq_some_iff.mp ex).1
          rw [List.length_append, List.length_map]
          omega
        · rw [tk, List.filter_append]
          simp [hp])
  rw [Nat.zero_add, List.length_map, List.take_length] at h2
  rw [e1, h1, h2]
theorem xLc2n {α : Type} {g : MG} {t : MT} {e : ME} {i j : Nat} {st st1 st2 : Sl} {src : Sl → Res (List D)} (enc φ : α → D) (p : α → Bool) (l : List α) {ds out : List D} (hs : src st = .ok ds st1) (hd : ds = l.map enc) (hl : l.length ≤ 16777216) (hw : wipeS st1 [i, j] = st2)
    (h : ∀ x ∈ l, ∃ s1 s2, g (enc x) st2 = .ok () s1 ∧ t s1 = .ok (p x) s2 ∧ (p x = false → wipeS s2 [i, j] = st2) ∧ (p x = true → ∃ s3, e s2 = .ok (φ x) s3 ∧ wipeS s3 [i, j] = st2)) (ho : (l.filter p).map φ = out) :
    eLc src g t e [i, j] st = .ok (.lst true out) st2 := by
  subst hd ho
  refine eLc_v hs ?_
  rw [hw, comp_go2 enc φ p l [] h (by rw [List.length_nil, Nat.zero_add]; exact hl)]
  rfl
/-! ### ascending -/
/-- the places where a greater number stands to the left -/
def falls (l : List Int) : List Int := ((List.range (l.length - 1)).map fun (i : Nat) => (1 : Int) + i).filter fun p => decide (l.getD p.toNat 0 < l.getD (p - 1).toNat 0)
theorem range1_nums (n : Nat) : rangeD 1 n = nums ((List.range n).map fun (i : Nat) => (1 : Int) + i) := by
  unfold rangeD nums
  rw [List.map_map]
  rfl
end DL

set_option maxHeartbeats 4000000
/-! DL54: a list in a slot is walked where it stands. -/
namespace DL
open PySem PySem.Spec PyProof.Rows L2
section
variable {ca : Nat → Addr} {K : PySem.W.Frag} {Hf H Hf1 H1 Hf2 H2 : Hp} {S S1 S2 P P1 P2 : Rg} {R R1 R2 : Nat → Rg} {pp qq : Prop} {σ σ' : L2.St} {st st' : Sl} {v : V} {d : D} {vs : List V} {ds : List D} {X : Cx} {L : List Nat}
end
end DL

/-! DL55: walks of a list where it stands, evaluated. -/
namespace DL
open PySem (Str)
open Nw
end DL

/-! DL56: lists that differ are told apart by a bound; a step left out; enumerations. -/
namespace Nw
open DL
end Nw
namespace DL
open Nw
end DL

/-! DL57: domination by the profile's counts; powers. -/
namespace Nw
open DL
theorem cp_perm {t : Int} {l m : List Int} {p : Nat} (h : l.Perm m) (hp : l.length ≤ p) : cp t l p = cp t m p := by
  unfold cp
  rw [List.take_of_length_le hp, List.take_of_length_le (by rw [← h.length_eq]; exact hp)]
  exact (h.filter _).length_eq
end Nw

/-! DL58: powers of a network. -/
namespace Nw
open DL
theorem stpPerm {l : List Int} {s : Int} (h1 : 1 ≤ s) (h2 : s < l.length) : (stp l s).Perm l := by
  obtain ⟨a, x, y, r, e, _, hs⟩ := stp_eq h1 h2
  rw [hs, e]
  apply List.Perm.append_left
  rcases Int.le_total x y with h | h
  · rw [Int.min_eq_left h, Int.max_eq_right h]
  · rw [Int.min_eq_right h, Int.max_eq_left h]
    exact List.Perm.swap x y r
theorem runPerm : ∀ (ss : List Int) {l : List Int}, okS l.length ss → (runL ss l).Perm l
  | [], _, _ => List.Perm.refl _
  | s :: ss, l, h => by
    have a := h s List.mem_cons_self
    exact (runPerm ss (l := stp l s) (by rw [stp_len]; exact fun x hx => h x (List.mem_cons_of_mem _ hx))).trans (stpPerm a.1 (by omega))
theorem pair_asc : ∀ {l : List Int}, l.Pairwise (· ≤ ·) → ascB l = true
  | [], _ => rfl
  | [x], _ => rfl
  | x :: y :: r, h => by
    rw [List.pairwise_cons] at h
    rw [show ascB (x :: y :: r) = (decide (x ≤ y) && ascB (y :: r)) from rfl, Bool.and_eq_true, decide_eq_true_eq]
    exact ⟨h.1 y List.mem_cons_self, pair_asc h.2⟩
end Nw
namespace DL
end DL

/-! DL59: how soon a power is stable. -/
namespace Nw
open DL
theorem cp_mono' (t : Int) (l : List Int) (p : Nat) : ∀ q, cp t l p ≤ cp t l (p + q)
  | 0 => Nat.le_refl _
  | q + 1 => Nat.le_trans (cp_mono' t l p q) (cp_mono t l (p + q)).1
end Nw

set_option maxHeartbeats 4000000
/-! DL60: xs.pop(), xs.reverse(), xs.clear() of a slot's own list. -/
namespace DL
open PySem PySem.Spec PyProof.Rows L2
section
variable {ca : Nat → Addr} {K : PySem.W.Frag} {Hf H : Hp} {R : Nat → Rg} {σ : L2.St} {st : Sl} {v : V} {d : D} {vs : List V} {ds xs : List D} {X : Cx} {S T : Rg}
end
end DL

/-! DL61: the parts between places whose step does not occur, sorted. -/
namespace Nw
open DL
end Nw
namespace DL
open Nw
theorem oIn_nums (b o : Bool) (x : Int) (l : List Int) : oIn b [.int x, .lst o (nums l)] = some (.val (.bl (if b then !decide (x ∈ l) else decide (x ∈ l)))) := by
  have e : ∀ l : List Int, ((nums l).any fun z => eqF z (.int x)) = decide (x ∈ l) := fun l => by
    induction l with
    | nil => rfl
    | cons y l ih =>
      rw [nums_cons, List.any_cons, ih]
      show (y == x || decide (x ∈ l)) = _
      by_cases h : x = y
      · subst h; simp
      · have : (y == x) = false := by simp; omega
        rw [this]
        simp [h]
  have f : ∀ l : List Int, (nums l).all flat = true := fun l => by
    unfold nums
    rw [List.all_map]
    exact List.all_eq_true.mpr fun _ _ => rfl
  unfold oIn
  dsimp only [items]
  rw [f l, e l]
  rfl
end DL

set_option maxHeartbeats 4000000
/-! DL62: enumerate of a slot's list, where it stands, in a comprehension. -/
namespace DL
open PySem PySem.Spec PyProof.Rows L2
section
variable {ca : Nat → Addr} {K : PySem.W.Frag} {Hf H Hf1 H1 Hf2 H2 : Hp} {S S1 S2 P P1 P2 : Rg} {R R1 R2 : Nat → Rg} {pp qq : Prop} {σ σ' : L2.St} {st st' : Sl} {v : V} {d : D} {vs : List V} {ds : List D} {X : Cx} {L : List Nat}
end
end DL

/-! DL63: the steps walked backwards from the ascending list; the hardest list. -/
namespace Nw
open DL
def lit (l : List Int) (s : Int) : Bool := decide (l.getD (s - 1).toNat 0 < l.getD s.toNat 0)
/-- the greater number to the left -/
def stpU (l : List Int) (s : Int) : List Int := if lit l s then xch l s else l
theorem stpU_eq {l : List Int} {s : Int} (h1 : 1 ≤ s) (h2 : s < l.length) : ∃ a x y r, l = a ++ x :: y :: r ∧ a.length + 1 = s.toNat ∧ stpU l s = a ++ max x y :: min x y :: r := by
  obtain ⟨a, r, e, ha⟩ := split2 (l := l) (i := (s - 1).toNat) (by omega)
  have hx := xch_split (p := a) (r := r) (a := l.getD (s - 1).toNat 0) (b := l.getD ((s - 1).toNat + 1) 0) h1 (by omega)
  rw [← e] at hx
  refine ⟨a, _, _, r, e, by omega, ?_⟩
  unfold stpU lit
  rw [show s.toNat = (s - 1).toNat + 1 by omega]
  by_cases h : l.getD (s - 1).toNat 0 < l.getD ((s - 1).toNat + 1) 0
  · rw [decide_eq_true h, if_pos rfl, hx, Int.max_eq_right (by omega), Int.min_eq_left (by omega)]
  · rw [decide_eq_false h, if_neg (by decide), Int.max_eq_left (by omega), Int.min_eq_right (by omega)]
    exact e
theorem stpU_len {l : List Int} {s : Int} : (stpU l s).length = l.length := by
  unfold stpU xch
  split
  · rw [List.length_set, List.length_set]
  · rfl
theorem stpU_perm {l : List Int} {s : Int} (h1 : 1 ≤ s) (h2 : s < l.length) : (stpU l s).Perm l := by
  obtain ⟨a, x, y, r, e, ha, hs⟩ := stpU_eq h1 h2
  rw [hs, e]
  by_cases h : x ≤ y
  · rw [Int.max_eq_right h, Int.min_eq_left h]; exact xch_perm x y
  · rw [Int.max_eq_left (by omega), Int.min_eq_right (by omega)]
theorem cp_stpU {l : List Int} {s : Int} (h1 : 1 ≤ s) (h2 : s < l.length) (t : Int) (p : Nat) :
    cp t (stpU l s) p = if p = s.toNat then max (cp t l (s.toNat - 1)) (cp t l (s.toNat + 1) - 1) else cp t l p := by
  obtain ⟨a, x, y, r, e, ha, hs⟩ := stpU_eq h1 h2
  rw [hs, e, ← ha]
  have m1 := sm_min t x y
  have m2 := sm_max t x y
  have m3 := sm_le t x
  have m4 := sm_le t y
  simp only [cp_mid, Nat.add_sub_cancel, Nat.le_refl, if_true]
  rw [if_neg (show ¬ a.length + 1 + 1 ≤ a.length by omega), if_neg (show ¬ a.length + 1 + 1 = a.length + 1 by omega), show a.length + 1 + 1 - a.length - 2 = 0 by omega, cp_0]
  by_cases c1 : p ≤ a.length
  · rw [if_pos c1, if_neg (by omega), if_pos c1]
  · rw [if_neg c1]
    by_cases c2 : p = a.length + 1
    · rw [if_pos c2, if_pos c2]; omega
    · rw [if_neg c2, if_neg c2, if_neg c1, if_neg c2]; omega
def backU (ss m : List Int) : List Int := ss.foldr (fun s m => stpU m s) m
theorem backU_len : ∀ (ss m : List Int), (backU ss m).length = m.length
  | [], _ => rfl
  | s :: ss, m => by
    show (stpU (backU ss m) s).length = _
    rw [stpU_len, backU_len ss m]
theorem backU_perm : ∀ (ss : List Int) {m : List Int}, okS m.length ss → (backU ss m).Perm m
  | [], _, _ => List.Perm.refl _
  | s :: ss, m, h => by
    have a := h s List.mem_cons_self
    exact (stpU_perm (l := backU ss m) a.1 (by rw [backU_len]; omega)).trans (backU_perm ss fun x hx => h x (List.mem_cons_of_mem _ hx))
/-- the network sorts what stands at least as far in front -/
theorem back_reach : ∀ (ss : List Int) {m : List Int}, okS m.length ss → dom (runL ss (backU ss m)) m
  | [], _, _ => dom_refl _
  | s :: ss, m, h => by
    have a := h s List.mem_cons_self
    have h' : okS m.length ss := fun x hx => h x (List.mem_cons_of_mem _ hx)
    have hl := backU_len ss m
    have up : dom (stp (stpU (backU ss m) s) s) (backU ss m) := fun t p => by
      rw [cp_stp a.1 (by rw [stpU_len, hl]; omega)]
      by_cases hp : p = s.toNat
      · rw [if_pos hp, cp_stpU a.1 (by rw [hl]; omega), cp_stpU a.1 (by rw [hl]; omega), if_neg (by omega), if_neg (by omega), hp]
        have u := cp_mono t (backU ss m) s.toNat
        have v := cp_mono t (backU ss m) (s.toNat - 1)
        rw [show s.toNat - 1 + 1 = s.toNat by omega] at v
        omega
      · rw [if_neg hp, cp_stpU a.1 (by rw [hl]; omega), if_neg hp]
        exact Nat.le_refl _
    have := dom_run ss (l := stp (stpU (backU ss m) s) s) (m := backU ss m) (by rw [stp_len, stpU_len, hl]; exact h') (by rw [stp_len, stpU_len]) up
    exact dom_trans this (back_reach ss h')
/-! ### the ascending list -/
def asc (w : Nat) : List Int := (List.range w).map fun (i : Nat) => (1 : Int) + i
theorem asc_len (w : Nat) : (asc w).length = w := by unfold asc; rw [List.length_map, List.length_range]
theorem asc_succ (w : Nat) : asc (w + 1) = asc w ++ [((w + 1 : Nat) : Int)] := by
  unfold asc
  rw [List.range_succ, List.map_append, List.map_singleton, show (1 : Int) + (w : Int) = ((w + 1 : Nat) : Int) by omega]
theorem asc_rev : ∀ w, (asc w).reverse = desc w
  | 0 => rfl
  | w + 1 => by rw [asc_succ, List.reverse_append, desc, asc_rev w]; rfl
theorem asc_perm (w : Nat) : (asc w).Perm (desc w) := by rw [← asc_rev]; exact (List.reverse_perm _).symm
theorem asc_asc (w : Nat) : ascB (asc w) = true := by
  apply pair_asc
  unfold asc
  rw [List.pairwise_map]
  exact List.pairwise_lt_range.imp fun h => by omega
theorem cp_split (t : Int) (l : List Int) (p : Nat) : cp t l l.length = cp t l p + ((l.drop p).filter fun x => decide (x ≤ t)).length := by
  unfold cp
  rw [List.take_length]
  conv => lhs; rw [← List.take_append_drop p l]
  rw [List.filter_append, List.length_append]
theorem cp_rev (t : Int) (l : List Int) (p : Nat) : cp t l.reverse p + cp t l (l.length - p) = cp t l l.length := by
  rw [cp_split t l (l.length - p)]
  unfold cp
  rw [List.take_reverse, List.filter_reverse, List.length_reverse]
  omega
theorem dom_asc {w : Nat} {l : List Int} (hp : l.Perm (desc w)) (h : dom l (asc w)) : l = asc w := by
  have hl : l.length = w := by rw [hp.length_eq, desc_len]
  have pm : l.Perm (asc w) := hp.trans (asc_perm w).symm
  have e : l.reverse = desc w := by
    refine dom_base w _ ((List.reverse_perm l).trans hp) fun t p => ?_
    have u1 := cp_rev t l p
    have u2 := cp_rev t (asc w) p
    have u3 := cp_perm (t := t) (p := w) pm (by omega)
    have u4 := h t (w - p)
    rw [hl] at u1
    rw [asc_len, asc_rev] at u2
    omega
  rw [← asc_rev] at e
  exact List.reverse_inj.mp e
/-- the hardest list -/
def hard (w : Nat) (ss : List Int) : List Int := backU ss (asc w)
theorem hard_len (w : Nat) (ss : List Int) : (hard w ss).length = w := by unfold hard; rw [backU_len, asc_len]
theorem hard_perm {w : Nat} {ss : List Int} (h : okS w ss) : (hard w ss).Perm (desc w) := (backU_perm ss (m := asc w) (by rw [asc_len]; exact h)).trans (asc_perm w)
theorem hard_fold (w : Nat) (ss : List Int) : ss.reverse.foldl stpU (asc w) = hard w ss := List.foldl_reverse
end Nw

/-! DL64: enumerate of a slot's list, evaluated. -/
namespace DL
open PySem (Str)
open Nw
end DL

/-! DL65: in, not in, for nested data; the counts of a network and of its hardest list. -/
namespace DL
open PySem PySem.Spec PyProof.Rows L2
section
variable {ca : Nat → Addr} {K : PySem.W.Frag} {Hf H : Hp} {X : Cx}
end
end DL
namespace Nw
open DL
/-- the descending list's counts -/
theorem cp_dsc : ∀ (w : Nat) (t p : Nat), t ≤ w → p ≤ w → cp (t : Int) (desc w) p = p - (w - t)
  | 0, t, p, h1, h2 => by
    obtain rfl : p = 0 := by omega
    rw [cp_0]; omega
  | w + 1, t, 0, _, _ => by rw [cp_0]; omega
  | w + 1, t, p + 1, h1, h2 => by
    rw [desc, cp_cons]
    unfold sm
    by_cases h : t = w + 1
    · subst h
      rw [if_pos (by omega)]
      have hp := cp_split ((w + 1 : Nat) : Int) (desc w) p
      have full : ∀ (l : List Int) (p : Nat), (∀ x ∈ l, x ≤ ((w + 1 : Nat) : Int)) → p ≤ l.length → cp ((w + 1 : Nat) : Int) l p = p := fun l p hl hp => by
        unfold cp
        rw [List.filter_eq_self.mpr (fun x hx => decide_eq_true (hl x (List.mem_of_mem_take hx))), List.length_take]
        omega
      rw [full (desc w) p (fun x hx => by have := (dom_base.desc_mem w x hx).2; omega) (by rw [desc_len]; omega)]
      omega
    · rw [if_neg (by omega), cp_dsc w t p (by omega) (by omega)]
      omega
end Nw

/-! DL66: all arrangements; all choices of steps. -/
namespace Nw
open DL
end Nw

set_option maxHeartbeats 4000000
/-! DL67: dict comprehensions of plain values, d[k]. -/
namespace DL
open PySem PySem.Spec PyProof.Rows L2
def valD (kvs : List (Key × D)) (k : Key) : Option D := (kvs.find? fun kv => decide (kv.1 = k)).map (·.2)
section
variable {ca : Nat → Addr} {K : PySem.W.Frag} {Hf H Hf1 H1 Hf2 H2 : Hp} {S S1 S2 P P1 P2 : Rg} {R R1 R2 : Nat → Rg} {pp qq : Prop} {σ σ' : L2.St} {st st' : Sl} {v : V} {d : D} {vs : List V} {ds : List D} {X : Cx} {L : List Nat}
/-- the new dict, beside all -/
structure AccD (ca : Nat → Addr) (K : PySem.W.Frag) (Hf H : Hp) (Dl : Addr) (acc : List (Key × D)) (R : Nat → Rg) (σ : L2.St) (st : Sl) : Prop where
  pr : PR ca K Hf H (fun b => b = Dl ∨ Em b) (∃ kvs : List (Key × V), H Dl = some (.dK kvs) ∧ kvs.map (·.1) = acc.map (·.1) ∧ RepL ca K Hf H Em (kvs.map (·.2)) (acc.map (·.2))) R σ st
end
end DL

/-! DL68: pairs in their order: the resolved pairs; places as a dict. -/
namespace Nw
open DL
/-- the smaller number stands to the left -/
def res (l : List Int) (p : Int × Int) : Bool := decide (l.idxOf p.1 < l.idxOf p.2)
end Nw
namespace DL
open Nw
def penc (p : Int × Int) : D := .tup [.int p.1, .int p.2]
theorem colds_penc (l : List (Int × Int)) : colds (l.map penc) = true := by
  unfold colds
  rw [List.all_map]
  exact List.all_eq_true.mpr fun _ _ => rfl
end DL

/-! DL69: name = [.. for .. for ..]. -/
namespace DL
open PySem PySem.Spec PyProof.Rows L2
section
variable {ca : Nat → Addr} {X : Cx} {L : List Nat}
end
end DL

/-! DL70: sorting by passes; the steps that are missing; networks read backwards. -/
namespace Nw
open DL
def pass (w : Nat) : List Int := (List.range (w - 1)).map fun (i : Nat) => (1 : Int) + (i : Int)
def passes (w : Nat) : Nat → List Int
  | 0 => []
  | n + 1 => passes w n ++ pass w
/-- the steps that passes take -/
def between (w : Nat) (l : List Int) : List Int := actS (passes w w) l
/-! ### read backwards -/
def comp (w : Nat) (l : List Int) : List Int := l.map fun x => (w : Int) + 1 - x
end Nw

/-! DL71: the full network. -/
namespace Nw
open DL
end Nw

/-! DL72: numbers named by their places in another list. -/
namespace Nw
open DL
end Nw
namespace DL
end DL

/-! DL73: networks read backwards: lengths; what completes. -/
namespace Nw
open DL
end Nw

/-! DL74: mirror images. -/
namespace Nw
open DL
/-- read from the right, with opposite signs -/
def turn (l : List Int) : List Int := l.reverse.map fun x => -x
end Nw

/-! DL75: words of exchanges as permutations of places. -/
namespace Nw
open DL
end Nw

/-! DL76: the mirror image's profile; its resolved pairs. -/
namespace Nw
open DL
end Nw

/-! DL77: the mirror image's profile and rest. -/
namespace Nw
open DL
end Nw

set_option maxHeartbeats 4000000
/-! DL78: sorted(set(a list of whole numbers)), fewer than 64 of them. -/
namespace DL
open PySem PySem.Spec PyProof.Rows L2
/-- put in its place, once -/
def insU (k : Int) : List Int → List Int
  | [] => [k]
  | a :: l => if k < a then k :: a :: l else if k = a then a :: l else a :: insU k l
def srtS (ns : List Int) : List Int := ns.foldr insU []
theorem insU_mem {k j : Int} : ∀ {l : List Int}, j ∈ insU k l ↔ j = k ∨ j ∈ l
  | [] => by simp [insU]
  | a :: l => by
    have ih := insU_mem (k := k) (j := j) (l := l)
    unfold insU
    split
    · simp
    · split
      · rename_i h
        subst h
        simp
      · simp only [List.mem_cons, ih]
        constructor
        · rintro (h | h | h)
          · exact .inr (.inl h)
          · exact .inl h
          · exact .inr (.inr h)
        · rintro (h | h | h)
          · exact .inr (.inl h)
          · exact .inl h
          · exact .inr (.inr h)
theorem insU_up {k : Int} : ∀ {l : List Int}, l.Pairwise (· < ·) → (insU k l).Pairwise (· < ·)
  | [], _ => by simp [insU]
  | a :: l, h => by
    have h1 : ∀ b, b ∈ l → a < b := fun b hb => List.rel_of_pairwise_cons h hb
    have h2 := List.Pairwise.of_cons h
    unfold insU
    split
    · rename_i c
      exact List.Pairwise.cons (fun b hb => (List.mem_cons.mp hb).elim (fun e => by rw [e]; exact c) fun e => Int.lt_trans c (h1 b e)) h
    · split
      · exact h
      · exact List.Pairwise.cons (fun b hb => (insU_mem.mp hb).elim (fun e => by rw [e]; omega) fun e => h1 b e) (insU_up h2)
theorem srtS_mem {j : Int} : ∀ {ns : List Int}, j ∈ srtS ns ↔ j ∈ ns
  | [] => by simp [srtS]
  | a :: l => by
    have ih := srtS_mem (j := j) (ns := l)
    show j ∈ insU a (srtS l) ↔ _
    rw [insU_mem, ih, List.mem_cons]
theorem srtS_up : ∀ (ns : List Int), (srtS ns).Pairwise (· < ·)
  | [] => List.Pairwise.nil
  | a :: l => insU_up (srtS_up l)
theorem insU_len {k : Int} : ∀ (l : List Int), (insU k l).length ≤ l.length + 1
  | [] => Nat.le_refl _
  | a :: l => by
    have := insU_len (k := k) l
    unfold insU
    split
    · simp
    · split
      · simp
      · simp only [List.length_cons]; omega
theorem srtS_len : ∀ (ns : List Int), (srtS ns).length ≤ ns.length
  | [] => Nat.le_refl _
  | a :: l => by
    have := insU_len (k := a) (srtS l)
    have := srtS_len l
    show (insU a (srtS l)).length ≤ _
    rw [List.length_cons]
    omega
/-- rising lists of the same numbers are one -/
theorem up_ext : ∀ {xs ys : List Int}, xs.Pairwise (· < ·) → ys.Pairwise (· < ·) → (∀ k : Int, k ∈ xs ↔ k ∈ ys) → xs = ys
  | [], [], _, _, _ => rfl
  | [], b :: _, _, _, h => absurd ((h b).mpr (by simp)) (by simp)
  | a :: _, [], _, _, h => absurd ((h a).mp (by simp)) (by simp)
  | a :: xs, b :: ys, hx, hy, h => by
    have x1 := fun j (hj : j ∈ xs) => List.rel_of_pairwise_cons hx hj
    have y1 := fun j (hj : j ∈ ys) => List.rel_of_pairwise_cons hy hj
    have e : a = b := by
      rcases List.mem_cons.mp ((h a).mp (by simp)) with e | e
      · exact e
      · rcases List.mem_cons.mp ((h b).mpr (by simp)) with z | z
        · exact z.symm
        · have := y1 a e
          have := x1 b z
          omega
    subst e
    rw [up_ext (List.Pairwise.of_cons hx) (List.Pairwise.of_cons hy) fun k => by
      have := h k
      simp only [List.mem_cons] at this
      constructor
      · intro z
        rcases this.mp (.inr z) with e | e
        · have := x1 k z
          omega
        · exact e
      · intro z
        rcases this.mpr (.inr z) with e | e
        · have := y1 k z
          omega
        · exact e]
section
variable {P : Program} {w : World} {A : Around} {E : Value → Shared → Prop} {s : Shared}
set_option maxHeartbeats 3200000 in
/-- set(xs), xs a list of whole numbers -/
theorem set_of_list {u : Addr} {us : Array Value} (ns : List Int) {Q : Value → Shared → Prop} (h0 : A.handled = none) (hu : s.heap.IsList u us) (hi : IntsAre us.toList ns) (hb : ns.length + 1 < scanBound)
    (h : ∀ (h' : Heap) (tk c : Nat), SetR w h' s.heap.objs.size (fun j => decide (j ∈ ns)) c → c ≤ ns.length → (∀ b o, s.heap.get? b = some o → h'.get? b = some o) → Q (.ref s.heap.objs.size) { s with heap := h', toks := tk }) :
    wpAny (model P w) A (call (.type "set") [.ref u]) Q E s := by
  have zu : us.size = ns.length := by
    have q := hi.length
    rwa [Array.length_toList] at q
  obtain ⟨_, _, mro⟩ := PySem.F.called_set.mro
  have made := PySem.F.called_set.made
  have sub := PySem.F.called_set.sub
  refine wpAny_call (codeAny_of_tree ?_)
  show wpAny _ _ (callAny (.type "set") ⟨[.ref u], []⟩) _ _ s
  refine wpAny_pure ⟨Code.quiet_builtin _ (by decide +kernel), codeAny_builtin PySem.F.entry_type_call ?_⟩
  rw [Around.under_plain (weight_type_call_type "set" [.ref u] []) rfl]
  have n1 := PySem.F.called_set.notType
  have n2 := PySem.F.called_set.canCreate
  have n3 := PySem.F.typeCall_set_1 (.ref u)
  repeat (any_goals (first | (assumption) | (wp_step)))
  refine codeAny_mono (code_set_led1 (.ref u) (E := E) (Q₁ := fun v s1 => v = .ref s.heap.objs.size ∧ s1 = { s with heap := s.heap.push ({ cls := .type "set", dict := none, data := .set #[] 0 (.fresh 0 0 (!w.params.followText "set-order")) } : Obj) }) ⟨rfl, rfl⟩) fun r s1 hr => ?_
  cases r with
  | error e => exact hr
  | ok fl =>
    cases fl with
    | ret obj =>
      obtain ⟨rfl, rfl⟩ := hr
      have gS : (s.heap.push ({ cls := .type "set", dict := none, data := .set #[] 0 (.fresh 0 0 (!w.params.followText "set-order")) } : Obj)).get? s.heap.objs.size = some ({ cls := .type "set", dict := none, data := .set #[] 0 (.fresh 0 0 (!w.params.followText "set-order")) } : Obj) := Heap.get?_push_size _ rfl
      have gT : Shared.TypeIs { s with heap := s.heap.push ({ cls := .type "set", dict := none, data := .set #[] 0 (.fresh 0 0 (!w.params.followText "set-order")) } : Obj) } (.ref s.heap.objs.size) "set" := ⟨_, gS, rfl⟩
      have n4 := PySem.F.called_set.init.lookup
      have n5 := PySem.F.called_set.init.bind (.ref s.heap.objs.size)
      repeat (any_goals (first | (assumption) | (wp_step)))
      refine codeAny_mono (codeAny_call_builtin (R := wants (fun r s2 => r = .none ∧ ∃ h' tk c, s2 = { s with heap := h', toks := tk } ∧ SetR w h' s.heap.objs.size (fun j => decide (j ∈ ns)) c ∧ c ≤ ns.length ∧
          ∀ b o, s.heap.get? b = some o → h'.get? b = some o) E) PySem.F.called_set.init.plain PySem.F.entry_set_init (check_set_init_1 gT ?_)) fun r2 s2 hr2 => ?_
      · obtain ⟨⟨ucls, udict, udata, uslots⟩, gu, uc, un, ud⟩ := hu
        simp only at uc ud
        subst uc ud
        have gu' : (s.heap.push ({ cls := .type "set", dict := none, data := .set #[] 0 (.fresh 0 0 (!w.params.followText "set-order")) } : Obj)).get? u = some { cls := .type "list", dict := udict, data := .seq us un, slots := uslots } := Heap.get?_push_of_some _ gu
        have n6 := PySem.F.sub_list_set
        have n7 := PySem.F.sub_list_frozenset
        have n8 : (Value.type "list" == Value.type "dict") = false := by decide +kernel
        have gl : (s.heap.push ({ cls := .type "set", dict := none, data := .set #[] 0 (.fresh 0 0 (!w.params.followText "set-order")) } : Obj)).IsList u us := ⟨_, gu', rfl, un, rfl⟩
        unfold Builtin.«set.__init__» noKeywords Builtin.Frozenset.updateFrom
        generalize ePI : pyIter = PI
        wp_walk
        subst ePI
        refine wpAny_pyIter_list gl ?_
        refine wpAny_bind (wpAny_runValue ?_)
        have ltu : u < s.heap.objs.size := Heap.lt_size gu
        have h3 : A.in1.in1.in1.handled = none := by simp only [Around.in1]; exact h0
        have sz1 : (s.heap.push ({ cls := .type "set", dict := none, data := .set #[] 0 (.fresh 0 0 (!w.params.followText "set-order")) } : Obj)).objs.size = s.heap.objs.size + 1 := Heap.size_push ..
        have ne1 : u ≠ (s.heap.push ({ cls := .type "set", dict := none, data := .set #[] 0 (.fresh 0 0 (!w.params.followText "set-order")) } : Obj)).objs.size := by rw [sz1]; exact Nat.ne_of_lt (Nat.lt_succ_of_lt ltu)
        have ne2 : s.heap.objs.size ∉ [(s.heap.push ({ cls := .type "set", dict := none, data := .set #[] 0 (.fresh 0 0 (!w.params.followText "set-order")) } : Obj)).objs.size, u] := by
          rw [sz1]
          intro z
          simp only [List.mem_cons, List.not_mem_nil, or_false] at z
          exact z.elim (fun e => Nat.ne_of_lt (Nat.lt_succ_self _) e) fun e => Nat.ne_of_gt ltu e
        have val : ∀ (i : Nat) (v : Value), us[i]? = some v → ∃ k t, ns[i]? = some k ∧ v = .int k t := fun i v hv => by
          have lt : i < ns.length := by rw [← zu]; exact (Array.getElem?_eq_some_iff.mp hv).1
          obtain ⟨t, e⟩ := PyProof.Rows.IntsAre.int_at hi i v (by rw [Array.getElem?_toList, hv])
          refine ⟨ns[i], t, List.getElem?_eq_getElem lt, ?_⟩
          rw [e, List.getD_eq_getElem?_getD, List.getElem?_eq_getElem lt]
          rfl
        refine set_update_ints ((Walks.list h3 _ u ne1 us).toS) s.heap.objs.size ne2 ns zu hb val (us.size - 0) 0 _ (by omega) (Nat.zero_le _) ⟨⟨_, Heap.get?_push_size _ rfl, rfl, rfl⟩, gl.push _⟩ ?first ?last
        case first =>
          exact ⟨0, Nat.le_refl 0, setR_new_at (Heap.get?_push_of_some _ gS)⟩
        case last =>
          rintro ⟨h', g2, d2, tk, os2⟩ c mv hc new
          have e1 : g2 = s.gens := mv.gens
          have e2 : d2 = s.drawn := mv.drawn
          have e3 : os2 = s.os := mv.os
          subst e1 e2 e3
          show wpAny _ _ _ _ _ _
          refine wpAny_pure ?_
          show wpAny _ _ (ret Value.none) _ _ _
          rw [zu] at hc
          refine wpAny_pure ⟨rfl, h', tk, c, rfl, new, hc, fun b o e => ?_⟩
          have lt : b < s.heap.objs.size := Heap.lt_size e
          exact mv.heap b o (by
            rw [sz1]
            intro z
            simp only [List.mem_cons, List.not_mem_nil, or_false] at z
            exact z.elim (fun e => Nat.ne_of_lt lt e) fun e => Nat.ne_of_lt (Nat.lt_succ_of_lt lt) e) (Heap.get?_push_of_some _ (Heap.get?_push_of_some _ e))
      · cases r2 with
        | error e => exact hr2
        | ok fl2 =>
          cases fl2 with
          | ret r =>
            obtain ⟨rfl, h', tk, c, rfl, new, hc, kp⟩ := hr2
            repeat (any_goals (first | (assumption) | (wp_step)))
            exact h _ _ _ new hc kp
          | _ => exact hr2.elim
    | _ => exact hr.elim
end
/-- sorted(set(e)) -/
def tSortS (K : PySem.W.Frag) (te : TE) : TE := fun σ H Q => te σ H fun x H1 => ∃ (u : Addr) (ns : List Int), x = .ref u ∧ SqL K H1 u (ns.map V.int) ∧ ns.length < 64 ∧ ∀ p, H1 p = none → Q (.ref p) (upd H1 p (.lst ((srtS ns).map V.int)))
theorem pe_sortS {X : Cx} {e : Expr} {te : TE} {p p2 q pos : Pos} (hc : X.calm = true) (hg : Gl X "sorted") (hm : X.mg "sorted" = none) (hg2 : Gl X "set") (hm2 : X.mg "set" = none) (he : PE X e te)
    (n1 : starEach [.Call (.Name "set" p2) [e] [] q] X.env = (false, eval (.Call (.Name "set" p2) [e] [] q) X.env) :: starEach [] X.env := by rfl)
    (n2 : starEach [e] X.env = (false, eval e X.env) :: starEach [] X.env := by rfl) : PE X (.Call (.Name "sorted" p) [.Call (.Name "set" p2) [e] [] q] [] pos) (tSortS X.K te) := by
  refine ⟨fun pins
      s σ H Q I h => ?_⟩
  refine Call_ (ld_blt I hg hm boot_sorted ?_)
  refine PyProof.Rows.callWith_builtin1 (PyProof.Rows.args_cons ?_ n1) n1 rfl
  refine Call_ (ld_blt I hg2 hm2 boot_set ?_)
  refine PyProof.Rows.callWith_type1 (PyProof.Rows.args_cons (thn (he.run pins s σ H _ I h) fun v s1 ⟨x, H1, I1, r1, u, ns, ex, hs, h64, q1⟩ => PyProof.Rows.args_nil ?_) n2) n2 rfl
  subst ex
  cases r1
  obtain ⟨its, rv, pl, _⟩ := I1.list hs
  refine set_of_list ns (I1.ok.hd hc) pl.isList (by simpa using ints_of_vals rv) (by unfold scanBound; omega) fun h' tk c new hcn kp => ?_
  obtain ⟨s2, hs2⟩ : ∃ s2 : Shared, s2 = { s1 with heap := h', toks := tk } := ⟨_, rfl⟩
  have I2 : Inv X pins σ H1 s2 := by rw [hs2]; exact I1.kept kp
  have new2 : SetR X.w s2.heap s1.heap.objs.size (fun j => decide (j ∈ ns)) c := by rw [hs2]; exact new
  rw [← hs2]
  refine PyProof.Rows.args_nil ?_
  refine sorted_set new2 (I2.ok.hd hc) (by omega) fun s' z out c' ms k g o hz hg' hi up mem hl => ?_
  have e : ms = srtS ns := up_ext up (srtS_up ns) fun k => by
    rw [mem k, decide_eq_true_iff]
    exact srtS_mem.symm
  have free : H1 z = none := I2.hok.fresh hz
  have J : Inv X pins σ (upd H1 z (.lst (ms.map V.int))) { s2 with heap := s'.heap, gens := s'.gens, drawn := s'.drawn, toks := s'.toks } :=
    I2.call (ch := []) (Un.laid k hz free) (I2.hok.laid k hz ⟨by rw [List.length_map, hl, sizeLine_eq]; omega, out.toList, c', vals_of_ints hi, hg'⟩) (by rw [g]; exact I2.bare) (fun _ w => nomatch w)
  have es : s' = { s2 with heap := s'.heap, gens := s'.gens, drawn := s'.drawn, toks := s'.toks } := by
    cases s'
    cases s2
    cases o
    rfl
  rw [es]
  exact ⟨.ref z, _, J, rfl, by rw [e]; exact q1 z free⟩
def oSortS : List D → Option Out
  | [x] => ((lstItems x).bind asInts).bind fun ns => if ns.length < 64 then some (.newL (nums (srtS ns))) else none
  | _ => none
theorem ce_sortS {X : Cx} {ca : Nat → Addr} {a : Expr} {oa : Opd} {p p2 pos pos2 : Pos} (hc : X.calm = true) (hg : Gl X "sorted") (hm : X.mg "sorted" = none) (hg2 : Gl X "set") (hm2 : X.mg "set" = none) (ha : CO ca X a oa)
    (n1 : starEach [.Call (.Name "set" p2) [a] [] pos2] X.env = (false, eval (.Call (.Name "set" p2) [a] [] pos2) X.env) :: starEach [] X.env := by rfl)
    (n2 : starEach [a] X.env = (false, eval a X.env) :: starEach [] X.env := by rfl) :
    CE ca X (.Call (.Name "sorted" p) [.Call (.Name "set" p2) [a] [] pos2] [] pos) (eOp oSortS [oa]) :=
  ce_op (es := [a]) (rl := rl1 fun x H Q => ∃ (u : Addr) (ns : List Int), x = .ref u ∧ SqL X.K H u (ns.map V.int) ∧ ns.length < 64 ∧ ∀ q, H q = none → Q (.ref q) (upd H q (.lst ((srtS ns).map V.int)))) (fun σ H Q h => we_of (pe_sortS hc hg hm hg2 hm2 (we_pe X a) n1 n2) h) (.cons ha .nil) fun Hf H vs ds o Q hx rd h q => by
    match ds, h with
    | [x], h =>
      dsimp only [oSortS] at h
      cases ei : lstItems x with
      | none => simp [ei] at h
      | some xs =>
        rw [ei] at h
        cases en : asInts xs with
        | none => simp [en] at h
        | some ns =>
          simp only [Option.bind_some, en] at h
          split at h
          · rename_i h64
            cases h
            obtain ⟨v, S, e1, r1⟩ := rdl1 rd rfl
            subst e1
            obtain ⟨a, vs, T, rfl, e2, r3⟩ := rep_lstItems hx r1 ei
            rw [repL_ints r3 en] at e2
            exact ⟨a, ns, rfl, e2, h64, fun p free => q p _ free (repL_nums _)⟩
          · cases h
theorem oSortS_l {o : Bool} {l : List Int} (h : l.length < 64) : oSortS [.lst o (nums l)] = some (.newL (nums (srtS l))) := by
  show ((lstItems (.lst o (nums l))).bind asInts).bind _ = _
  rw [show lstItems (.lst o (nums l)) = some (nums l) from rfl, Option.bind_some, nums_as, Option.bind_some, if_pos h]
end DL

set_option maxHeartbeats 1000000
/-! DL79: x, *xs = a tuple. -/
namespace DL
open PySem PySem.Spec PyProof.Rows L2
section
variable {ca : Nat → Addr} {X : Cx} {L : List Nat}
end
end DL

/-! DL80: == and != that only ask the lengths: with an empty list or tuple, or lists of two lengths. -/
namespace DL
open PySem PySem.Spec PyProof.Rows L2 SeqAt
section
variable {X : Cx}
end
section
variable {ca : Nat → Addr} {K : PySem.W.Frag}
end
end DL

/-! DL81: the rest between two results: it acts fully, it leads from the one to the other, and it is the only one of its length. -/
namespace Nw
open DL
end Nw

/-! DL82: a comprehension whose test and item may freeze what the slots hold. -/
namespace DL
theorem xLcS {α : Type} {g : MG} {t : MT} {e : ME} {vs : List Nat} {st st1 : Sl} {src : Sl → Res (List D)} (I : Sl → Prop) (enc φ : α → D) (p : α → Bool) (l : List α) {ds : List D} (hs : src st = .ok ds st1) (hd : ds = l.map enc) (hl : l.length ≤ 16777216) (h0 : I (wipeS st1 vs))
    (h : ∀ x ∈ l, ∀ s, I s → ∃ s1 s2, g (enc x) s = .ok () s1 ∧ t s1 = .ok (p x) s2 ∧ (p x = false → I (wipeS s2 vs)) ∧ (p x = true → ∃ s3, e s2 = .ok (φ x) s3 ∧ I (wipeS s3 vs))) :
    ∃ st2, eLc src g t e vs st = .ok (.lst true ((l.filter p).map φ)) st2 ∧ I st2 := by
  subst hd
  obtain ⟨acc, st2, e2, h2, h3⟩ := compD_ok (g := g) (t := t) (e := e) (vs := vs) (fun i s acc => I s ∧ acc = ((l.take i).filter p).map φ) (l.map enc) 0 (wipeS st1 vs) [] ⟨h0, rfl⟩ (fun i d s acc he hI => by
    obtain ⟨hI, ha⟩ := hI
    rw [Nat.zero_add] at ha
    rw [List.getElem?_map] at he
    cases ex : l[i]? with
    | none => rw [ex] at he; cases he
    | some x =>
      rw [ex] at he
      cases he
      have lt : i < l.length := (List.getElem?_eq_some_iff.mp ex).1
      obtain ⟨s1, s2, a1, a2, a3, a4⟩ := h x (List.mem_of_getElem? ex) s hI
      have tk : l.take (0 + i + 1) = l.take i ++ [x] := by rw [Nat.zero_add, List.take_add_one, ex]; rfl
      refine ⟨s1, p x, s2, a1, a2, fun f => ⟨a3 f, ?_⟩, fun f => ⟨?_, ?_⟩⟩
      · rw [tk, List.filter_append, List.filter_cons, if_neg (by rw [f]; decide), List.filter_nil, List.append_nil]
        exact ha
      · rw [ha, List.length_map]
        have := List.length_filter_le p (l.take i)
        rw [List.length_take] at this
        omega
      · obtain ⟨s3, b1, b2⟩ := a4 f
        refine ⟨_, s3, b1, b2, ?_⟩
        rw [tk, List.filter_append, List.filter_cons, if_pos f, List.filter_nil, List.map_append, ha]
        rfl)
  refine ⟨st2, ?_, h2⟩
  rw [eLc_v hs e2, h3, List.length_map, Nat.zero_add, List.take_length]
end DL
namespace Nw
end Nw

/-! DL83: a, b, c = x, y, z of things that nobody owns. -/
namespace DL
open PySem L2 PyProof.Rows
section
variable {ca : Nat → Addr} {X : Cx} {L : List Nat}
end
end DL

/-! DL84: the steps that are taken back from the end, until a given result is reached: with the places of these steps. -/
namespace Nw
open DL
end Nw

/-! DL85: the text of nested data in which short texts stand, too. -/
namespace DL
open PySem (Str PyData)
/-- a short text of a program -/
def okT (x : Str) : Bool := cpsOk (PyData.shown (.str x)) && (PyData.str x).canLay0 && (PyData.str x).showable && (PyData.str x).leavesShort 26
mutual
/-- short texts, no dicts, numbers of at most 25 digits -/
def smt : PyData → Bool
  | .none => true
  | .bool _ => true
  | .int i => decide (i.natAbs < 10 ^ 25)
  | .str x => okT x
  | .list xs => smtA xs
  | .tuple xs => smtA xs
  | .dict _ => false
def smtA : List PyData → Bool
  | [] => true
  | x :: xs => smt x && smtA xs
end
mutual
theorem smt_cps : ∀ p : PyData, smt p = true → cpsOk p.shown = true
  | .none, _ => cps_str "None"
  | .bool b, _ => by cases b <;> exact cps_str _
  | .int i, _ => cps_str (toString i)
  | .str _, h => by
    rw [smt, okT, Bool.and_eq_true, Bool.and_eq_true, Bool.and_eq_true] at h
    exact h.1.1.1
  | .list xs, h => by rw [smt] at h; rw [PyData.shown]; exact cps_list (smtA_cps xs h)
  | .tuple xs, h => by rw [smt] at h; rw [PyData.shown]; exact cps_tup (smtA_cps xs h)
  | .dict _, h => by rw [smt] at h; cases h
theorem smtA_cps : ∀ xs : List PyData, smtA xs = true → ∀ t ∈ PyData.shownAll xs, cpsOk t = true
  | [], _, t, ht => by rw [PyData.shownAll] at ht; cases ht
  | x :: xs, h, t, ht => by
    rw [smtA, Bool.and_eq_true] at h
    rw [PyData.shownAll] at ht
    rcases List.mem_cons.mp ht with rfl | ht
    · exact smt_cps x h.1
    · exact smtA_cps xs h.2 t ht
end
mutual
theorem smt_all : ∀ p : PyData, smt p = true → p.canLay0 = true ∧ p.showable = true ∧ p.leavesShort 26 = true
  | .none, _ => ⟨rfl, rfl, rfl⟩
  | .bool _, _ => ⟨rfl, rfl, rfl⟩
  | .int i, h => by
    rw [smt, decide_eq_true_eq] at h
    refine ⟨rfl, ?_, ?_⟩
    · rw [PyData.showable, decide_eq_true_eq]
      have := log_small h
      omega
    · rw [PyData.leavesShort, decide_eq_true_eq]
      exact int_len h
  | .str _, h => by
    rw [smt, okT, Bool.and_eq_true, Bool.and_eq_true, Bool.and_eq_true] at h
    exact ⟨h.1.1.2, h.1.2, h.2⟩
  | .list xs, h => by rw [smt] at h; rw [PyData.canLay0, PyData.showable, PyData.leavesShort]; exact smtA_all xs h
  | .tuple xs, h => by rw [smt] at h; rw [PyData.canLay0, PyData.showable, PyData.leavesShort]; exact smtA_all xs h
  | .dict _, h => by rw [smt] at h; cases h
theorem smtA_all : ∀ xs : List PyData, smtA xs = true → PyData.canLayAll0 xs = true ∧ PyData.showableAll xs = true ∧ PyData.leavesShortAll 26 xs = true
  | [], _ => ⟨rfl, rfl, rfl⟩
  | x :: xs, h => by
    rw [smtA, Bool.and_eq_true] at h
    obtain ⟨a, b, c⟩ := smt_all x h.1
    obtain ⟨a2, b2, c2⟩ := smtA_all xs h.2
    rw [PyData.canLayAll0, PyData.showableAll, PyData.leavesShortAll, a, b, c, a2, b2, c2]
    exact ⟨rfl, rfl, rfl⟩
end
/-- data whose text is told: how heavy, how deep -/
structure Rq (p : PyData) : Prop where
  s : smt p = true
  w : p.weight ≤ 500000
  d : p.depth ≤ 60
theorem Rq.ok {p : PyData} (h : Rq p) : rpOk p = true := by
  obtain ⟨a, b, c⟩ := smt_all p h.s
  have l := PyData.shown_le 26 (by decide) p c
  have w := h.w
  have l2 : p.shown.length ≤ 16777216 := by omega
  unfold rpOk
  rw [a, b, PyData.hasDict_of_canLay p a, decide_eq_true (Nat.le_trans h.d (by decide)), decide_eq_true l2]
  rfl
theorem Rq.repr {x : D} {p : PyData} (h : Rq p) (e : toPy x = p) : oRepr [x] = some (.val (.str p.shown)) := by
  subst e
  show (if _ then _ else _) = _
  rw [if_pos h.ok]
theorem Rq.shaped {p : PyData} (h : Rq p) : PySem.SeqAt.shaped (toPy (.str p.shown)) = true := by
  rw [toPy]
  unfold PySem.SeqAt.shaped
  rw [PyData.canLay0, PyData.depth]
  have := smt_cps p h.s
  unfold cpsOk at this
  rw [show PyData.strOk p.shown = true from this]
  rfl
theorem Rq.ne {p : PyData} (h : Rq p) : f2 pNe [.str p.shown, .str p.shown] = some (.val (.bl false)) := by
  refine ne_of ?_
  unfold pNe
  rw [h.shaped, toPy, PyData.eqv]
  simp
theorem Rq.eq {p : PyData} (h : Rq p) : f2 pEq [.str p.shown, .str p.shown] = some (.val (.bl true)) := by
  refine eq_of ?_
  unfold pEq
  rw [h.shaped, toPy, PyData.eqv]
  simp

end DL

/-! DL86: which lists of any numbers a network sorts: told by the places of the numbers up to each threshold. -/
namespace Nw
open DL
/-- m holds at no place more numbers up to c in front than l holds numbers up to t -/
def domT (t c : Int) (l m : List Int) : Prop := ∀ p, cp c m p ≤ cp t l p
theorem domT_run {t c : Int} : ∀ (ss : List Int) {l m : List Int}, okS l.length ss → l.length = m.length → domT t c l m → domT t c (runL ss l) (runL ss m)
  | [], _, _, _, _, h => h
  | s :: ss, l, m, hs, hl, h => by
    have a := hs s List.mem_cons_self
    refine domT_run ss (l := stp l s) (m := stp m s) (by rw [stp_len]; exact fun x hx => hs x (List.mem_cons_of_mem _ hx)) (by rw [stp_len, stp_len, hl]) fun p => ?_
    rw [cp_stp a.1 (by omega), cp_stp a.1 (by omega)]
    split
    · have a := h (s.toNat + 1)
      have b := h (s.toNat - 1)
      omega
    · exact h p
theorem domT_back {t c : Int} : ∀ (ss : List Int) {l m : List Int}, okS l.length ss → l.length = m.length → domT t c (runL ss l) m → domT t c l (backU ss m)
  | [], _, _, _, _, h => h
  | s :: ss, l, m, hs, hl, h => by
    have a := hs s List.mem_cons_self
    have ih := domT_back ss (l := stp l s) (m := m) (by rw [stp_len]; exact fun x hx => hs x (List.mem_cons_of_mem _ hx)) (by rw [stp_len, hl]) h
    intro p
    show cp c (stpU (backU ss m) s) p ≤ _
    rw [cp_stpU a.1 (by rw [backU_len]; omega)]
    have e : ∀ q, q ≠ s.toNat → cp c (backU ss m) q ≤ cp t l q := fun q hq => by
      have := ih q
      rw [cp_stp a.1 (by omega), if_neg hq] at this
      exact this
    by_cases hp : p = s.toNat
    · rw [if_pos hp, hp]
      have u := cp_mono t l s.toNat
      have v := cp_mono t l (s.toNat - 1)
      rw [show s.toNat - 1 + 1 = s.toNat by omega] at v
      have e1 := e (s.toNat - 1) (by omega)
      have e2 := e (s.toNat + 1) (by omega)
      omega
    · rw [if_neg hp]
      exact e p hp
theorem cp_all (t : Int) (l : List Int) (p : Nat) : cp t l p ≤ cp t l l.length := by
  rw [cp_split t l p]
  omega
theorem cp_lep (t : Int) (l : List Int) (p : Nat) : cp t l p ≤ p := by
  unfold cp
  have := List.length_filter_le (fun x => decide (x ≤ t)) (l.take p)
  rw [List.length_take] at this
  omega
theorem cp_add (t : Int) (l : List Int) (p : Nat) : ∀ k, cp t l (p + k) ≤ cp t l p + k
  | 0 => Nat.le_refl _
  | k + 1 => by
    have a := cp_add t l p k
    have b := (cp_mono t l (p + k)).2
    rw [show p + (k + 1) = p + k + 1 by omega]
    omega
theorem cp_ascT {w c : Nat} (hc : c ≤ w) (p : Nat) : cp (c : Int) (asc w) p = min p c := by
  have e : cp (c : Int) (asc w) w = c := by
    rw [cp_perm (p := w) (asc_perm w) (by rw [asc_len]; omega), cp_dsc w c w hc (Nat.le_refl w)]
    omega
  have u := asc_cp (asc_asc w) (c : Int) p
  rw [asc_len, e] at u
  have v := cp_all (c : Int) (asc w) p
  rw [asc_len, e] at v
  have := cp_lep (c : Int) (asc w) p
  omega
theorem hard_run {w : Nat} {ss : List Int} (h : okS w ss) : runL ss (hard w ss) = asc w := by
  have hl := hard_len w ss
  exact dom_asc ((runPerm ss (l := hard w ss) (by rw [hl]; exact h)).trans (hard_perm h)) (back_reach ss (m := asc w) (by rw [asc_len]; exact h))
/-! ### places -/
/-- the places, from k on, of the numbers up to t -/
def lowR (t : Int) : Nat → List Int → List Int
  | _, [] => []
  | k, x :: l => if x ≤ t then (k : Int) :: lowR t (k + 1) l else lowR t (k + 1) l
theorem lowR_idx (t : Int) : ∀ (k : Nat) (l : List Int), ((l.zipIdx k).filter fun p => decide (p.1 ≤ t)).map (fun p => ((p.2 : Nat) : Int)) = lowR t k l
  | _, [] => rfl
  | k, x :: l => by
    have ih := lowR_idx t (k + 1) l
    rw [List.zipIdx_cons, lowR]
    by_cases h : x ≤ t
    · rw [List.filter_cons, if_pos (decide_eq_true h), if_pos h, List.map_cons, ih]
    · rw [List.filter_cons, if_neg (by simpa using h), if_neg h, ih]
theorem lowR_up (t : Int) : ∀ (k : Nat) (l : List Int), (lowR t k l).Pairwise (· < ·) ∧ ∀ x ∈ lowR t k l, (k : Int) ≤ x ∧ x < k + l.length
  | _, [] => ⟨List.Pairwise.nil, fun _ h => by cases h⟩
  | k, x :: l => by
    obtain ⟨u, v⟩ := lowR_up t (k + 1) l
    unfold lowR
    split
    · refine ⟨List.Pairwise.cons (fun y hy => by have := v y hy; omega) u, fun y hy => ?_⟩
      rw [List.length_cons]
      rcases List.mem_cons.mp hy with e | hy
      · omega
      · have := v y hy
        omega
    · refine ⟨u, fun y hy => ?_⟩
      rw [List.length_cons]
      have := v y hy
      omega
theorem lowR_cnt (t : Int) : ∀ (k : Nat) (l : List Int) (p : Nat), ((lowR t k l).filter fun x => decide (x < (k : Int) + p)).length = cp t l p
  | _, [], p => by rw [cp_nil]; rfl
  | k, x :: l, 0 => by
    rw [cp_0, List.length_eq_zero_iff, List.filter_eq_nil_iff]
    intro y hy
    have := (lowR_up t k (x :: l)).2 y hy
    simp only [decide_eq_true_eq]
    omega
  | k, x :: l, p + 1 => by
    have ih := lowR_cnt t (k + 1) l p
    rw [cp_cons, ← ih]
    have e : (fun y : Int => decide (y < (k : Int) + ((p + 1 : Nat) : Int))) = fun y => decide (y < ((k + 1 : Nat) : Int) + (p : Int)) := by
      funext y
      congr 1
      apply propext
      omega
    rw [lowR]
    unfold sm
    split
    · rw [List.filter_cons, if_pos (decide_eq_true (by omega)), List.length_cons, e]
      omega
    · rw [e]
      omega
theorem lowR_len (t : Int) (k : Nat) (l : List Int) : (lowR t k l).length = cp t l l.length := by
  rw [← lowR_cnt t k l l.length, List.filter_eq_self.mpr]
  intro x hx
  have := (lowR_up t k l).2 x hx
  exact decide_eq_true (by omega)
theorem up_cnt {P : List Int} (h : P.Pairwise (· < ·)) (z : Int) : ∀ j (hj : j < P.length), P[j] < z ↔ j < (P.filter fun x => decide (x < z)).length := by
  induction P with
  | nil => intro j hj; exact absurd hj (by simp)
  | cons x r ih =>
    intro j hj
    have h1 := fun y (hy : y ∈ r) => List.rel_of_pairwise_cons h hy
    have ih := ih (List.Pairwise.of_cons h)
    by_cases hx : x < z
    · rw [List.filter_cons, if_pos (decide_eq_true hx), List.length_cons]
      cases j with
      | zero => simp [hx]
      | succ j =>
        have := ih j (by simpa using hj)
        rw [List.getElem_cons_succ, this]
        omega
    · have e : (x :: r).filter (fun x => decide (x < z)) = [] := by
        rw [List.filter_eq_nil_iff]
        intro y hy
        simp only [decide_eq_true_eq]
        rcases List.mem_cons.mp hy with q | q
        · omega
        · have := h1 y q
          omega
      rw [e, List.length_nil]
      refine ⟨fun z1 => ?_, fun z1 => by omega⟩
      cases j with
      | zero => exact absurd z1 hx
      | succ j =>
        rw [List.getElem_cons_succ] at z1
        have := h1 _ (List.getElem_mem (by simpa using hj))
        omega
/-- place for place -/
theorem places_dom {t c : Int} {v m : List Int} (hl : v.length = m.length) (hc : cp t v v.length = cp c m m.length) : (∀ p ∈ (lowR t 1 v).zip (lowR c 1 m), p.1 ≤ p.2) ↔ domT t c v m := by
  have lP := lowR_len t 1 v
  have lL := lowR_len c 1 m
  have uP := (lowR_up t 1 v).1
  have uL := (lowR_up c 1 m).1
  constructor
  · intro h p
    rw [← lowR_cnt t 1 v p, ← lowR_cnt c 1 m p]
    refine Nat.le_of_not_lt fun z => ?_
    obtain ⟨j, hj⟩ : ∃ j, j = ((lowR t 1 v).filter fun x => decide (x < ((1 : Nat) : Int) + p)).length := ⟨_, rfl⟩
    rw [← hj] at z
    have jL : j < (lowR c 1 m).length := Nat.lt_of_lt_of_le z (List.length_filter_le _ _)
    have jP : j < (lowR t 1 v).length := by omega
    have a := (up_cnt uL _ j jL).mpr z
    have b := h ((lowR t 1 v)[j], (lowR c 1 m)[j]) (by
      rw [List.mem_iff_getElem?]
      exact ⟨j, by rw [List.getElem?_zip_eq_some]; exact ⟨List.getElem?_eq_getElem jP, List.getElem?_eq_getElem jL⟩⟩)
    have d := (up_cnt uP (((1 : Nat) : Int) + p) j jP).mp (by
      have b : (lowR t 1 v)[j] ≤ (lowR c 1 m)[j] := b
      omega)
    omega
  · intro h p hp
    obtain ⟨j, hj⟩ := List.mem_iff_getElem?.mp hp
    obtain ⟨e1, e2⟩ := List.getElem?_zip_eq_some.mp hj
    obtain ⟨g1, f1⟩ := List.getElem?_eq_some_iff.mp e1
    obtain ⟨g2, f2⟩ := List.getElem?_eq_some_iff.mp e2
    have r := (lowR_up c 1 m).2 p.2 (List.mem_of_getElem? e2)
    have q := h p.2.toNat
    rw [← lowR_cnt t 1 v, ← lowR_cnt c 1 m] at q
    have a := (up_cnt uL (((1 : Nat) : Int) + p.2.toNat) j g2).mp (by rw [f2]; omega)
    have b := (up_cnt uP (((1 : Nat) : Int) + p.2.toNat) j g1).mpr (by omega)
    rw [f1] at b
    omega
end Nw

/-! DL87: a op b op c as a test. -/
namespace DL
open PySem L2 PyProof.Rows
section
variable {ca : Nat → Addr} {X : Cx}
end
end DL

/-! DL88: name *= number. -/
namespace DL
open PySem L2 PyProof.Rows
end DL

/-! DL89: a loop that returns what its first item that has an answer says; the places where one list falls behind another. -/
namespace DL
end DL
namespace Nw
open DL
theorem mem_asc {w : Nat} {x : Int} : x ∈ asc w ↔ 1 ≤ x ∧ x ≤ w := by
  unfold asc
  rw [List.mem_map]
  constructor
  · rintro ⟨i, hi, rfl⟩
    rw [List.mem_range] at hi
    omega
  · rintro ⟨h1, h2⟩
    exact ⟨(x - 1).toNat, by rw [List.mem_range]; omega, by omega⟩
end Nw

/-! DL90: which class a clause of try names. -/
namespace PySem.W
open PySem
end PySem.W

/-! DL91: the sets of places that a network moves in front, found by trying all; the one of them that is nowhere less. -/
namespace Nw
open DL
def gsets (c : Nat) : Nat → List (List Int)
  | 0 => [[]]
  | w + 1 => gsets c w ++ ((gsets c w).filter fun r => decide (r.length < c)).map fun r => r ++ [(1 : Int) + (w : Int)]
def setsR (w c : Nat) : List (List Int) := (gsets c w).filter fun r => decide (r.length = c)
theorem gsets_len (c : Nat) : ∀ w, (gsets c w).length ≤ 2 ^ w
  | 0 => Nat.le_refl 1
  | w + 1 => by
    have ih := gsets_len c w
    rw [gsets, List.length_append, List.length_map, Nat.pow_succ]
    have := List.length_filter_le (fun r : List Int => decide (r.length < c)) (gsets c w)
    omega
theorem gsets_mem {c : Nat} : ∀ {w : Nat} {r : List Int}, r ∈ gsets c w ↔ r.Pairwise (· < ·) ∧ (∀ x ∈ r, 1 ≤ x ∧ x ≤ (w : Int)) ∧ r.length ≤ c
  | 0, r => by
    rw [gsets, List.mem_singleton]
    constructor
    · rintro rfl
      exact ⟨List.Pairwise.nil, fun x h => (by cases h), Nat.zero_le _⟩
    · rintro ⟨_, h, _⟩
      cases r with
      | nil => rfl
      | cons x r =>
        have := h x List.mem_cons_self
        omega
  | w + 1, r => by
    rw [gsets, List.mem_append, gsets_mem (c := c) (w := w)]
    constructor
    · rintro (⟨h1, h2, h3⟩ | h)
      · exact ⟨h1, fun x hx => by have := h2 x hx; omega, h3⟩
      · obtain ⟨s, hs, rfl⟩ := List.mem_map.mp h
        rw [List.mem_filter, gsets_mem (c := c) (w := w)] at hs
        obtain ⟨⟨h1, h2, _⟩, h3⟩ := hs
        have h3 : s.length < c := of_decide_eq_true h3
        refine ⟨List.pairwise_append.mpr ⟨h1, List.pairwise_singleton _ _, fun a ha b hb => ?_⟩, fun x hx => ?_, by rw [List.length_append, List.length_singleton]; omega⟩
        · rw [List.mem_singleton] at hb
          have := h2 a ha
          omega
        · rcases List.mem_append.mp hx with hx | hx
          · have := h2 x hx
            omega
          · rw [List.mem_singleton] at hx
            omega
    · rintro ⟨h1, h2, h3⟩
      by_cases e : r = []
      · subst e
        exact .inl ⟨List.Pairwise.nil, fun x h => (by cases h), Nat.zero_le _⟩
      · obtain ⟨s, z, rfl⟩ : ∃ s z, r = s ++ [z] := ⟨r.dropLast, r.getLast e, (List.dropLast_concat_getLast e).symm⟩
        obtain ⟨p1, _, p3⟩ := List.pairwise_append.mp h1
        have lt : ∀ a ∈ s, a < z := fun a ha => p3 a ha z List.mem_cons_self
        have hz := h2 z (List.mem_append_right _ List.mem_cons_self)
        rw [List.length_append, List.length_singleton] at h3
        by_cases q : z = (1 : Int) + (w : Int)
        · subst q
          refine .inr (List.mem_map.mpr ⟨s, List.mem_filter.mpr ⟨(gsets_mem (c := c) (w := w)).mpr ⟨p1, fun x hx => ?_, by omega⟩, decide_eq_true (by omega)⟩, rfl⟩)
          have a := lt x hx
          have b := h2 x (List.mem_append_left _ hx)
          omega
        · refine .inl ⟨h1, fun x hx => ?_, by rw [List.length_append, List.length_singleton]; omega⟩
          have b := h2 x hx
          rcases List.mem_append.mp hx with hx | hx
          · have a := lt x hx
            omega
          · rw [List.mem_singleton] at hx
            omega
theorem setsR_mem {w c : Nat} {r : List Int} : r ∈ setsR w c ↔ r.Pairwise (· < ·) ∧ (∀ x ∈ r, 1 ≤ x ∧ x ≤ (w : Int)) ∧ r.length = c := by
  unfold setsR
  rw [List.mem_filter, gsets_mem]
  constructor
  · rintro ⟨⟨h1, h2, _⟩, h3⟩
    exact ⟨h1, h2, of_decide_eq_true h3⟩
  · rintro ⟨h1, h2, h3⟩
    exact ⟨⟨h1, h2, by omega⟩, decide_eq_true h3⟩
/-! ### zeros at the places -/
def bitsOf (w : Nat) (S : List Int) : List Int := (asc w).map fun p => if p ∈ S then 0 else 1
theorem bitsOf_len (w : Nat) (S : List Int) : (bitsOf w S).length = w := by unfold bitsOf; rw [List.length_map, asc_len]
theorem bitsOf_01 {w : Nat} {S : List Int} : ∀ x ∈ bitsOf w S, x = 0 ∨ x = 1 := fun x hx => by
  obtain ⟨p, _, rfl⟩ := List.mem_map.mp hx
  split <;> simp
theorem lowR_bits0 (S : List Int) : ∀ (n k : Nat), lowR 0 k (((List.range' k n).map fun (i : Nat) => (i : Int)).map fun p => if p ∈ S then 0 else 1) = ((List.range' k n).map fun (i : Nat) => (i : Int)).filter fun p => decide (p ∈ S)
  | 0, _ => rfl
  | n + 1, k => by
    have ih := lowR_bits0 S n (k + 1)
    rw [List.range'_succ, List.map_cons, List.map_cons, lowR, List.filter_cons]
    by_cases h : (k : Int) ∈ S
    · rw [if_pos h, if_pos (by decide), if_pos (decide_eq_true h), ih]
    · rw [if_neg h, if_neg (by decide), if_neg (by simpa using h), ih]
theorem asc_range' (w : Nat) : asc w = (List.range' 1 w).map fun (i : Nat) => (i : Int) := by
  unfold asc
  rw [List.range'_eq_map_range, List.map_map]
  refine List.map_congr_left fun i _ => ?_
  show (1 : Int) + (i : Int) = ((1 + i : Nat) : Int)
  omega
theorem asc_up (w : Nat) : (asc w).Pairwise (· < ·) := by
  unfold asc
  rw [List.pairwise_map]
  exact List.Pairwise.imp (fun h => by omega) (List.pairwise_lt_range (n := w))
theorem asc_mem {w : Nat} {x : Int} : x ∈ asc w ↔ 1 ≤ x ∧ x ≤ w := mem_asc
theorem lowR_bits {w : Nat} {S : List Int} (h : S.Pairwise (· < ·)) (hb : ∀ x ∈ S, 1 ≤ x ∧ x ≤ (w : Int)) : lowR 0 1 (bitsOf w S) = S := by
  have e : lowR 0 1 (bitsOf w S) = (asc w).filter fun p => decide (p ∈ S) := by
    unfold bitsOf
    rw [asc_range']
    exact lowR_bits0 S w 1
  rw [e]
  refine up_ext (List.Pairwise.filter _ (asc_up w)) h fun k => ?_
  rw [List.mem_filter, asc_mem]
  exact ⟨fun q => of_decide_eq_true q.2, fun q => ⟨hb k q, decide_eq_true q⟩⟩
theorem sum_01 : ∀ {l : List Int}, (∀ x ∈ l, x = 0 ∨ x = 1) → l.sum = (l.length : Int) - ((l.filter fun x => decide (x ≤ 0)).length : Nat)
  | [], _ => rfl
  | x :: l, h => by
    have ih := sum_01 fun y hy => h y (List.mem_cons_of_mem x hy)
    rw [List.sum_cons, ih, List.length_cons, List.filter_cons]
    rcases h x List.mem_cons_self with rfl | rfl
    · rw [if_pos (by decide), List.length_cons]
      omega
    · rw [if_neg (by decide)]
      omega
def front (w : Nat) (A S : List Int) : Bool := decide (((runL A (bitsOf w S)).take S.length).sum = 0)
def nowh (P L : List Int) : Bool := decide (∀ p ∈ P.zip L, p.1 ≤ p.2)
theorem front_iff {w : Nat} {A S : List Int} (h : okS w A) (hu : S.Pairwise (· < ·)) (hb : ∀ x ∈ S, 1 ≤ x ∧ x ≤ (w : Int)) (hw : S.length ≤ w) : front w A S = true ↔ nowh S (lowR (S.length : Int) 1 (hard w A)) = true := by
  have lv := bitsOf_len w S
  have lb := lowR_bits hu hb
  have lr : (runL A (bitsOf w S)).length = w := by rw [runL_len, lv]
  have pr : (runL A (bitsOf w S)).Perm (bitsOf w S) := runL_perm A _ (by rw [lv]; exact h)
  have zo : ∀ x ∈ (runL A (bitsOf w S)).take S.length, x = 0 ∨ x = 1 := fun x hx => bitsOf_01 x (pr.mem_iff.mp (List.mem_of_mem_take hx))
  have sm := sum_01 zo
  rw [List.length_take, lr, Nat.min_eq_left hw] at sm
  have cpw : cp 0 (bitsOf w S) w = S.length := by
    have := lowR_len 0 1 (bitsOf w S)
    rw [lb, lv] at this
    exact this.symm
  have hl := hard_len w A
  have hcp : cp (S.length : Int) (hard w A) w = S.length := by
    rw [cp_perm (p := w) (hard_perm h) (by rw [hl]; omega), cp_dsc w S.length w hw (Nat.le_refl w)]
    omega
  have pd := places_dom (t := 0) (c := (S.length : Int)) (v := bitsOf w S) (m := hard w A) (by rw [lv, hl]) (by rw [lv, hl, cpw, hcp])
  rw [lb] at pd
  unfold front nowh
  rw [decide_eq_true_iff, decide_eq_true_iff, pd, sm]
  have le := cp_lep 0 (runL A (bitsOf w S)) S.length
  have ecp : ((((runL A (bitsOf w S)).take S.length).filter fun x => decide (x ≤ 0)).length) = cp 0 (runL A (bitsOf w S)) S.length := rfl
  rw [ecp]
  constructor
  · intro e
    have e : cp 0 (runL A (bitsOf w S)) S.length = S.length := by omega
    have d : domT 0 (S.length : Int) (runL A (bitsOf w S)) (asc w) := fun p => by
      rw [cp_ascT hw]
      by_cases hp : p ≤ S.length
      · have := cp_add 0 (runL A (bitsOf w S)) p (S.length - p)
        rw [show p + (S.length - p) = S.length by omega] at this
        omega
      · have := cp_mono' 0 (runL A (bitsOf w S)) S.length (p - S.length)
        rw [show S.length + (p - S.length) = p by omega] at this
        omega
    exact domT_back A (by rw [lv]; exact h) (by rw [lv, asc_len]) d
  · intro d
    have d2 := domT_run A (l := bitsOf w S) (m := hard w A) (by rw [lv]; exact h) (by rw [lv, hl]) d
    rw [hard_run h] at d2
    have := d2 S.length
    rw [cp_ascT hw, Nat.min_self] at this
    omega
theorem nowh_self (L : List Int) : nowh L L = true := by
  unfold nowh
  refine decide_eq_true fun p hp => ?_
  have key : ∀ (L : List Int), ∀ p ∈ L.zip L, p.1 = p.2 := fun L => by
    induction L with
    | nil => intro p hp; cases hp
    | cons x L ih =>
      intro p hp
      rcases List.mem_cons.mp (show p ∈ (x, x) :: L.zip L from hp) with e | e
      · subst e; rfl
      · exact ih p e
  exact Int.le_of_eq (key L p hp)
theorem nowh_anti : ∀ {P L : List Int}, P.length = L.length → nowh P L = true → nowh L P = true → P = L
  | [], [], _, _, _ => rfl
  | [], _ :: _, h, _, _ => by cases h
  | _ :: _, [], h, _, _ => by cases h
  | p :: P, l :: L, h, h1, h2 => by
    unfold nowh at h1 h2
    have a := of_decide_eq_true h1
    have b := of_decide_eq_true h2
    have e1 := a (p, l) List.mem_cons_self
    have e2 := b (l, p) List.mem_cons_self
    have e : p = l := by dsimp only at e1 e2; omega
    have r := nowh_anti (P := P) (L := L) (by simpa using h) (decide_eq_true fun q hq => a q (List.mem_cons_of_mem _ hq)) (decide_eq_true fun q hq => b q (List.mem_cons_of_mem _ hq))
    rw [e, r]
def goodR (w : Nat) (A : List Int) (c : Nat) : List (List Int) := (setsR w c).filter (front w A)
def limF (G : List (List Int)) (b : List Int) : Option (List Int) := if (G.filter fun r => !nowh r b) = [] then some b else none
theorem goodR_mem {w : Nat} {A : List Int} {c : Nat} {r : List Int} (h : okS w A) (hc : c ≤ w) : r ∈ goodR w A c ↔ (r.Pairwise (· < ·) ∧ (∀ x ∈ r, 1 ≤ x ∧ x ≤ (w : Int)) ∧ r.length = c) ∧ nowh r (lowR (c : Int) 1 (hard w A)) = true := by
  unfold goodR
  rw [List.mem_filter, setsR_mem]
  constructor
  · rintro ⟨⟨h1, h2, h3⟩, h4⟩
    subst h3
    exact ⟨⟨h1, h2, rfl⟩, (front_iff h h1 h2 hc).mp h4⟩
  · rintro ⟨⟨h1, h2, h3⟩, h4⟩
    subst h3
    exact ⟨⟨h1, h2, rfl⟩, (front_iff h h1 h2 hc).mpr h4⟩
theorem lim_mem {w : Nat} {A : List Int} {c : Nat} (h : okS w A) (hc : c ≤ w) : lowR (c : Int) 1 (hard w A) ∈ goodR w A c := by
  have hl := hard_len w A
  obtain ⟨u, b⟩ := lowR_up (c : Int) 1 (hard w A)
  refine (goodR_mem h hc).mpr ⟨⟨u, fun x hx => ?_, ?_⟩, nowh_self _⟩
  · have := b x hx
    rw [hl] at this
    omega
  · rw [lowR_len, hl, cp_perm (p := w) (hard_perm h) (by rw [hl]; omega), cp_dsc w c w hc (Nat.le_refl w)]
    omega
theorem fs_one {α β : Type} {f : α → Option β} {v : β} : ∀ {l : List α}, (∃ a ∈ l, f a = some v) → (∀ a ∈ l, ∀ u, f a = some u → u = v) → l.findSome? f = some v
  | [], h, _ => by obtain ⟨a, ha, _⟩ := h; cases ha
  | x :: l, h, hu => by
    rw [List.findSome?_cons]
    cases e : f x with
    | some u => rw [hu x List.mem_cons_self u e]
    | none =>
      refine fs_one ?_ fun a ha => hu a (List.mem_cons_of_mem _ ha)
      obtain ⟨a, ha, ea⟩ := h
      rcases List.mem_cons.mp ha with rfl | ha
      · rw [e] at ea; cases ea
      · exact ⟨a, ha, ea⟩
theorem lim_eq {w : Nat} {A : List Int} {c : Nat} (h : okS w A) (hc : c ≤ w) : (goodR w A c).findSome? (limF (goodR w A c)) = some (lowR (c : Int) 1 (hard w A)) := by
  have lm := lim_mem h hc
  refine fs_one ⟨_, lm, ?_⟩ fun b hb u hu => ?_
  · unfold limF
    refine if_pos (List.filter_eq_nil_iff.mpr fun r hr => ?_)
    rw [((goodR_mem h hc).mp hr).2]
    simp
  · unfold limF at hu
    split at hu
    · rename_i e
      cases hu
      have a := List.filter_eq_nil_iff.mp e _ lm
      have a : nowh (lowR (c : Int) 1 (hard w A)) b = true := by simpa using a
      obtain ⟨⟨_, _, l1⟩, n1⟩ := (goodR_mem h hc).mp hb
      obtain ⟨⟨_, _, l2⟩, _⟩ := (goodR_mem h hc).mp lm
      exact nowh_anti (by rw [l1, l2]) n1 a
    · cases hu
end Nw

/-! DL92: evaluation where an exception is raised or caught; values of mixed kinds. -/
namespace DL
open PySem (Str)
section
variable {st st1 st2 st3 : Sl} {a b d : D} {ds es : List D} {m m1 m2 : ME} {ms ns : MA} {F : MF} {x : Xc} {ps : Sl} {i : Nat} {f : List D → Option Out} {t : MT} {s1 s2 : MS} {r : SR}
end
/-! ### values of mixed kinds -/
inductive It : D → Prop where
  | int (i : Int) : It (.int i)
  | bl (b : Bool) : It (.bl b)
  | non : It .non
  | str (s : Str) : It (.str s)
  | lst (xs : List D) (h : frzL xs = xs) : It (.lst false xs)
  | tup (xs : List D) (h : frzL xs = xs) : It (.tup xs)
theorem It.frz {d : D} (h : It d) : frz d = d := by
  cases h with
  | int i => rfl
  | bl b => rfl
  | non => rfl
  | str s => rfl
  | lst xs h => rw [DL.frz, h]
  | tup xs h => rw [DL.frz, h]
theorem It.hot {d : D} (h : It d) : hot d = false := by cases h <;> rfl
theorem It.cold {d : D} (h : It d) : cold d = true := by cases h <;> rfl
def isInt : D → Int → Int → Bool
  | .int n, lo, hi => decide (lo ≤ n ∧ n ≤ hi)
  | _, _, _ => false
def isL : D → Bool
  | .lst _ _ => true
  | _ => false
def isI : D → Bool
  | .int _ => true
  | .bl _ => true
  | _ => false
def isB : D → Bool
  | .bl _ => true
  | _ => false
def isT : D → Bool
  | .tup _ => true
  | _ => false
theorem isi_int {d : D} (h : It d) : oIsiB "int" [d, .ty "int"] = some (.val (.bl (isI d))) := by
  cases h with
  | int i => simp [oIsiB, tyName, noScr, kb_int_int, isI]
  | bl b => simp [oIsiB, tyName, noScr, kb_bool_int, isI]
  | non  => simp [oIsiB, tyName, noScr, kb_NoneType_int, isI]
  | str s => simp [oIsiB, tyName, noScr, kb_str_int, isI]
  | lst xs h => simp [oIsiB, tyName, noScr, kb_list_int, isI]
  | tup xs h => simp [oIsiB, tyName, noScr, kb_tuple_int, isI]
theorem isi_bool {d : D} (h : It d) : oIsiB "bool" [d, .ty "bool"] = some (.val (.bl (isB d))) := by
  cases h with
  | int i => simp [oIsiB, tyName, noScr, kb_int_bool, isB]
  | bl b => simp [oIsiB, tyName, noScr, kb_bool_bool, isB]
  | non  => simp [oIsiB, tyName, noScr, kb_NoneType_bool, isB]
  | str s => simp [oIsiB, tyName, noScr, kb_str_bool, isB]
  | lst xs h => simp [oIsiB, tyName, noScr, kb_list_bool, isB]
  | tup xs h => simp [oIsiB, tyName, noScr, kb_tuple_bool, isB]
end DL

/-! DL93: lists of a word and a value compared. -/
namespace DL
open PySem PySem.SeqAt
theorem ne_refl {x : D} (h : shaped (toPy x) = true) : f2 pNe [x, x] = some (.val (.bl false)) := by
  refine ne_of ?_
  unfold pNe
  rw [h, eqv_refl _ (canLay_of_shaped h)]
  rfl
end DL

/-! DL94: str(int); an empty dict's display. -/
namespace DL
open PySem PySem.Spec PyProof.Rows L2
def oStrI : List D → Option Out
  | [.int i] => if i.natAbs.log2 < 1920 then some (.val (.str (toString i))) else none
  | _ => none
def eDn : ME := fun st => .ok (.dic true []) st
section
variable {ca : Nat → Addr} {K : PySem.W.Frag} {Hf H Hf1 H1 Hf2 H2 : Hp} {S P P1 P2 : Rg} {R R1 R2 : Nat → Rg} {pp : Prop} {σ : L2.St} {st : Sl} {v : V} {d : D} {vs : List V} {ds : List D} {X : Cx} {L : List Nat}
theorem os_strI : OpS ca K (fun xs H Q => ∃ i, xs = [.int i] ∧ i.natAbs.log2 < 1920 ∧ Q (.str (toString i)) H) oStrI := fun Hf H vs ds o Q hx rd h q => by
  match ds, h with
  | [.int i], h =>
    dsimp only [oStrI] at h
    by_cases c : i.natAbs.log2 < 1920
    · rw [if_pos c] at h
      cases h
      obtain ⟨v, S, e1, r1⟩ := rdl1 rd rfl
      subst e1
      rw [rep_int r1]
      exact ⟨i, rfl, c, q _ .str⟩
    · rw [if_neg c] at h
      cases h
theorem post_newD {Q : VK} {a : Addr} (p : PR ca X.K Hf H P pp R σ st) (h : Post ca X Hf H S σ (.ok (.dic true []) st) Q) (hS : ∀ b, tot R b → S b) (hn : H a = none) : Q (.ref a) (upd H a (.dK [])) := by
  refine h Hf (upd H a (.dK [])) (fun b => b = a) R (.ref a) ⟨fun _ _ e => e, fun b o e _ => upd_keep hn b o e, fun b q => ?_, fun _ _ e => .inl e⟩ (p.drop.grow hn (Rep.dicO rfl upd_same rfl .nil) fun b q => q)
  rcases q with q | q
  · subst q; exact .inr hn
  · exact .inl (hS b q)
theorem ce_dn {pos : Pos} : CE ca X (.Dict [] [] pos) eDn := ce_of pe_dnewK fun Hf H R σ st Q p h => fun a hn => post_newD p h (fun b q => .inr q) hn
end
end DL

/-! DL95: repr of data or of an empty dict. -/
namespace DL
open PySem PySem.Spec PyProof.Rows L2
def rReprE (K : PySem.W.Frag) : List V → Hp → VK → Prop := fun xs H Q => rRepr K xs H Q ∨ ∃ a, xs = [.ref a] ∧ H a = some (.dK []) ∧ Q (.str "{}") H
def oReprE : List D → Option Out
  | [.dic _ []] => some (.val (.str "{}"))
  | ds => oRepr ds
section
variable {ca : Nat → Addr} {K : PySem.W.Frag} {Hf H Hf1 H1 : Hp} {S : Rg} {X : Cx} {v : V} {d : D}
theorem call_reprE {k : Nat} (hr : RoomG k X.A) : CallR X (.builtin "repr") (rReprE X.K) := by
  intro pins s σ H xs us Q I r h
  rcases h with h | ⟨a, rfl, e, q⟩
  · exact call_repr hr pins s σ H xs us Q I r h
  · obtain ⟨u, rfl, rx⟩ := vals1 r
    obtain rfl : u = Value.ref a := rx
    obtain ⟨_, lo, vs, kv, dd⟩ := (show ObjOk X.prog X.w H s.heap a (.dK []) from I.hok a _ e)
    have hu := hr.2.un
    cases kv
    obtain ⟨o, es, ep, ho, ⟨hc, _, _⟩, hd, _, hp, _⟩ := dd
    have hn : es.toList = [] := by
      generalize es.toList = l at hp
      cases hp
      rfl
    have rd : Reads s.heap (.ref a) (.dict []) (a :: [] ++ []) := Reads.dict ho hc hd (by rw [hn]; exact ReadsAll.nil) (by rw [hn]; exact ReadsAll.nil)
    have sh : (PyData.dict []).shown = "{}" := by kernel_rfl
    have no : sysModules ∉ (a :: [] ++ [] : List Addr) := fun z => by
      rw [List.append_nil, List.mem_singleton] at z
      rw [z] at lo
      simp at lo
    have dp : (PyData.dict []).depth ≤ 1 := by decide
    exact PySem.repr_of_reads' rd (by decide +kernel) (fun _ => no) hr.1 (by omega) (fun _ _ e => e)
      (fun h' u tk keep => ⟨.str _, H, I.kept (t' := tk) keep, ⟨_, rfl⟩, by rw [sh]; exact q⟩) (by rw [sh]; decide +kernel)
theorem os_reprE : OpS ca K (rReprE K) oReprE := fun Hf H vs ds o Q hx rd h q => by
  match ds, h with
  | [.dic z []], h =>
    cases h
    obtain ⟨v, S, e1, r1⟩ := rdl1 rd rfl
    subst e1
    refine .inr ?_
    cases r1 with
    | dicF e k r =>
      rename_i kvs
      cases kvs with
      | nil => exact ⟨_, rfl, hx _ _ e, q _ .str⟩
      | cons p l => cases k
    | dicO s e k r =>
      rename_i kvs
      cases kvs with
      | nil => exact ⟨_, rfl, e, q _ .str⟩
      | cons p l => cases k
  | [], h => cases h
  | [.non], h => exact .inl (os_repr Hf H vs _ o Q hx rd h q)
  | [.bl _], h => exact .inl (os_repr Hf H vs _ o Q hx rd h q)
  | [.int _], h => exact .inl (os_repr Hf H vs _ o Q hx rd h q)
  | [.str _], h => exact .inl (os_repr Hf H vs _ o Q hx rd h q)
  | [.lst _ _], h => exact .inl (os_repr Hf H vs _ o Q hx rd h q)
  | [.tup _], h => exact .inl (os_repr Hf H vs _ o Q hx rd h q)
  | [.ins _ _ _], h => exact .inl (os_repr Hf H vs _ o Q hx rd h q)
  | [.dic _ (_ :: _)], h => exact .inl (os_repr Hf H vs _ o Q hx rd h q)
  | [.dct _ _], h => exact .inl (os_repr Hf H vs _ o Q hx rd h q)
  | [.scr _], h => exact .inl (os_repr Hf H vs _ o Q hx rd h q)
  | [.cls _], h => exact .inl (os_repr Hf H vs _ o Q hx rd h q)
  | [.ty _], h => exact .inl (os_repr Hf H vs _ o Q hx rd h q)
  | [.xc _ _], h => exact .inl (os_repr Hf H vs _ o Q hx rd h q)
  | x :: y :: t, h =>
    have e : oReprE (x :: y :: t) = oRepr (x :: y :: t) := by
      cases x <;> first | rfl | (rename_i kvs; cases kvs <;> rfl)
    rw [e] at h
    exact .inl (os_repr Hf H vs _ o Q hx rd h q)
end
end DL

/-! DL96: str * int, bool(int). -/
namespace DL
open PySem PySem.Spec PyProof.Rows L2 Builtin Builtin.Str
section
variable {ca : Nat → Addr} {K : PySem.W.Frag} {Hf H Hf1 H1 : Hp} {S S1 : Rg} {X : Cx} {v : V} {d : D}
end
end DL

/-! DL97: small evaluations, texts' heads, loops that seek (shared by laws of mixed values). -/
namespace DL
open PySem (Str)
open Nw
theorem forD_findE {α : Type} {g : MG} {body : MS} (enc : α → D) (I : Sl → Prop) (f : α → Option D) : ∀ (l : List α) (st : Sl), I st →
    (∀ x ∈ l, ∀ st, I st → ∃ s1, g (enc x) st = .ok () s1 ∧ (match f x with | some v => ∃ s2, body s1 = .ret v s2 | none => ∃ s2, body s1 = .next s2 ∧ I s2)) →
    match l.findSome? f with | some v => ∃ st', forD g body (l.map enc) st = .ret v st' | none => ∃ st', forD g body (l.map enc) st = .next st' ∧ I st'
  | [], st, h, _ => ⟨st, rfl, h⟩
  | d :: ds, st, h, hs => by
    obtain ⟨s1, e1, h1⟩ := hs d List.mem_cons_self st h
    rw [List.findSome?_cons]
    cases ef : f d with
    | some v =>
      rw [ef] at h1
      obtain ⟨s2, e2⟩ := h1
      refine ⟨s2, ?_⟩
      rw [List.map_cons, forD, e1]
      show (match body s1 with | .next st2 => _ | .cont st2 => _ | .brk st2 => _ | r => r) = _
      rw [e2]
    | none =>
      rw [ef] at h1
      obtain ⟨s2, e2, h2⟩ := h1
      have ih := forD_findE enc I f ds s2 h2 fun d hd => hs d (List.mem_cons_of_mem _ hd)
      cases er : ds.findSome? f with
      | some v =>
        rw [er] at ih
        obtain ⟨st', e⟩ := ih
        exact ⟨st', forD_cons e1 e2 e⟩
      | none =>
        rw [er] at ih
        obtain ⟨st', e, h3⟩ := ih
        exact ⟨st', forD_cons e1 e2 e, h3⟩
end DL

/-! DL98: the texts of lists tell their items' texts. -/
namespace DL
open PySem (Str)
end DL

/-! DL99: a, b = a list. -/
namespace DL
open PySem PySem.Spec PyProof.Rows L2
section
variable {ca : Nat → Addr} {X : Cx} {L : List Nat}
end
end DL

/-! DL100 (Nw): the moves drop, double, swap, turn. -/
namespace Nw
open DL
open PySem (Str)
def dist (a b : Int) : Int := if a - b < 0 then -(a - b) else a - b
/-- the steps after a move at a place within, or none -/
def mv (S : List Int) (word : Str) (p : Nat) : Option (List Int) :=
  if word = "double" ∧ S.length < 1000 then some (S.take p ++ [S.getD p 0] ++ S.drop p)
  else match S.drop p with
    | a :: b :: r =>
      if word = "drop" ∧ a = b then some (S.take p ++ b :: r)
      else if word = "swap" ∧ 2 ≤ dist a b then some (S.take p ++ [b, a] ++ r)
      else match r with
        | c :: r3 => if word = "turn" ∧ a = c ∧ dist a b = 1 then some (S.take p ++ [b, a, b] ++ r3) else none
        | [] => none
    | _ => none
end Nw

/-! DL101: f-strings; repr of an instance by its own __repr__; == of an instance and another value. -/
namespace DL
open PySem PySem.Spec PyProof.Rows L2
section
variable {ca : Nat → Addr} {K : PySem.W.Frag} {Hf H Hf1 H1 Hf2 H2 : Hp} {S P : Rg} {R R1 R2 : Nat → Rg} {σ : L2.St} {st : Sl} {v : V} {d : D} {vs : List V} {ds : List D} {X : Cx} {L : List Nat}
/-- the parts -/
inductive CJ (ca : Nat → Addr) (X : Cx) : List Expr → List ME → Prop where
  | nil : CJ ca X [] []
  | cons {e : Expr} {m : ME} {es : List Expr} {ms : List ME} (h : CE ca X e m) (r : CJ ca X es ms) : CJ ca X (e :: es) (m :: ms)
end
end DL

/-! DL102: an instance made with a slot lent. -/
namespace DL
open PySem PySem.Spec PyProof.Rows L2
section
variable {ca : Nat → Addr} {K : PySem.W.Frag} {Hf H Hf1 H1 Hf2 H2 : Hp} {S P : Rg} {R R1 R2 : Nat → Rg} {σ : L2.St} {st : Sl} {v : V} {d : D} {vs : List V} {ds : List D} {X : Cx} {L : List Nat}
end
end DL

/-! DL103: the text of a network; f-strings, repr of instances evaluated; lists of mixed values searched. -/
namespace DL
open PySem (Str PyData)
/-- the text of a list of numbers -/
abbrev lsT (S : List Int) : Str := (Py.py S).shown
structure SmS (S : List Int) : Prop where
  s : ∀ x ∈ S, 0 ≤ x ∧ x ≤ 40
  l : S.length ≤ 1000
theorem SmS.rp {S : List Int} (h : SmS S) : Rp (Py.py S) := rp_nums (fun x hx => by have := h.s x hx; omega) (by have := h.l; omega)
theorem SmS.len {S : List Int} (h : SmS S) : (lsT S).length ≤ 16000000 := by
  have r := h.rp
  obtain ⟨a, b, c⟩ := sml_all _ r.s
  have l := PyData.shown_le 26 (by decide) _ c
  have w := r.w
  show (Py.py S).shown.length ≤ _
  omega
theorem str_ne_refl {t : Str} (h : PySem.SeqAt.shaped (toPy (.str t)) = true) : f2 pNe [.str t, .str t] = some (.val (.bl false)) := ne_refl (x := .str t) h
end DL

/-! DL104: functions called by keyword. -/
namespace DL
open PySem L2 PyProof.Rows
/-- keywords, from the left: their names, their expressions -/
inductive KwL : List Keyword → List Str → List Expr → Prop where
  | nil : KwL [] [] []
  | cons {n : Str} {e : Expr} {p : Pos} {ks : List Keyword} {nm : List Str} {es : List Expr} (r : KwL ks nm es) : KwL (⟨some n, e, p⟩ :: ks) (n :: nm) (e :: es)
/-- how the values given by keyword go to the parameters -/
structure Pm where
  pm : (α : Type) → List α → List α
  len : ∀ (α : Type) (l : List α), (pm α l).length = l.length
  vals : ∀ (vs : List V) (us : List Value), Vals vs us → Vals (pm V vs) (pm Value us)
  rep : ∀ (ca : Nat → Addr) (K : PySem.W.Frag) (Hf H : Hp) (S : Rg) (vs : List V) (ds : List D), RepL ca K Hf H S vs ds → RepL ca K Hf H S (pm V vs) (pm D ds)
section
variable {P : Program} {w : World} {K : PySem.W.Frag} {mg : Str → Option Value} {base : Heap} {ca : Nat → Addr} {L : List Nat}
end
section
variable {ca : Nat → Addr} {Hf H : Hp} {S P : Rg} {R : Nat → Rg} {σ : L2.St} {st : Sl} {X : Cx}
end
end DL

/-! DL105: a call that gets a slot's flat list for its time only: what it hands back holds no list of others. -/
namespace DL
open PySem L2 PyProof.Rows
section
variable {ca : Nat → Addr} {K : PySem.W.Frag} {Hf H Hf1 H1 Hf2 H2 : Hp} {S P : Rg} {R R1 R2 : Nat → Rg} {σ : L2.St} {st : Sl} {v : V} {d : D} {vs : List V} {ds : List D} {X : Cx} {L : List Nat}
end
end DL

/-! DL106: a for over an owned list whose items are handed to the loop's name with their ownership, and taken back behind each turn. -/
namespace DL
open PySem L2 PyProof.Rows
section
variable {ca : Nat → Addr} {K : PySem.W.Frag} {Hf H Hf1 H1 Hf2 H2 : Hp} {S S1 S2 P : Rg} {R R1 R2 : Nat → Rg} {pp qq : Prop} {σ σ' : L2.St} {st st' : Sl} {v : V} {d : D} {vs : List V} {ds : List D} {X : Cx} {L : List Nat}
end
end DL

/-! DL107: the forms of DL105, DL106 evaluated. -/
namespace DL
open PySem (Str)
end DL

/-! DL108: construction that raises; == of an instance and a value, evaluated; texts joined by +. -/
namespace DL
open PySem (Str PyData)
end DL

/-! DL109: a call of what an expression answers: a def of the text, handed about as a value. -/
namespace DL
open PySem L2 PyProof.Rows
section
variable {ca : Nat → Addr} {K : PySem.W.Frag} {Hf H Hf1 H1 : Hp} {S P : Rg} {R R1 : Nat → Rg} {σ : L2.St} {st : Sl} {X : Cx}
end
end DL

/-! DL110: xs.insert(i, y); xs[a:c] = ys. -/
namespace DL
open PySem L2 PyProof.Rows
section
variable {X : Cx}
end
section
variable {ca : Nat → Addr} {K : PySem.W.Frag} {Hf H Hf1 H1 : Hp} {S P : Rg} {R R1 : Nat → Rg} {σ : L2.St} {st : Sl} {X : Cx} {L : List Nat}
end
/-! evaluated -/
end DL

/-! DL111: len(set(xs)), xs a list of distinct tuples of numbers. -/
namespace DL
open PySem PySem.Spec PyProof.Rows L2
section
variable {X : Cx}
end
section
variable {ca : Nat → Addr} {K : PySem.W.Frag} {Hf H : Hp} {S T : Rg} {X : Cx}
end
end DL

/-! DL112: tuple + tuple. -/
namespace DL
open PySem PySem.Spec PyProof.Rows L2
section
variable {ca : Nat → Addr} {K : PySem.W.Frag} {Hf H Hf1 H1 : Hp} {S S1 : Rg} {X : Cx} {v : V} {d : D}
end
end DL

/-! DL113: in, not in, for a tuple of nested data. -/
namespace DL
open PySem PySem.Spec PyProof.Rows L2
end DL

/-! DL114: a step behind a normal word changes its code in at most one place, by one. -/
namespace Nw
end Nw

/-! DL115: range(a, b, c) with a written c. -/
namespace DL
open PySem L2 PyProof.Rows
section
variable {ca : Nat → Addr} {K : PySem.W.Frag} {Hf H Hf1 H1 Hf2 H2 : Hp} {S S1 S2 P P1 P2 : Rg} {R R1 R2 : Nat → Rg} {pp qq : Prop} {σ σ' : L2.St} {st st' : Sl} {v : V} {d : D} {vs : List V} {ds : List D} {X : Cx} {L : List Nat}
end
end DL

/-! DL116: dicts of written strings; d.get(k, x). -/
namespace DL
open PySem PySem.Spec PyProof.Rows L2
/-- a dict's display of written strings -/
inductive KvL : List (Option Expr) → List Expr → List (Str × Str) → Prop where
  | nil : KvL [] [] []
  | cons {k v : Str} {j1 j2 : Nat} {p1 p2 : Pos} {ks : List (Option Expr)} {vs : List Expr} {kvs : List (Str × Str)} (r : KvL ks vs kvs) : KvL (some (.Constant (.str k) j1 p1) :: ks) (.Constant (.str v) j2 p2 :: vs) ((k, v) :: kvs)
section
end
section
variable {ca : Nat → Addr} {K : PySem.W.Frag} {Hf H Hf1 H1 Hf2 H2 : Hp} {S P P1 P2 : Rg} {R R1 R2 : Nat → Rg} {pp : Prop} {σ : L2.St} {st : Sl} {v : V} {d : D} {vs : List V} {ds : List D} {X : Cx} {L : List Nat}
end
end DL

/-! DL117: x, y = a, b where a name is used in a block: by way of a tuple that nobody else sees. -/
namespace DL
open PySem L2 PyProof.Rows
section
variable {ca : Nat → Addr} {K : PySem.W.Frag} {Hf H Hf1 H1 : Hp} {S P : Rg} {R : Nat → Rg} {σ : L2.St} {st : Sl} {v w : V} {d e : D} {vs : List V} {ds : List D} {X : Cx} {L : List Nat}
end
end DL

/-! DL118: moves keep the effect; moves turned round lead back. -/
namespace Nw
open PySem (Str)
open DL
inductive MvC : List Int → Str → Nat → List Int → Prop where
  | double (A : List Int) (x : Int) (r : List Int) (h : (A ++ x :: r).length < 1000) : MvC (A ++ x :: r) "double" A.length (A ++ x :: x :: r)
  | drop (A : List Int) (x : Int) (r : List Int) : MvC (A ++ x :: x :: r) "drop" A.length (A ++ x :: r)
  | swap (A : List Int) (x y : Int) (r : List Int) (h : 2 ≤ dist x y) : MvC (A ++ x :: y :: r) "swap" A.length (A ++ y :: x :: r)
  | turn (A : List Int) (x y : Int) (r : List Int) (h : dist x y = 1) : MvC (A ++ x :: y :: x :: r) "turn" A.length (A ++ y :: x :: y :: r)
/-! ### the effect -/
/-! ### turned round -/
end Nw

/-! DL119: a comprehension whose first turn freezes a slot; d.get evaluated. -/
namespace DL
open PySem (Str)
open Nw
section
variable {α : Type}
end
end DL

/-! DL120: DL105 for any items that are not owned (made from DL105, DL107 by a program). -/
namespace DL
open PySem L2 PyProof.Rows
section
variable {ca : Nat → Addr} {K : PySem.W.Frag} {Hf H Hf1 H1 Hf2 H2 : Hp} {S P : Rg} {R R1 R2 : Nat → Rg} {σ : L2.St} {st : Sl} {v : V} {d : D} {vs : List V} {ds : List D} {X : Cx} {L : List Nat}
end
end DL
namespace DL
open PySem (Str)
end DL

/-! DL121: moves that bring a step into a normal word. -/
namespace Nw
open PySem (Str)
open DL
/-! ### a block of a normal word -/
def blk (hi : Int) (n : Nat) : List Int := (List.range n).map fun (t : Nat) => hi - (t : Int)
/-! ### the moves for one more step; the code's last count stands in front -/
end Nw

/-! DL122: moves that lead to the normal word. -/
namespace Nw
open PySem (Str)
open DL
end Nw

/-! DL123: a loop over a slot's list, by places. -/
namespace DL
open PySem (Str)
end DL

/-! DL124: classmethods called by keyword alone. -/
namespace DL
open PySem L2 PyProof.Rows
section
variable {P : Program} {w : World} {K : PySem.W.Frag} {mg : Str → Option Value} {base : Heap} {ca : Nat → Addr} {L : List Nat}
end
section
variable {ca : Nat → Addr} {Hf H : Hp} {S P : Rg} {R : Nat → Rg} {σ : L2.St} {st : Sl} {X : Cx}
end
end DL

/-! DL125: == and != of two values that are both instances (own __eq__) or both data. -/
namespace DL
open PySem L2 PyProof.Rows
section
variable {ca : Nat → Addr} {Hf H : Hp} {S P : Rg} {R : Nat → Rg} {σ : L2.St} {st : Sl} {X : Cx}
end
end DL

/-! DL126: != of two lists of data among which empty dicts may be. -/
namespace DL
open PySem L2 PyProof.Rows
/-- two items whose comparison is known -/
def EI (K : PySem.W.Frag) (H : Hp) (x y : V) (b : Bool) : Prop :=
  (∃ d e, Dp K H x d ∧ Dp K H y e ∧ d.canLay0 = true ∧ e.canLay0 = true ∧ min d.depth e.depth ≤ 60 ∧ b = PyData.eqv d e) ∨
    ∃ p q, x = .ref p ∧ y = .ref q ∧ H p = some (.dK []) ∧ H q = some (.dK []) ∧ b = true
inductive EIs (K : PySem.W.Frag) (H : Hp) : List V → List V → List Bool → Prop where
  | nil : EIs K H [] [] []
  | cons {x y : V} {b : Bool} {xs ys : List V} {bs : List Bool} (h : EI K H x y b) (r : EIs K H xs ys bs) : EIs K H (x :: xs) (y :: ys) (b :: bs)
section
variable {ca : Nat → Addr} {K : PySem.W.Frag} {Hf H : Hp} {S : Rg} {X : Cx} {pins : List (Addr × Obj)} {σ : L2.St} {s : Shared}
end
end DL

/-! DL127: d[k] = v at a slot's own dict; k in d. -/
namespace DL
open PySem PySem.Spec PyProof.Rows L2
section
variable {ca : Nat → Addr} {K : PySem.W.Frag} {Hf H Hf1 H1 Hf2 H2 : Hp} {S S1 S2 P P1 P2 : Rg} {R R1 R2 : Nat → Rg} {pp qq : Prop} {σ σ' : L2.St} {st st' : Sl} {v : V} {d : D} {vs : List V} {ds : List D} {X : Cx} {L : List Nat}
end
end DL

/-! DL128: rows[e].append(x), rows a slot's own list of own lists, x a name. -/
namespace DL
open PySem PySem.Spec PyProof.Rows L2
section
variable {ca : Nat → Addr} {K : PySem.W.Frag} {Hf H Hf1 H1 Hf2 H2 : Hp} {S S1 S2 P P1 P2 : Rg} {R R1 R2 : Nat → Rg} {pp qq : Prop} {σ σ' : L2.St} {st st' : Sl} {v : V} {d : D} {vs : List V} {ds : List D} {X : Cx} {L : List Nat}
end
end DL

/-! DL129: max of a list of ints; with a default. -/
namespace DL
open PySem PySem.Spec PyProof.Rows L2
section
variable {ca : Nat → Addr} {K : PySem.W.Frag} {Hf H : Hp} {S : Rg} {X : Cx} {v : V} {d : D} {vs : List V} {ds : List D}
end
end DL

set_option maxHeartbeats 4000000
/-! DL130: for .. in zip(xs, e), xs a slot's list that is walked where it stands. -/
namespace DL
open PySem PySem.Spec PyProof.Rows L2
section
variable {ca : Nat → Addr} {K : PySem.W.Frag} {Hf H Hf1 H1 Hf2 H2 : Hp} {S S1 S2 P P1 P2 : Rg} {R R1 R2 : Nat → Rg} {pp qq : Prop} {σ σ' : L2.St} {st st' : Sl} {v : V} {d : D} {vs : List V} {ds : List D} {X : Cx} {L : List Nat}
end
end DL

/-! DL131: earliest rounds of steps, longest chains (the plain part of k55's law). -/
namespace DL
open PySem (Str)
open Nw
/-! ### levels -/
def nr (x y : Int) : Prop := x - y ≤ 1 ∧ y - x ≤ 1
structure Ear (ss E : List Int) : Prop where
  le : E.length ≤ ss.length
  pos : ∀ (i : Nat) (v : Int), E[i]? = some v → 1 ≤ v
  lt : ∀ (i : Nat) (v s : Int) (j : Nat) (x t : Int), E[i]? = some v → ss[i]? = some s → j < i → E[j]? = some x → ss[j]? = some t → nr t s → x < v
  wait : ∀ (i : Nat) (v s : Int), E[i]? = some v → ss[i]? = some s → v = 1 ∨ ∃ (j : Nat) (x t : Int), j < i ∧ E[j]? = some x ∧ ss[j]? = some t ∧ nr t s ∧ v = x + 1
/-! ### the dict of the latest steps -/
/-- the dict holds, for each step value, the last index below k -/
structure La (ss : List Int) (k : Nat) (kvs : List (L2.Key × D)) : Prop where
  len : kvs.length ≤ k
  no : ∀ x, valD kvs (.inl x) = none → ∀ j, j < k → ss[j]? ≠ some x
  yes : ∀ x d, valD kvs (.inl x) = some d → ∃ j : Nat, d = .int (j : Int) ∧ j < k ∧ ss[j]? = some x ∧ ∀ j', j < j' → j' < k → ss[j']? ≠ some x
/-! ### the levels of the package -/
abbrev LV := Int × Option Nat
structure Lev (ss : List Int) (L : List LV) : Prop where
  e : Ear ss (L.map (·.1))
  w : ∀ (i : Nat) (p : LV), L[i]? = some p → (p.1 = 1 ∧ p.2 = none) ∨ ∃ (j : Nat) (t s x : Int), p.2 = some j ∧ j < i ∧ ss[j]? = some t ∧ ss[i]? = some s ∧ nr t s ∧ (L.map (·.1))[j]? = some x ∧ p.1 = x + 1
/-! ### the greatest -/
/-- the greatest of a list, at least 0 -/
structure Mx (E : List Int) (m : Int) : Prop where
  ge : ∀ x ∈ E, x ≤ m
  z : 0 ≤ m
  at_ : m = 0 ∨ m ∈ E
/-! ### the longest chain -/
/-- a step b that the step a waits for -/
def Wtf (ss : List Int) (a b : Nat) : Prop := b < a ∧ ∃ t s, ss[b]? = some t ∧ ss[a]? = some s ∧ nr t s
def Adj (ss : List Int) (C : List Nat) : Prop := ∀ (i a b : Nat), C[i]? = some a → C[i + 1]? = some b → Wtf ss a b
/-- what longest_chain answers -/
structure LC (ss : List Int) (m : Int) (C : List Nat) : Prop where
  len : (C.length : Int) = m
  adj : Adj ss C
  mem : ∀ x ∈ C, x < ss.length
/-! ### the schedule -/
/-! ### chains are chains -/
/-! ### the law -/
end DL

/-! DL132: dicts with tuples of numbers and texts as keys: {}, d[k], k in d, d[k] = v. -/
namespace DL
open PySem PySem.Spec PyProof.Rows L2
section
variable {κ : Type} [DecidableEq κ]
def valQ (kvs : List (κ × D)) (k : κ) : Option D := (kvs.find? fun kv => decide (kv.1 = k)).map (·.2)
def putQ (kvs : List (κ × D)) (k : κ) (d : D) : List (κ × D) :=
  if (kvs.any fun kv => decide (kv.1 = k)) = true then kvs.map (fun kv => if kv.1 = k then (kv.1, d) else kv) else kvs ++ [(k, d)]
theorem valQ_cons_pos {p : κ × D} {r : List (κ × D)} {k : κ} (e : p.1 = k) : valQ (p :: r) k = some p.2 := by simp [valQ, List.find?_cons, e]
theorem valQ_cons_neg {p : κ × D} {r : List (κ × D)} {k : κ} (e : ¬ p.1 = k) : valQ (p :: r) k = valQ r k := by simp [valQ, List.find?_cons, e]
theorem valQ_put (k j : κ) (d : D) : ∀ kvs : List (κ × D), valQ (putQ kvs k d) j = if j = k then some d else valQ kvs j := by
  have mp : ∀ kvs : List (κ × D), valQ (kvs.map fun kv => if kv.1 = k then (kv.1, d) else kv) j = (valQ kvs j).map fun x => if j = k then d else x := fun kvs => by
    induction kvs with
    | nil => rfl
    | cons p r ih =>
      rw [List.map_cons]
      by_cases e : p.1 = j
      · rw [valQ_cons_pos e]
        by_cases e2 : p.1 = k
        · rw [if_pos e2, valQ_cons_pos (p := (p.1, d)) e, Option.map_some, if_pos (e.symm.trans e2)]
        · rw [if_neg e2, valQ_cons_pos e, Option.map_some, if_neg (fun z => e2 (e.trans z))]
      · rw [valQ_cons_neg e, ← ih]
        by_cases e2 : p.1 = k
        · rw [if_pos e2, valQ_cons_neg (p := (p.1, d)) e]
        · rw [if_neg e2, valQ_cons_neg e]
  have an : ∀ kvs : List (κ × D), (kvs.any fun kv => decide (kv.1 = k)) = (valQ kvs k).isSome := fun kvs => by
    induction kvs with
    | nil => rfl
    | cons p r ih =>
      rw [List.any_cons]
      by_cases e : p.1 = k
      · rw [decide_eq_true e, Bool.true_or, valQ_cons_pos e]; rfl
      · rw [decide_eq_false e, Bool.false_or, valQ_cons_neg e, ih]
  have ap : ∀ kvs : List (κ × D), valQ kvs k = none → valQ (kvs ++ [(k, d)]) j = if j = k then some d else valQ kvs j := fun kvs => by
    induction kvs with
    | nil =>
      intro _
      by_cases e : k = j
      · rw [List.nil_append, valQ_cons_pos e, if_pos e.symm]
      · rw [List.nil_append, valQ_cons_neg e, if_neg fun z => e z.symm]
    | cons p r ih =>
      intro h
      by_cases e : p.1 = k
      · rw [valQ_cons_pos e] at h; cases h
      · rw [valQ_cons_neg e] at h
        rw [List.cons_append]
        by_cases e2 : p.1 = j
        · rw [valQ_cons_pos e2, valQ_cons_pos e2, if_neg fun z => e (e2.trans z)]
        · rw [valQ_cons_neg e2, valQ_cons_neg e2, ih h]
  intro kvs
  unfold putQ
  by_cases h : (kvs.any fun kv => decide (kv.1 = k)) = true
  · rw [if_pos h, mp]
    rw [an] at h
    by_cases e : j = k
    · subst e
      obtain ⟨x, hx⟩ := Option.isSome_iff_exists.mp h
      rw [hx, Option.map_some, if_pos rfl, if_pos rfl]
    · rw [if_neg e]
      cases valQ kvs j with
      | none => rfl
      | some x => rw [Option.map_some, if_neg e]
  · rw [if_neg h]
    refine ap kvs ?_
    rw [an] at h
    simpa using h
end
section
variable {ca : Nat → Addr} {K : PySem.W.Frag} {Hf H Hf1 H1 Hf2 H2 : Hp} {S S1 S2 P P1 P2 : Rg} {R R1 R2 : Nat → Rg} {pp qq : Prop} {σ σ' : L2.St} {st st' : Sl} {v : V} {d : D} {vs : List V} {ds : List D} {X : Cx} {L : List Nat}
end
end DL

/-! DL133: {k: v}, one pair, k a tuple of numbers and texts. -/
namespace DL
open PySem PySem.Spec PyProof.Rows L2
def two (f : V → V → Hp → Prop) : List V → Hp → Prop
  | [x, y], H => f x y H
  | _, _ => False
section
variable {ca : Nat → Addr} {K : PySem.W.Frag} {Hf H Hf1 H1 Hf2 H2 : Hp} {S P : Rg} {R R1 R2 : Nat → Rg} {pp qq : Prop} {σ : L2.St} {st : Sl} {v : V} {d : D} {vs : List V} {ds : List D} {X : Cx}
end
end DL

/-! DL134: tuple(range(a, b)). -/
namespace DL
open PySem PySem.Spec PyProof.Rows L2
section
variable {ca : Nat → Addr} {K : PySem.W.Frag} {X : Cx}
end
end DL

set_option maxHeartbeats 1000000
/-! DL135: tuple(range(a, b, -1)); displays with starred items; xs.pop(e). -/
namespace DL
open PySem PySem.Spec PyProof.Rows L2
/-! ### tuple(range(a, b, -1)) -/
section
variable {ca : Nat → Addr} {K : PySem.W.Frag} {X : Cx}
end

/-! ### displays with starred items -/
section
variable {ca : Nat → Addr} {K : PySem.W.Frag} {Hf H Hf1 H1 Hf2 H2 : Hp} {S S1 S2 P P1 P2 : Rg} {R R1 R2 : Nat → Rg} {pp qq : Prop} {σ σ' : L2.St} {st st' : Sl} {v : V} {d : D} {vs : List V} {ds xs : List D} {X : Cx} {L : List Nat}
/-! ### xs.pop(e), xs a slot's own list -/
end
end DL

/-! DL136 (Nw): rounds of steps, the fewest rounds, the two searches for them (the plain part of k57's law). -/
namespace Nw
/-- the rounds of steps up to n: ascending, two apart -/
def rds : Nat → List (List Int)
  | 0 => [[]]
  | n + 1 => rds n ++ ((rds n).filter fun r => r.all fun t => decide (2 ≤ ((n : Int) + 1) - t)).map fun r => r ++ [(n : Int) + 1]
abbrev Gap (r : List Int) : Prop := r.Pairwise fun a b => a + 2 ≤ b
/-- what k rounds make of the descending list -/
def rch (w : Nat) : Nat → List Int → Prop
  | 0, v => v = desc w
  | k + 1, v => ∃ u r, rch w k u ∧ r ∈ rds (w - 1) ∧ v = runL r u
/-- .. and no fewer -/
def mn (w k : Nat) (v : List Int) : Prop := rch w k v ∧ ∀ j, j < k → ¬ rch w j v
section
variable {w : Nat}
/-! ### the search with a queue -/
structure BI (w : Nat) (n : Nat) (M : List (List Int × Int)) (Q1 Q2 : List (List Int)) : Prop where
  nd : (M.map (·.1)).Nodup
  val : ∀ v m, (v, m) ∈ M → ∃ k : Nat, m = (k : Int) ∧ k ≤ n + 1 ∧ mn w k v
  two : ∀ v, (v, ((n + 1 : Nat) : Int)) ∈ M ↔ v ∈ Q2
  one : ∀ v ∈ Q1, (v, (n : Int)) ∈ M
  all : ∀ v j, mn w j v → j ≤ n → (v, (j : Int)) ∈ M
  proc : ∀ u, (u, (n : Int)) ∈ M → u ∉ Q1 → ∀ r ∈ rds (w - 1), ∃ m, (runL r u, m) ∈ M
variable {n : Nat} {M : List (List Int × Int)} {Q1 Q2 : List (List Int)}
/-! ### the search by levels -/
structure LI (w c : Nat) (Ks Lv : List (List Int)) : Prop where
  nd : Ks.Nodup
  k : ∀ v, v ∈ Ks ↔ rch w c v
  l : ∀ v, v ∈ Lv ↔ mn w c v
/-- amid a level: what has been seen, the next level so far; P: what has been tried -/
structure LJ (w c : Nat) (Ks Lv K2 F : List (List Int)) (P : List Int → List Int → Prop) : Prop where
  nd : K2.Nodup
  len : K2.length = Ks.length + F.length
  k : ∀ v, v ∈ K2 ↔ v ∈ Ks ∨ v ∈ F
  f : ∀ v ∈ F, v ∉ Ks ∧ ∃ u r, u ∈ Lv ∧ r ∈ rds (w - 1) ∧ v = runL r u
  done : ∀ u r, P u r → runL r u ∈ K2
variable {c : Nat} {Ks Lv K2 F : List (List Int)} {P P' : List Int → List Int → Prop}
/-! ### the full networks -/
theorem stay : ∀ (r : List Int) (v : List Int) (j : Nat), (∀ t ∈ r, (j : Int) + 2 ≤ t ∧ t < v.length) → (runL r v).getD j 0 = v.getD j 0
  | [], v, j, _ => rfl
  | t :: r, v, j, h => by
    have h0 := h t List.mem_cons_self
    obtain ⟨i, hi⟩ : ∃ i : Nat, t = (i : Int) + 1 := ⟨(t - 1).toNat, by omega⟩
    have e := sN_get (l := v) (i := i) (by omega) j
    rw [if_neg (by omega), if_neg (by omega)] at e
    have l : (stp v t).length = v.length := stp_len v t
    show (runL r (stp v t)).getD j 0 = _
    rw [stay r (stp v t) j fun q hq => by rw [l]; exact h q (List.mem_cons_of_mem _ hq)]
    subst hi
    exact e
theorem move : ∀ (r : List Int) (v : List Int) (i : Nat), Gap r → (∀ t ∈ r, 1 ≤ t ∧ t < v.length) → ∃ j : Nat, (runL r v).getD j 0 = v.getD i 0 ∧ (j = i ∨ (j = i + 1 ∧ ((i : Int) + 1) ∈ r) ∨ (j + 1 = i ∧ (i : Int) ∈ r))
  | [], v, i, _, _ => ⟨i, rfl, .inl rfl⟩
  | t :: r, v, i, g, h => by
    have h0 := h t List.mem_cons_self
    obtain ⟨k, rfl⟩ : ∃ k : Nat, t = (k : Int) + 1 := ⟨(t - 1).toNat, by omega⟩
    obtain ⟨g1, g2⟩ := List.pairwise_cons.mp g
    have l : (stp v ((k : Int) + 1)).length = v.length := stp_len v _
    have e : ∀ j, (stp v ((k : Int) + 1)).getD j 0 = _ := fun j => sN_get (l := v) (i := k) (by omega) j
    have far : ∀ j : Nat, j ≤ k + 1 → (runL r (stp v ((k : Int) + 1))).getD j 0 = (stp v ((k : Int) + 1)).getD j 0 := fun j hj => stay r _ j fun q hq => by
      have := g1 q hq
      have := h q (List.mem_cons_of_mem _ hq)
      omega
    have k0 := e k
    have k1 := e (k + 1)
    rw [if_pos rfl] at k0
    rw [if_neg (by omega), if_pos rfl] at k1
    by_cases c1 : i = k
    · subst c1
      by_cases q : v.getD i 0 ≤ v.getD (i + 1) 0
      · exact ⟨i, (far i (by omega)).trans (by rw [k0]; omega), .inl rfl⟩
      · exact ⟨i + 1, (far (i + 1) (by omega)).trans (by rw [k1]; omega), .inr (.inl ⟨rfl, List.mem_cons_self⟩)⟩
    · by_cases c2 : i = k + 1
      · subst c2
        by_cases q : v.getD k 0 ≤ v.getD (k + 1) 0
        · exact ⟨k + 1, (far (k + 1) (by omega)).trans (by rw [k1]; omega), .inl rfl⟩
        · exact ⟨k, (far k (by omega)).trans (by rw [k0]; omega), .inr (.inr ⟨rfl, by rw [show ((k + 1 : Nat) : Int) = (k : Int) + 1 by omega]; exact List.mem_cons_self⟩)⟩
      · obtain ⟨j, ej, cj⟩ := move r (stp v ((k : Int) + 1)) i g2 fun q hq => by rw [l]; exact h q (List.mem_cons_of_mem _ hq)
        have ei := e i
        rw [if_neg c1, if_neg c2] at ei
        refine ⟨j, ej.trans ei, ?_⟩
        rcases cj with cj | ⟨cj, m⟩ | ⟨cj, m⟩
        · exact .inl cj
        · exact .inr (.inl ⟨cj, List.mem_cons_of_mem _ m⟩)
        · exact .inr (.inr ⟨cj, List.mem_cons_of_mem _ m⟩)
end
end Nw

/-! DL137 (Nw): the steps of a network level by level; the depth is never less than the fewest rounds. -/
namespace Nw
abbrev In (n : Int) (ss : List Int) : Prop := ∀ s ∈ ss, 1 ≤ s ∧ s < n
/-! ### level by level -/
end Nw
namespace DL
open Nw
end DL

set_option maxHeartbeats 1000000
/-! DL138: sum(xs, []), xs a list of lists. -/
namespace DL
open PySem PySem.Spec PyProof.Rows L2
section
variable {prog : Program} {w : World} {A : Around} {E : Value → Shared → Prop}
end
section
variable {X : Cx} {pins : List (Addr × Obj)} {σ : L2.St} {H : Hp} {s : Shared}
end
section
variable {ca : Nat → Addr} {K : PySem.W.Frag} {Hf H : Hp} {S : Rg} {vs : List V} {ds xs : List D} {X : Cx}
end
end DL

/-! DL139: len of a dict. -/
namespace DL
open PySem PySem.Spec PyProof.Rows L2
section
variable {ca : Nat → Addr} {K : PySem.W.Frag} {X : Cx}
end
end DL

set_option maxHeartbeats 1000000
/-! DL141: texts: len, signs, slices, walks, split, join, endswith, removeprefix, int of a text. -/
namespace DL
open PySem PySem.Spec PyProof.Rows L2
section
variable {ca : Nat → Addr} {K : PySem.W.Frag} {Hf H : Hp} {S : Rg} {vs : List V} {ds xs : List D} {X : Cx} {v : V}
/-! ### walking a text -/
end
end DL

set_option maxHeartbeats 1000000
/-! DL142: x, *xs = a list. -/
namespace DL
open PySem PySem.Spec PyProof.Rows L2
section
variable {ca : Nat → Addr} {X : Cx} {L : List Nat}
end
end DL

set_option maxHeartbeats 1000000
/-! DL143: texts made of numbers: joined, split again, shown; steps for the walk. -/
namespace DL
open PySem (Str PyData)
open Nw PySem
open PySem.Spec PyProof.Rows L2
/-! ### a text shown -/
/-- the signs of these texts -/
def okC (c : Nat) : Bool := c == 32 || (decide (48 ≤ c) && decide (c ≤ 58))
end DL

set_option maxHeartbeats 1000000
/-! DL144: a call, the slot's list of own flat lists given for its time only. -/
namespace DL
open PySem L2 PyProof.Rows
section
variable {ca : Nat → Addr} {K : PySem.W.Frag} {Hf H H3 Hf1 H1 Hf2 H2 : Hp} {S P : Rg} {R R1 R2 : Nat → Rg} {σ : L2.St} {st : Sl} {v : V} {d : D} {vs : List V} {ds : List D} {X : Cx} {L : List Nat}
end
end DL
namespace DL
open PySem (Str)
end DL

set_option maxHeartbeats 1000000
/-! DL145: [a:] of a text, a text times an int. -/
namespace DL
open PySem PySem.Spec PyProof.Rows L2
section
variable {ca : Nat → Addr} {K : PySem.W.Frag} {X : Cx}
end
end DL

set_option maxHeartbeats 1000000
/-! DL146: isinstance of an exception and a pair of the text's exception classes. -/
namespace DL
open PySem PySem.Spec PyProof.Rows L2
section
variable {ca : Nat → Addr} {K : PySem.W.Frag} {X : Cx}
end
end DL

set_option maxHeartbeats 1000000
/-! DL147: words read as numbers (plain part of k73's law). -/
namespace DL
open PySem (Str PyData)
open Nw PySem PySem.Spec PyProof.Rows L2 C8 SX
/-- the last sign is a colon -/
def col (l : List Nat) : Bool := decide (l.drop (l.length - 1) = [58])
/-! ### a text's words -/
/-! ### numbers or None -/
/-! ### what is told -/
end DL

set_option maxHeartbeats 1000000
/-! DL148: an own value stored in a field; self.f.append(e), self the slot's own instance, f an own list in its field. -/
namespace DL
open PySem PySem.Spec PyProof.Rows L2
section
variable {ca : Nat → Addr} {K : PySem.W.Frag} {Hf H Hf1 H1 Hf2 H2 : Hp} {S S1 S2 P P1 P2 : Rg} {R R1 R2 : Nat → Rg} {pp qq : Prop} {σ σ' : L2.St} {st st' : Sl} {v : V} {d : D} {vs : List V} {ds : List D} {X : Cx} {L : List Nat}
end
end DL

set_option maxHeartbeats 1000000
/-! DL149: self.f.append((x, self.g)), self the slot's own instance, x a name. -/
namespace DL
open PySem PySem.Spec PyProof.Rows L2
section
variable {ca : Nat → Addr} {K : PySem.W.Frag} {Hf H Hf1 H1 Hf2 H2 : Hp} {S S1 S2 P P1 P2 : Rg} {R R1 R2 : Nat → Rg} {pp qq : Prop} {σ σ' : L2.St} {st st' : Sl} {v : V} {d : D} {vs : List V} {ds : List D} {X : Cx} {L : List Nat}
end
end DL

set_option maxHeartbeats 1000000
/-! DL150: a built-in of one argument, the argument a field of the slot's own instance (len, list .. of an own list in a field). -/
namespace DL
open PySem PySem.Spec PyProof.Rows L2
section
variable {ca : Nat → Addr} {K : PySem.W.Frag} {Hf H : Hp} {X : Cx}
end
end DL

set_option maxHeartbeats 1000000
/-! DL151: self.f.pop(), self.f.reverse(), self.f.clear(), f an own list in a field of the slot's own instance. -/
namespace DL
open PySem PySem.Spec PyProof.Rows L2
section
variable {ca : Nat → Addr} {K : PySem.W.Frag} {Hf H : Hp} {X : Cx}
end
end DL

set_option maxHeartbeats 1000000
/-! DL152: a field of the slot's own instance as a target (of an unpacking). -/
namespace DL
open PySem PySem.Spec PyProof.Rows L2
section
variable {ca : Nat → Addr} {X : Cx} {L : List Nat}
end
end DL

set_option maxHeartbeats 1000000
/-! DL153: a property whose getter is a guarded def (FnG), read; also of an own instance in a slot (lent for the call). -/
namespace DL
open PySem PySem.Spec PyProof.Rows L2
section
variable {ca : Nat → Addr} {X : Cx}
end
end DL

set_option maxHeartbeats 1000000
/-! DL154: an expression that only reads an owned thing in a slot: it is let stand for the expression's time, and then owned again. The value must be flat, or an own list of flat things; the other slots must be empty or flat. -/
namespace DL
open PySem PySem.Spec PyProof.Rows L2
section
variable {ca : Nat → Addr} {K : PySem.W.Frag} {Hf H Hf1 H1 : Hp} {S S1 : Rg} {X : Cx}
end
end DL

set_option maxHeartbeats 2000000
/-! DL155: != of two lists all of whose items are equal by eqBool (own == inside): the answer False. -/
namespace DL
open PySem PySem.SeqAt GQ
open AutoSeq1 (wpAny_loadPart')
open MeetsSeq MeetsSeq2 MeetsSeq3 SeqRoads2
section
variable {prog : Program} {w : World} {A : Around} {R : Result → Shared → Prop}
end
section
variable {prog : Program} {w : World} {A : Around} {E : Value → Shared → Prop} {s : Shared}
end
open PySem.Spec PyProof.Rows L2
section
variable {X : Cx} {n : Nat} {D : Eqv}
end
end DL

/-! DL156: sleeping generators stay as they are while code that does not wake them runs (a frame rule for generators, own work over Runs). -/
namespace DL
open PySem PyProof.Rows
open Sem (wp)

/-- only plain frames -/
def NG (fs : List Frame) : Prop := ∀ f ∈ fs, ∃ k h g l c p kp, f = Frame.ret k h g l c p kp
def NGS : GenState → Prop
  | .suspended _ _ _ _ fs _ => NG fs
  | _ => True
/-- a sleeper that can never be woken -/
def Dead (x : GenState) : Prop := ∃ l c p fs cl, x = .suspended (fun _ => .unsupported "") l c p fs cl
def Susp (x : GenState) : Prop := ∃ k l c p fs cl, x = .suspended k l c p fs cl
/-- it cannot be woken: dead, or running -/
def Dz (x : GenState) : Prop := Dead x ∨ x = .running
/-- the left one is a dead copy of the right one, or they are the same -/
inductive E1 : GenState → GenState → Prop
  | same {x} : NGS x → E1 x x
  | dead {k l l' c p fs fs' cl} : fs.map Frame.where_ = fs'.map Frame.where_ → E1 (.suspended (fun _ => .unsupported "") l c p fs cl) (.suspended k l' c p fs' cl)
structure GSim (ga gb : Array GenState) : Prop where
  size : ga.size = gb.size
  at_ : ∀ (i : Nat) (x y : GenState), ga[i]? = some x → gb[i]? = some y → E1 x y
/-- the dead ones on the left, and their likes on the right, stay -/
def GKp (ga gb ga' gb' : Array GenState) : Prop := ∀ (i : Nat) (x y : GenState), ga[i]? = some x → gb[i]? = some y → Dz x → ga'[i]? = some x ∧ gb'[i]? = some y

theorem GSim.get {ga gb : Array GenState} (h : GSim ga gb) {i : Nat} {x : GenState} (e : ga[i]? = some x) : ∃ y, gb[i]? = some y ∧ E1 x y := by
  obtain ⟨hi, _⟩ := Array.getElem?_eq_some_iff.mp e
  have hi' : i < gb.size := by rw [← h.size]; exact hi
  exact ⟨gb[i], Array.getElem?_eq_getElem hi', h.at_ i x _ e (Array.getElem?_eq_getElem hi')⟩
theorem E1.seen {x y : GenState} (h : E1 x y) : x.seen = y.seen := by
  cases h with
  | same _ => rfl
  | dead e => simp only [GenState.seen, e]
theorem E1.bare {x y : GenState} (h : E1 x y) : x.bare = y.bare := by
  cases h with
  | same _ => rfl
  | dead e => rfl
theorem GKp.refl {ga gb : Array GenState} : GKp ga gb ga gb := fun _ _ _ a b _ => ⟨a, b⟩
theorem GKp.trans {ga gb ga' gb' ga2 gb2 : Array GenState} (a : GKp ga gb ga' gb') (b : GKp ga' gb' ga2 gb2) : GKp ga gb ga2 gb2 := fun i x y h1 h2 h3 =>
  let ⟨q1, q2⟩ := a i x y h1 h2 h3
  b i x y q1 q2 h3
theorem GSim.set {ga gb : Array GenState} (h : GSim ga gb) (g : Nat) {z : GenState} (hz : NGS z) : GSim (ga.setIfInBounds g z) (gb.setIfInBounds g z) := by
  refine ⟨by simp [h.size], fun i x y e1 e2 => ?_⟩
  by_cases hi : g = i
  · subst hi
    rw [Array.getElem?_setIfInBounds_self] at e1 e2
    split at e1
    · split at e2
      · cases e1; cases e2; exact .same hz
      · cases e2
    · cases e1
  · rw [Array.getElem?_setIfInBounds_ne hi] at e1 e2
    exact h.at_ i x y e1 e2
theorem GKp.set {ga gb : Array GenState} (g : Nat) {z : GenState} (hn : ∀ x : GenState, ga[g]? = some x → ¬ Dz x) : GKp ga gb (ga.setIfInBounds g z) (gb.setIfInBounds g z) := fun i x y e1 e2 d => by
  have hi : g ≠ i := fun e => hn x (e ▸ e1) d
  rw [Array.getElem?_setIfInBounds_ne hi, Array.getElem?_setIfInBounds_ne hi]
  exact ⟨e1, e2⟩
theorem GSim.push {ga gb : Array GenState} (h : GSim ga gb) {z : GenState} (hz : NGS z) : GSim (ga.push z) (gb.push z) := by
  refine ⟨by simp [h.size], fun i x y e1 e2 => ?_⟩
  rw [Array.getElem?_push] at e1 e2
  rw [h.size] at e1
  split at e1
  · rename_i hi
    rw [if_pos hi] at e2
    cases e1; cases e2
    exact .same hz
  · rename_i hi
    rw [if_neg hi] at e2
    exact h.at_ i x y e1 e2
theorem GKp.push {ga gb : Array GenState} {z z' : GenState} : GKp ga gb (ga.push z) (gb.push z') := fun i x y e1 e2 _ => by
  obtain ⟨h1, _⟩ := Array.getElem?_eq_some_iff.mp e1
  obtain ⟨h2, _⟩ := Array.getElem?_eq_some_iff.mp e2
  rw [Array.getElem?_push, Array.getElem?_push, if_neg (Nat.ne_of_lt h1), if_neg (Nat.ne_of_lt h2)]
  exact ⟨e1, e2⟩
/-- a dead copy -/
def dead : GenState → GenState
  | .suspended _ l c p fs cl => .suspended (fun _ => .unsupported "") l c p (fs.map fun f => Frame.ret (fun _ => .unsupported "") none false [] f.where_.1 f.where_.2 []) cl
  | x => x
/-- the sleepers but those of I are as they were, and what runs runs -/
structure Kept (I : Nat → Prop) (s s' : Shared) : Prop where
  susp : ∀ (i : Nat) (x : GenState), ¬ I i → s.gens[i]? = some x → Susp x → s'.gens[i]? = some x
  run : ∀ i : Nat, s.gens[i]? = some .running → s'.gens[i]? = some .running
theorem Kept.refl {I : Nat → Prop} {s : Shared} : Kept I s s := ⟨fun _ _ _ e _ => e, fun _ e => e⟩
theorem Kept.trans {I J : Nat → Prop} {s s1 s2 : Shared} (a : Kept I s s1) (b : Kept J s1 s2) (h : ∀ i, J i → I i) : Kept I s s2 := ⟨fun i x n e su => b.susp i x (fun z => n (h i z)) (a.susp i x n e su) su, fun i e => b.run i (a.run i e)⟩
end DL

/-! DL157: private things that lie still while code runs that does not know them. -/
namespace DL
open PySem L2 PyProof.Rows

/-- private things: objects, sleeping generators -/
structure Prv where
  obj : Addr → Option Obj
  gen : Nat → Option GenState
  run : Nat → Prop := fun _ => False
  os : Option OsState := Option.none
  s0 : Option Shared := Option.none
def Prv.none : Prv := { obj := fun _ => Option.none, gen := fun _ => Option.none }
/-- a private object, told to the others -/
def PO (b : Addr) (o : Obj) : HO := .ext fun h => h.get? b = some o
def plus (H : Hp) (G : Prv) : Hp := fun b => match G.obj b with
  | some o => some (PO b o)
  | Option.none => H b
def minus (H : Hp) (G : Prv) : Hp := fun b => match G.obj b with
  | some _ => Option.none
  | Option.none => H b
/-- they lie so, nobody knows them -/
structure Held (X : Cx) (pins : List (Addr × Obj)) (H : Hp) (G : Prv) (s : Shared) : Prop where
  obj : ∀ b o, G.obj b = some o → s.heap.get? b = some o ∧ FpOk X pins H b
  gen : ∀ (i : Nat) (x : GenState), G.gen i = some x → s.gens[i]? = some x ∧ Susp x ∧ NGS x
  run : ∀ i : Nat, G.run i → s.gens[i]? = some .running
  os : ∀ o, G.os = some o → X.s_0.os = o
  s0 : ∀ o, G.s0 = some o → X.s_0 = o
theorem Held.nil {X : Cx} {pins : List (Addr × Obj)} {H : Hp} {s : Shared} : Held X pins H Prv.none s := ⟨fun _ _ e => (nomatch e), fun _ _ e => (nomatch e), fun _ e => e.elim, fun _ e => (nomatch e), fun _ e => (nomatch e)⟩
theorem plus_in {H : Hp} {G : Prv} {b : Addr} {o : Obj} (e : G.obj b = some o) : plus H G b = some (PO b o) := by unfold plus; rw [e]
theorem plus_out {H : Hp} {G : Prv} {b : Addr} (e : G.obj b = Option.none) : plus H G b = H b := by unfold plus; rw [e]
theorem minus_in {H : Hp} {G : Prv} {b : Addr} {o : Obj} (e : G.obj b = some o) : minus H G b = Option.none := by unfold minus; rw [e]
theorem minus_out {H : Hp} {G : Prv} {b : Addr} (e : G.obj b = Option.none) : minus H G b = H b := by unfold minus; rw [e]
theorem tp_plus {Hf H : Hp} {G : Prv} (t : TpH Hf H) : TpH Hf (plus H G) := fun b xs e => by
  cases q : G.obj b with
  | none => rw [plus_out q] at e; exact t b xs e
  | some o => rw [plus_in q] at e; cases e
theorem tp_minus {Hf H : Hp} {G : Prv} (t : TpH Hf H) : TpH Hf (minus H G) := fun b xs e => by
  cases q : G.obj b with
  | none => rw [minus_out q] at e; exact t b xs e
  | some o => rw [minus_in q] at e; cases e

section
variable {X : Cx} {pins : List (Addr × Obj)} {σ : L2.St} {H H' : Hp} {s s' : Shared} {G : Prv}
theorem obj_of_some {b : Addr} {u : HO} (hn : ∀ b o, G.obj b = some o → H b = Option.none) (e : H b = some u) : G.obj b = Option.none := by
  cases q : G.obj b with
  | none => rfl
  | some o => rw [hn b o q] at e; cases e
theorem po_ok {P : Program} {w : World} {h : Heap} {b : Addr} {o : Obj} (e : h.get? b = some o) : ObjOk P w H h b (PO b o) := ⟨e, ⟨o, e⟩, fun _ _ q k => k o q⟩
theorem _root_.L2.Inv.plus (I : Inv X pins σ H s) (hd : Held X pins H G s) : Inv X pins σ (DL.plus H G) s := by
  have hn : ∀ b o, G.obj b = some o → H b = Option.none := fun b o e => (hd.obj b o e).2.1
  have keep : ∀ b u, H b = some u → DL.plus H G b = some u := fun b u e => by rw [plus_out (obj_of_some hn e)]; exact e
  refine ⟨I.ok, I.os, I.bare, ⟨I.base.keep, I.base.slot, fun b o e n hx => ?_, I.base.there, fun b xs e => keep _ _ (I.base.tups b xs e), fun b o u e => keep _ _ (I.base.frzs b o u e), fun b ps e => ?_⟩, I.loc, I.cell, ?_, fun x c e => ?_, fun p hp => ?_, fun b u e => ?_, I.len⟩
  · cases q : G.obj b with
    | none => rw [plus_out q]; exact I.base.free b o e n hx
    | some o' =>
      rcases (hd.obj b o' q).2.2.2.2.1 with z | z
      · exact absurd z hx
      · exact absurd (Nat.lt_of_lt_of_le (Heap.lt_size e) z) (Nat.lt_irrefl _)
  · obtain ⟨m, q⟩ := I.base.tbls b ps e
    exact ⟨m, keep _ _ q⟩
  · cases q : G.obj X.env.locals with
    | none => rw [plus_out q]; exact I.free
    | some o => exact absurd rfl (hd.obj _ o q).2.2.1
  · cases q : G.obj c with
    | none => rw [plus_out q]; exact I.freeC x c e
    | some o => exact absurd rfl ((hd.obj c o q).2.2.2.2.2.1 x c e)
  · obtain ⟨e, n, r⟩ := I.pin p hp
    refine ⟨e, ?_, r⟩
    cases q : G.obj p.1 with
    | none => rw [plus_out q]; exact n
    | some o => exact absurd rfl ((hd.obj p.1 o q).2.2.2.2.2.2 p hp)
  · cases q : G.obj b with
    | none =>
      rw [plus_out q] at e
      exact (I.hok b u e).stay (fun _ _ _ z => z) (fun c z => keep _ _ z) fun c xs z => keep _ _ z
    | some o =>
      rw [plus_in q] at e
      cases e
      exact po_ok (hd.obj b o q).1
/-- what of the private things' places does not change -/
def Still (X : Cx) (pins : List (Addr × Obj)) (G : Prv) : Prop := ∀ b o, G.obj b = some o → b ≠ X.env.locals ∧ b ∉ X.fs ∧ (b ∈ X.ex ∨ X.s_0.heap.objs.size ≤ b) ∧ (∀ x c, X.env.cells.lookup x = some c → c ≠ b) ∧ ∀ p ∈ X.pn ++ pins, p.1 ≠ b
theorem Held.still (hd : Held X pins H G s) : Still X pins G := fun b o e => (hd.obj b o e).2.2
theorem _root_.L2.Inv.minus (I : Inv X pins σ H' s) (st : Still X pins G) (hp : ∀ b o, G.obj b = some o → H' b = some (PO b o)) : Inv X pins σ (DL.minus H' G) s := by
  have keep : ∀ b u, H' b = some u → (∀ o, u ≠ PO b o) → DL.minus H' G b = some u := fun b u e n => by
    cases q : G.obj b with
    | none => rw [minus_out q]; exact e
    | some o =>
      rw [hp b o q] at e
      cases e
      exact absurd rfl (n o)
  have none' : ∀ b, H' b = Option.none → DL.minus H' G b = Option.none := fun b e => by
    cases q : G.obj b with
    | none => rw [minus_out q]; exact e
    | some o => exact minus_in q
  have back : ∀ b u, DL.minus H' G b = some u → H' b = some u := fun b u e => by
    cases q : G.obj b with
    | none => rw [minus_out q] at e; exact e
    | some o => rw [minus_in q] at e; cases e
  refine ⟨I.ok, I.os, I.bare, ⟨I.base.keep, I.base.slot, fun b o e n hx => none' b (I.base.free b o e n hx), I.base.there, fun b xs e => keep _ _ (I.base.tups b xs e) (fun o z => nomatch z), fun b o u e => keep _ _ (I.base.frzs b o u e) (fun o z => nomatch z), fun b ps e => ?_⟩, I.loc, I.cell, none' _ I.free, fun x c e => none' _ (I.freeC x c e), fun p hp => ?_, fun b u e => ?_, I.len⟩
  · obtain ⟨m, q⟩ := I.base.tbls b ps e
    exact ⟨m, keep _ _ q fun o z => nomatch z⟩
  · obtain ⟨e, n, r⟩ := I.pin p hp
    exact ⟨e, none' _ n, r⟩
  · exact (I.hok b u (back b u e)).stay (fun _ _ _ z => z) (fun c z => keep _ _ z (fun o z => nomatch z)) fun c xs z => keep _ _ z (fun o z => nomatch z)
theorem Held.back (I : Inv X pins σ H' s') (hd : Held X pins H G s) (hp : ∀ b o, G.obj b = some o → H' b = some (PO b o)) (k : Kept (fun _ => False) s s') : Held X pins (DL.minus H' G) G s' :=
  ⟨fun b o e => ⟨(I.hok b _ (hp b o e)).1, minus_in e, hd.still b o e⟩, fun i x e => ⟨k.susp i x (fun z => z) (hd.gen i x e).1 (hd.gen i x e).2.1, (hd.gen i x e).2⟩, fun i e => k.run i (hd.run i e), hd.os, hd.s0⟩
end

section
variable {X : Cx} {pins : List (Addr × Obj)} {σ : L2.St} {H H' Hf : Hp} {s s' : Shared} {G : Prv} {ca : Nat → Addr} {R : Nat → Rg} {st : Sl} {L : List Nat} {P : Rg} {pp : Prop}
theorem PR.plus (p : PR ca X.K Hf H P pp R σ st) (hn : ∀ b o, G.obj b = some o → H b = Option.none) : PR ca X.K Hf (DL.plus H G) P pp R σ st := by
  have keep : ∀ b u, H b = some u → DL.plus H G b = some u := fun b u e => by rw [plus_out (obj_of_some hn e)]; exact e
  refine ⟨p.pend, p.len, fun i d e => ?_, p.dj, p.dp, ⟨fun b o e => keep b o (p.w.ex b o e), fun b q => ?_, p.w.nf, tp_plus p.w.tp⟩⟩
  · obtain ⟨v, e1, r⟩ := p.at_ i d e
    exact ⟨v, e1, r.keep (fun _ _ e => e) fun b _ o e => keep b o e⟩
  · obtain ⟨o, e⟩ := p.w.dm b q
    exact ⟨o, keep b o e⟩
/-- a step among the known things is one without the private ones -/
theorem Tr.minus {S S' : Rg} {Hf' : Hp} (hn : ∀ b o, G.obj b = some o → H b = Option.none) (hS : ∀ b o, G.obj b = some o → ¬ S b) (t : Tr S Hf (DL.plus H G) S' Hf' H') :
    Tr S Hf H S' Hf' (DL.minus H' G) ∧ (∀ b o, G.obj b = some o → H' b = some (PO b o)) ∧ (∀ b o, G.obj b = some o → ¬ S' b) := by
  have kp : ∀ b o, G.obj b = some o → H' b = some (PO b o) := fun b o e => t.keep b _ (plus_in e) (hS b o e)
  have hnone : ∀ b, DL.plus H G b = Option.none → H b = Option.none := fun b e => by
    cases q : G.obj b with
    | none => rw [plus_out q] at e; exact e
    | some o => rw [plus_in q] at e; cases e
  refine ⟨⟨t.fx, fun b o e n => ?_, fun b q => (t.nw b q).imp_right (hnone b), fun b o e => (t.fz b o e).imp_right fun q => q.imp_right (hnone b)⟩, kp, fun b o e q => ?_⟩
  · have g := obj_of_some hn e
    rw [minus_out g]
    exact t.keep b o (by rw [plus_out g]; exact e) n
  · rcases t.nw b q with z | z
    · exact hS b o e z
    · rw [plus_in e] at z; cases z
theorem PR.minus (p : PR ca X.K Hf H' P pp R σ st) (hp : ∀ b o, G.obj b = some o → ¬ jn P R b) (hf : ∀ b o, G.obj b = some o → Hf b = Option.none) : PR ca X.K Hf (DL.minus H' G) P pp R σ st := by
  have keep : ∀ b u, (∀ o, G.obj b ≠ some o) → H' b = some u → DL.minus H' G b = some u := fun b u n e => by
    cases q : G.obj b with
    | none => rw [minus_out q]; exact e
    | some o => exact absurd q (n o)
  refine ⟨p.pend, p.len, fun i d e => ?_, p.dj, p.dp, ⟨fun b o e => keep b o (fun o' q => ?_) (p.w.ex b o e), fun b q => ?_, p.w.nf, tp_minus p.w.tp⟩⟩
  · obtain ⟨v, e1, r⟩ := p.at_ i d e
    exact ⟨v, e1, r.keep (fun _ _ e => e) fun b q o e => keep b o (fun o' z => hp b o' z (.inr ⟨i, q⟩)) e⟩
  · rw [hf b o' q] at e; cases e
  · obtain ⟨o, e⟩ := p.w.dm b q
    exact ⟨o, keep b o (fun o' z => hp b o' z q) e⟩
/-- the pending datum goes with it -/
theorem Rep.minus {S : Rg} {v : V} {d : D} (r : Rep ca X.K Hf H' S v d) (hp : ∀ b o, G.obj b = some o → ¬ S b) : Rep ca X.K Hf (DL.minus H' G) S v d :=
  r.keep (fun _ _ e => e) fun b q o e => by
    cases z : G.obj b with
    | none => rw [minus_out z]; exact e
    | some o' => exact absurd q (hp b o' z)
end
end DL

/-! DL158: what a generator promises that sleeps or has not begun; a for loop over one. -/
namespace DL
open PySem L2 PyProof.Rows

section
variable (ca : Nat → Addr) (P : Program) (w : World) (K : PySem.W.Frag) (mg : Str → Option Value) (base : Heap) (outer : List Env) (k : Nat) (os0 : OsState)
/-- the state in which it may be woken -/
structure Wk (Hf0 : Hp) (G : Prv) (A : Around) (s : Shared) (Hf H : Hp) : Prop where
  room : RoomG k A
  os : s.os = os0
  env : Env0 P w K mg base A outer s H
  fx : Ex Hf0 Hf
  hx : Ex Hf H
  tp : TpH Hf H
  obj : ∀ b o, G.obj b = some o → s.heap.get? b = some o ∧ H b = none ∧ b ∉ frs outer
  gen : ∀ (i : Nat) (x : GenState), G.gen i = some x → s.gens[i]? = some x ∧ NGS x
/-- what its turn leaves: Q the region of what it made -/
structure Woke (G : Prv) (s : Shared) (Hf H : Hp) (s1 : Shared) (Hf1 H1 : Hp) (Q : Rg) (ex : List Addr) : Prop where
  os : s1.os = s.os
  bare : AllBare s1.gens
  exs : ∀ b ∈ ex, ∃ o, G.obj b = some o
  un : Un (frs outer) ex H H1 s.heap s1.heap
  hok : HOk P w H1 s1.heap
  tr : Tr Em Hf H Q Hf1 H1
  w : Wl Hf1 H1 Q
/-- its private things from then on -/
structure Anew (G G1 : Prv) (s s1 : Shared) (H1 : Hp) : Prop where
  obj : ∀ b o, G1.obj b = some o → s1.heap.get? b = some o ∧ H1 b = none ∧ ((∃ o', G.obj b = some o') ∨ s.heap.objs.size ≤ b)
  gen : ∀ (i : Nat) (x : GenState), G1.gen i = some x → s1.gens[i]? = some x ∧ Susp x ∧ NGS x
  run : ∀ i : Nat, ¬ G1.run i
  os : G1.os = none
  s0 : G1.s0 = none
end
section
variable {ca : Nat → Addr} {P : Program} {w : World} {K : PySem.W.Frag} {mg : Str → Option Value} {base : Heap} {outer : List Env} {k : Nat} {os0 : OsState} {Hf0 Hf1 : Hp} {G : Prv}
end
/-- its private things are there, nobody knows them -/
structure Made (X : Cx) (pins : List (Addr × Obj)) (H : Hp) (G : Prv) (s : Shared) : Prop where
  obj : ∀ b o, G.obj b = some o → s.heap.get? b = some o ∧ FpOk X pins H b
  gen : ∀ (i : Nat) (x : GenState), G.gen i = some x → s.gens[i]? = some x ∧ NGS x
theorem Held.made {X : Cx} {pins : List (Addr × Obj)} {H : Hp} {G : Prv} {s : Shared} (h : Held X pins H G s) : Made X pins H G s := ⟨h.obj, fun i x e => ⟨(h.gen i x e).1, (h.gen i x e).2.2⟩⟩
section
variable {ca : Nat → Addr} {X : Cx} {pins : List (Addr × Obj)} {σ : L2.St} {H Hf H1 Hf1 : Hp} {s s1 : Shared} {G G1 : Prv} {R : Nat → Rg} {st : Sl} {L : List Nat} {Q : Rg} {k : Nat}
theorem Made.wk {os0 : OsState} (ho : s.os = os0) (I : Inv X pins σ H s) (hr : RoomG k X.A) (hx : Ex Hf H) (htp : TpH Hf H) (m : Made X pins H G s) : Wk X.prog X.w X.K X.mg X.base X.stack k os0 Hf G X.A s Hf H :=
  ⟨hr, ho, I.env0, fun _ _ e => e, hx, htp, fun b o e => ⟨(m.obj b o e).1, (m.obj b o e).2.1, fun z => (List.mem_cons.mp (I.stkSub b z)).elim (m.obj b o e).2.2.1 (m.obj b o e).2.2.2.1⟩, m.gen⟩
theorem Woke.inv {ex : List Addr} (I : Inv X pins σ H s) (m : Made X pins H G s) (w : Woke X.prog X.w X.stack G s Hf H s1 Hf1 H1 Q ex) : Inv X pins σ H1 s1 :=
  I.call' w.os w.un w.hok w.bare fun b hb => by
    obtain ⟨o, e⟩ := w.exs b hb
    obtain ⟨_, _, f1, _, f3, f4, f5⟩ := m.obj b o e
    exact ⟨f3, f1, f4, f5⟩
theorem Anew.held (I : Inv X pins σ H s) (m : Made X pins H G s) (I1 : Inv X pins σ H1 s1) (a : Anew G G1 s s1 H1) : Held X pins H1 G1 s1 :=
  ⟨fun b o e => by
    obtain ⟨q1, q2, q3⟩ := a.obj b o e
    refine ⟨q1, ?_⟩
    rcases q3 with ⟨o', q3⟩ | q3
    · exact ⟨q2, (m.obj b o' q3).2.2⟩
    · exact I.fpOk q3 q2, a.gen, fun i e => (a.run i e).elim, fun o e => (by rw [a.os] at e; cases e), fun o e => (by rw [a.s0] at e; cases e)⟩
end
end DL

/-! DL159: a list comprehension over a generator (or over what walks one). -/
namespace DL
open PySem L2 PyProof.Rows

section
variable {X : Cx} {pins : List (Addr × Obj)} {σ : L2.St} {H H' Hf : Hp} {s s' : Shared} {G : Prv} {ca : Nat → Addr} {R : Nat → Rg} {st : Sl} {L : List Nat} {P : Rg} {pp : Prop} {k : Nat}
end
end DL

/-! DL160: dead places stay dead; segments of a generator's run with a free end; a heap cut down. -/
namespace DL
open PySem L2 PyProof.Rows
open Sem (wp)

/-! ### the heap only grows, and what is dead stays so -/
structure HM (h h' : Heap) : Prop where
  size : h.objs.size ≤ h'.objs.size
  dead : ∀ b, b < h.objs.size → h.get? b = none → h'.get? b = none
theorem HM.refl {h : Heap} : HM h h := ⟨Nat.le_refl _, fun _ _ e => e⟩
theorem HM.trans {h h1 h2 : Heap} (a : HM h h1) (b : HM h1 h2) : HM h h2 := ⟨Nat.le_trans a.size b.size, fun x hx e => b.dead x (Nat.lt_of_lt_of_le hx a.size) (a.dead x hx e)⟩
theorem HM.push {h : Heap} {o : Obj} : HM h (h.push o) := by
  refine ⟨by rw [Heap.size_push]; exact Nat.le_succ _, fun b hb e => ?_⟩
  cases h with
  | mk objs l =>
    unfold Heap.get? Heap.push at *
    dsimp only at *
    rw [Array.getElem?_push_lt hb]
    rw [Array.getElem?_eq_getElem hb] at e
    exact e
theorem HM.update {h : Heap} {a : Addr} {f : Obj → Obj} (ha : (h.get? a).isSome) : HM h (h.update a f) := by
  refine ⟨by rw [Heap.size_update]; exact Nat.le_refl _, fun b hb e => ?_⟩
  have hne : a ≠ b := fun z => by rw [z, e] at ha; cases ha
  rw [Heap.get?_update_other _ _ hne]
  exact e
theorem runs_hm {M : Model} {Γ : Ctx} {p : Pos} {t : Sem PySem.Fin} {fs : List Frame} {s s' : Shared} {e : End} (h : Runs M Γ p t fs s e s') : HM s.heap s'.heap := by
  induction h with
  | done => exact .refl
  | raise => exact .refl
  | again _ _ ih => exact ih
  | rule _ ih => exact ih
  | «at» _ ih => exact ih
  | load _ _ ih => exact ih
  | update hl _ ih => exact (HM.update hl).trans ih
  | loadIfAlive _ ih => exact ih
  | point _ ih => exact ih
  | alloc _ ih => exact HM.push.trans ih
  | fresh _ ih => exact ih
  | ask _ ih => exact ih
  | choose _ _ ih => exact ih
  | os _ ih => exact ih
  | handled _ ih => exact ih
  | genState _ _ ih => exact ih
  | stack _ ih => exact ih
  | thread _ ih => exact ih
  | newGen _ ih => exact ih
  | call _ _ ih1 ih2 => exact ih1.trans ih2
  | callSusp _ ih1 => exact ih1
  | yield => exact .refl
  | resumeFresh _ _ _ _ ih1 ih2 => exact HM.trans ih1 ih2
  | resumeSuspended _ _ _ _ ih1 ih2 => exact HM.trans ih1 ih2
  | resumeJustStarted _ _ _ ih => exact ih
  | resumeThrowFresh _ _ ih => exact ih
  | resumeRunning _ _ ih => exact ih
  | resumeFinished _ _ ih => exact ih
  | segRet _ _ ih1 ih2 => exact ih1.trans ih2
  | segGen _ _ ih1 ih2 => exact HM.trans ih1 ih2
  | segSuspOut _ _ ih => exact ih
  | segSuspGen _ _ _ _ ih1 ih2 => exact HM.trans ih1 ih2

/-! ### segments: Φ is told the end, or the state in which it sleeps -/
def Sg (M : Model) (A : Around) (Φ : End → Shared → Prop) (c : Code) (t : Sem PySem.Fin) (fs : List Frame) (s : Shared) : Prop := ∀ Γ p, Γ.code = c → Γ.Woken A → ∃ e s', Runs M Γ p t fs s e s' ∧ Φ e s'
section
variable {M : Model} {A : Around} {Φ : End → Shared → Prop} {c : Code} {fs : List Frame} {s : Shared}
theorem Sg.imp {Φ' : End → Shared → Prop} {t : Sem PySem.Fin} (h : Sg M A Φ c t fs s) (hΦ : ∀ e s', HM s.heap s'.heap → Φ e s' → Φ' e s') : Sg M A Φ' c t fs s := fun Γ p hc hΓ =>
  let ⟨e, s', hr, q⟩ := h Γ p hc hΓ
  ⟨e, s', hr, hΦ e s' (runs_hm hr) q⟩
end

/-! ### a heap cut down to its first L places, of which those of p are kept -/
def cutH (h : Heap) (n : Nat) (p : Addr → Bool) : Heap := ⟨Array.ofFn (n := n) fun i => if p i.1 then (h.objs[i.1]?).getD ⟨.none, none, .freed, #[]⟩ else ⟨.none, none, .freed, #[]⟩, h.life⟩
theorem cutH_size {h : Heap} {n : Nat} {p : Addr → Bool} : (cutH h n p).objs.size = n := by simp [cutH]
theorem cutH_get {h : Heap} {n : Nat} {p : Addr → Bool} {b : Addr} (hb : b < n) (hp : p b = true) : (cutH h n p).get? b = h.get? b := by
  unfold Heap.get? cutH
  dsimp only
  rw [Array.getElem?_ofFn, dif_pos hb]
  dsimp only
  rw [if_pos hp]
  cases e : h.objs[b]? with
  | none => rfl
  | some o => rfl
theorem of_cutH {h : Heap} {n : Nat} {p : Addr → Bool} {b : Addr} {o : Obj} (e : (cutH h n p).get? b = some o) : b < n ∧ p b = true ∧ h.get? b = some o := by
  have hb : b < n := by
    have := Heap.lt_size e
    rwa [cutH_size] at this
  cases hp : p b with
  | true => exact ⟨hb, rfl, by rw [← cutH_get hb hp]; exact e⟩
  | false =>
    exfalso
    unfold Heap.get? cutH at e
    dsimp only at e
    rw [Array.getElem?_ofFn, dif_pos hb] at e
    dsimp only at e
    rw [hp] at e
    cases e
end DL

/-! DL161: a generator's body: what it hands out, statement by statement. -/
namespace DL
open PySem L2 PyProof.Rows

mutual
/-- what is owned of it is lists -/
def okD : D → Bool
  | .lst true xs => okDs xs
  | .ins true _ _ => false
  | .dic true _ => false
  | .dct true _ => false
  | _ => true
def okDs : List D → Bool
  | [] => true
  | d :: ds => okD d && okDs ds
end
def okSl : Sl → Bool
  | [] => true
  | none :: st => okSl st
  | some d :: st => okD d && okSl st

/-- a generator's frame -/
structure GF where
  P : Program
  w : World
  K : PySem.W.Frag
  mg : Str → Option Value
  base : Heap
  N : List Str
  env : Env
  outer : List Env
  k : Nat
  a : Addr
  go : Obj
  g : Nat
  os : OsState
def GF.cx (F : GF) (A : Around) (s0 : Shared) : Cx := { prog := F.P, w := F.w, K := F.K, mg := F.mg, base := F.base, A := A.deeper F.env, N := F.N, s_0 := s0, H_0 := fun _ => none, env := F.env, outer := F.outer, stack := F.env :: F.outer, ex := [], fn := fun _ => true, calm := true, pn := [], xe := fun _ _ => False }
/-- what it knows -/
structure GZ where
  Hf : Hp
  H : Hp
  R : Nat → Rg
  σ : L2.St
  st : Sl
  W : Prv
/-- it holds its own object, it runs -/
structure GHold (F : GF) (W : Prv) : Prop where
  obj : W.obj F.a = some F.go
  run : W.run F.g ∧ ∀ i, W.run i → i = F.g
  os : W.os = some F.os
structure GInv (ca : Nat → Addr) (F : GF) (A : Around) (z : GZ) (P : Rg) (pp : Prop) (s : Shared) : Prop where
  cx : ∃ s0 : Shared, s0.heap.objs.size = F.env.locals ∧ Inv (F.cx A s0) [] z.σ z.H s ∧ Held (F.cx A s0) [] z.H z.W s
  room : RoomG F.k (A.deeper F.env)
  pr : PR ca F.K z.Hf z.H P pp z.R z.σ z.st
  hold : GHold F z.W
/-- from z on, no sleep between -/
structure GZ.tr (z : GZ) (P : Rg) (z1 : GZ) : Prop where
  t : Tr (jn Em z.R) z.Hf z.H (jn P z1.R) z1.Hf z1.H
  s0 : z1.W.s0 = z.W.s0
theorem GZ.tr.trans {z z1 z2 : GZ} {P : Rg} (a : z.tr Em z1) (b : z1.tr P z2) : z.tr P z2 := ⟨a.t.trans b.t, b.s0.trans a.s0⟩
theorem GZ.tr.refl {z : GZ} : z.tr Em z := ⟨Tr.refl fun _ q => q, rfl⟩
/-- the same things held -/
structure Prv.Same (W W1 : Prv) : Prop where
  obj : W.obj = W1.obj
  gen : W.gen = W1.gen
  run : W.run = W1.run
  os : W.os = W1.os
theorem Prv.Same.rfl {W : Prv} : Prv.Same W W := ⟨Eq.refl _, Eq.refl _, Eq.refl _, Eq.refl _⟩
theorem Prv.Same.trans {W W1 W2 : Prv} (a : Prv.Same W W1) (b : Prv.Same W1 W2) : Prv.Same W W2 := ⟨a.obj.trans b.obj, a.gen.trans b.gen, a.run.trans b.run, a.os.trans b.os⟩
/-- what the segment's end is to do: the data are handed out one by one, then it ends -/
def GAcc (ca : Nat → Addr) (F : GF) : List D → Around → GZ → (End → Shared → Prop) → Prop
  | [], A, z, Φ => ∀ (s1 : Shared) (z1 : GZ), GInv ca F A z1 Em True s1 → z.tr Em z1 → Φ (.ret (.ok (.ret .none))) s1
  | d :: ds, A, z, Φ => ∀ (s1 : Shared) (z1 : GZ) (P1 : Rg) (v : V) (u : Value) (l' : List Value) (k' : Resume → Sem PySem.Fin) (c' : Code) (p' : Pos) (fs' : List Frame), GInv ca F A z1 P1 (Rep ca F.K z1.Hf z1.H P1 v d) s1 → z.tr P1 z1 → RelV v u → NG fs' → fs'.any Frame.guarded = false → okSl z1.st = true →
      (∀ (A2 : Around) (s2 : Shared) (z2 : GZ), z2.st = z1.st → Prv.Same z2.W z1.W → GInv ca F A2 z2 Em True s2 → Ex z1.Hf z2.Hf → ∀ Φ', GAcc ca F ds A2 z2 Φ' → Sg (model F.P F.w) A2 Φ' c' (k' (.send .none)) fs' s2) →
      Φ (.susp u false l' k' c' p' fs') s1
/-- where the code stands -/
structure GCd (F : GF) (c : Code) (fs : List Frame) (gd : Bool → Bool) : Prop where
  over : ∀ A : Around, A.over c fs = A.deeper F.env
  ng : NG fs
  guard : fs.any Frame.guarded = false
  gd : gd false = false
section
variable {ca : Nat → Addr} {F : GF} {A : Around} {z z' : GZ} {s s' : Shared} {c : Code} {fs : List Frame} {K : Flow → Sem PySem.Fin} {J : Value → Sem PySem.Fin} {gd : Bool → Bool} {lv : List Value → List Value} {dsK ds : List D}
theorem GAcc.from {Φ : End → Shared → Prop} (a : GAcc ca F ds A z Φ) (t : z.tr Em z') : GAcc ca F ds A z' Φ := by
  cases ds with
  | nil => exact fun s1 z1 I t1 => a s1 z1 I (t.trans t1)
  | cons d ds => exact fun s1 z1 P1 v u l' k' c' p' fs' I t1 => a s1 z1 P1 v u l' k' c' p' fs' I (t.trans t1)
theorem GInv.drop {P : Rg} {pp : Prop} (g : GInv ca F A z P pp s) : GInv ca F A z Em True s := ⟨g.cx, g.room, g.pr.drop, g.hold⟩

/-! ### statements that hand out nothing -/
/-! ### lists of statements -/
/-! ### yield -/
end
end DL

/-! DL162: if and for in a generator's body. -/
namespace DL
open PySem L2 PyProof.Rows

section
variable {ca : Nat → Addr} {F : GF} {A : Around} {z z' : GZ} {s s' : Shared} {c : Code} {fs : List Frame} {J : Value → Sem PySem.Fin} {gd : Bool → Bool} {lv : List Value → List Value} {dsK ds : List D}

/-! ### if -/
/-! ### for -/
/-- an iterator's own object, seen from the generator's frame -/
def FpG (F : GF) (H : Hp) (b : Addr) : Prop := H b = none ∧ b ≠ F.env.locals ∧ b ∉ frs F.outer ∧ F.env.locals ≤ b ∧ ∀ x c, F.env.cells.lookup x = some c → c ≠ b
theorem FpG.ok {H : Hp} {b : Addr} {s0 : Shared} (h : FpG F H b) (hs : s0.heap.objs.size = F.env.locals) : FpOk (F.cx A s0) [] H b := ⟨h.1, h.2.1, h.2.2.1, .inr (by show s0.heap.objs.size ≤ b; rw [hs]; exact h.2.2.2.1), h.2.2.2.2, fun p hp => absurd (show p ∈ ([] : List (Addr × Obj)) ++ [] from hp) (by simp)⟩
theorem FpG.of {H : Hp} {b : Addr} {s0 : Shared} (h : FpOk (F.cx A s0) [] H b) (hs : s0.heap.objs.size = F.env.locals) : FpG F H b := ⟨h.1, h.2.1, h.2.2.1, h.2.2.2.1.elim (fun z => absurd (show b ∈ ([] : List Addr) from z) (by simp)) fun z => by rw [← hs]; exact z, h.2.2.2.2.1⟩
/-- the private things and, beside them, the objects at fp as they stand -/
def Prv.more (W : Prv) (fp : List Addr) (h : Heap) : Prv := ⟨fun b => if b ∈ fp then h.get? b else W.obj b, W.gen, W.run, W.os, W.s0⟩
/-- the loop's own things -/
structure Lp (F : GF) (W : Prv) (fp : List Addr) (H : Hp) : Prop where
  its : ∀ b ∈ fp, FpG F H b
  out : ∀ b ∈ fp, W.obj b = none
theorem GHold.same {W W1 : Prv} (x : GHold F W1) (h : Prv.Same W W1) : GHold F W := ⟨by rw [h.obj]; exact x.obj, by rw [h.run]; exact x.run, by rw [h.os]; exact x.os⟩
theorem GHold.more {W : Prv} {fp : List Addr} {h : Heap} (x : GHold F W) (hout : ∀ b ∈ fp, W.obj b = none) : GHold F (W.more fp h) :=
  ⟨by
    show (if F.a ∈ fp then h.get? F.a else W.obj F.a) = some F.go
    rw [if_neg fun hb => by
      have := x.obj
      rw [hout _ hb] at this
      cases this]
    exact x.obj, x.run, x.os⟩
end
end DL

/-! DL163: a for loop in a generator's body. -/
namespace DL
open PySem L2 PyProof.Rows

section
variable {ca : Nat → Addr} {F : GF}
def Prv.at (W : Prv) (o : Option Shared) : Prv := { W with s0 := o }
theorem Prv.Same.at {W : Prv} {o : Option Shared} : Prv.Same (W.at o) W := ⟨Eq.refl _, Eq.refl _, Eq.refl _, Eq.refl _⟩
theorem Held.same {X : Cx} {pins : List (Addr × Obj)} {H : Hp} {W W1 : Prv} {s : Shared} (hd : Held X pins H W s) (h : Prv.Same W W1) : Held X pins H (W1.at W.s0) s :=
  ⟨fun b o e => hd.obj b o (by rw [h.obj]; exact e), fun i x e => hd.gen i x (by rw [h.gen]; exact e), fun i e => hd.run i (by rw [h.run]; exact e), fun o e => hd.os o (by rw [h.os]; exact e), fun o e => hd.s0 o e⟩
end
end DL

/-! DL164: a generator falls asleep and is woken. -/
namespace DL
open PySem L2 PyProof.Rows

section
variable {P : Program} {w : World} {H H' : Hp} {h h' : Heap} {a : Addr} {o : HO} {ca : Nat → Addr} {K : PySem.W.Frag} {Hf Hf' : Hp}
theorem objOk_alive (x : ObjOk P w H h a o) : ∃ u, h.get? a = some u := by
  cases o with
  | lst xs => obtain ⟨_, _, _, _, e⟩ := x; exact ⟨_, e⟩
  | tup xs => obtain ⟨_, _, _, o, e, _⟩ := x; exact ⟨_, e⟩
  | dK kvs => obtain ⟨_, _, _, _, o, _, _, e, _⟩ := x; exact ⟨_, e⟩
  | dT kvs => obtain ⟨_, _, _, _, o, _, _, e, _⟩ := x; exact ⟨_, e⟩
  | set S n => obtain ⟨o, _, _, _, e, _⟩ := x; exact ⟨_, e⟩
  | ins C dx fs => obtain ⟨_, _, _, e, _⟩ := x; exact ⟨_, e⟩
  | own y => exact x
  | xd fs => obtain ⟨_, ⟨o, _, _, e, _⟩, _⟩ := x; exact ⟨_, e⟩
  | rng lo hi => obtain ⟨_, _, _, e⟩ := x; exact ⟨_, e⟩
  | frz ob u => exact ⟨_, x.1⟩
  | tbl ps => exact ⟨_, x⟩
  | met f y => exact ⟨_, x⟩
  | ext φ => exact x.2.1
/-- the region may be cut down to its lists -/
def isLstH (H : Hp) (b : Addr) : Prop := ∃ xs, H b = some (.lst xs)
end

/-- it is a generator's object -/
def GenO (g : Nat) (o : Obj) : Prop := ∃ nm qn, o.cls = .type "generator" ∧ o.data = .fields #[.int g 0, nm, qn] ∧ o.slots = #[]
theorem GenO.is {g : Nat} {o : Obj} {h : Heap} {a : Addr} (x : GenO g o) (e : h.get? a = some o) : h.IsGen a g := let ⟨nm, qn, r⟩ := x; ⟨o, nm, qn, e, r⟩
/-- how it sleeps (or has not begun) -/
structure Slp (ca : Nat → Addr) (F : GF) (z : GZ) (s : Shared) : Prop where
  cx : ∃ (A : Around) (s0 : Shared), s0.heap.objs.size = F.env.locals ∧ Inv (F.cx A s0) [] z.σ z.H s ∧ Held (F.cx A s0) [] z.H z.W s
  pr : PR ca F.K z.Hf z.H Em True z.R z.σ z.st
  lst : ∀ i b, z.R i b → isLstH z.H b
  frame : F.env.frame = some F.env.locals
  hold : GHold F z.W
  go : GenO F.g F.go
/-- its private places -/
def isPrv (F : GF) (z : GZ) (b : Addr) : Prop := (∃ i, z.R i b) ∨ b = F.env.locals ∨ ∃ y, F.env.cells.lookup y = some b
open Classical in
noncomputable def prvOf (F : GF) (z : GZ) (s : Shared) (x : GenState) : Prv :=
  ⟨fun b => if isPrv F z b then s.heap.get? b else z.W.obj b, fun i => if i = F.g then some x else z.W.gen i, fun _ => False, none, none⟩
open Classical in
/-- what it knows when it is woken: what it knew of its own, what the others know, all else as private things of others -/
noncomputable def wkH (F : GF) (z : GZ) (G : Prv) (H : Hp) (s : Shared) : Hp := fun b => if (∃ i, z.R i b) then z.H b else match G.obj b with
  | some _ => none
  | none => match H b with
    | some o => some o
    | none => if (F.base.get? b).isSome = true ∨ b ∈ frs F.outer then none else (s.heap.get? b).map (PO b)
open Classical in
/-- what the others know when it falls asleep -/
noncomputable def slH (R1 : Nat → Rg) (G : Prv) (H : Hp) (s : Shared) (H1 : Hp) : Hp := fun b => if (∃ i, R1 i b) then none else if G.obj b = none ∧ H b = none ∧ (s.heap.get? b).isSome = true then none else H1 b

section
variable {ca : Nat → Addr} {F : GF} {z : GZ} {s s1 : Shared} {x : GenState} {A : Around} {Hf H : Hp}
theorem prv_in {b : Addr} (h : isPrv F z b) : (prvOf F z s x).obj b = s.heap.get? b := by unfold prvOf; exact if_pos h
theorem wkH_H {G : Prv} {b : Addr} {o : HO} (h : ¬ ∃ i, z.R i b) (e : G.obj b = none) (e2 : H b = some o) : wkH F z G H s b = some o := by unfold wkH; rw [if_neg h, e, e2]
theorem wkH_f {G : Prv} {b : Addr} {o : Obj} (h : ¬ ∃ i, z.R i b) (e : G.obj b = none) (e2 : H b = none) (k : ¬ ((F.base.get? b).isSome = true ∨ b ∈ frs F.outer)) (e3 : s.heap.get? b = some o) : wkH F z G H s b = some (PO b o) := by
  unfold wkH
  rw [if_neg h, e, e2]
  dsimp only
  rw [if_neg k, e3]
  rfl
/-- facts of the sleeper -/
theorem Slp.rtracked (sl : Slp ca F z s) {b : Addr} (h : ∃ i, z.R i b) : ∃ o u, s.heap.get? b = some o ∧ z.H b = some u := by
  obtain ⟨i, h⟩ := h
  obtain ⟨A, s0, _, I, _⟩ := sl.cx
  obtain ⟨xs, e⟩ := sl.lst i b h
  obtain ⟨o, eo⟩ := objOk_alive (I.hok b _ e)
  exact ⟨o, _, eo, e⟩
theorem Slp.prv_some (sl : Slp ca F z s) {b : Addr} (h : isPrv F z b) : ∃ o, (prvOf F z s x).obj b = some o := by
  rw [prv_in h]
  obtain ⟨A, s0, _, I, _⟩ := sl.cx
  rcases h with h | h | ⟨y, h⟩
  · obtain ⟨o, _, e, _⟩ := sl.rtracked h
    exact ⟨o, e⟩
  · obtain ⟨m, ⟨o, _, _, e, _⟩, _⟩ := I.loc
    rw [h]
    exact ⟨o, e⟩
  · obtain ⟨v, o, e, _⟩ := I.cell y b h
    exact ⟨o, e⟩
/-- the state of the wake, cut down to what the generator may know of it -/
def wkS (F : GF) (s : Shared) : Shared := { s with heap := cutH s.heap F.env.locals fun b => (F.base.get? b).isSome || decide (b ∈ frs F.outer) }
end
end DL

/-! DL165: what a turn of a generator leaves to the others. -/
namespace DL
open PySem L2 PyProof.Rows

section
variable {ca : Nat → Addr} {F : GF} {z z3 : GZ} {s s1 s' s2 : Shared} {x y : GenState} {A : Around} {Hf H : Hp} {P3 : Rg} {pp : Prop} {R3 : Nat → Rg}
noncomputable abbrev wkZ (F : GF) (z : GZ) (s1 : Shared) (x : GenState) (Hf H : Hp) (s : Shared) : GZ := ⟨Hf, wkH F z (prvOf F z s1 x) H s, z.R, z.σ, z.st, z.W.at (some (wkS F s))⟩
theorem slH_o {G : Prv} {H1 : Hp} {b : Addr} (h : ¬ ∃ i, R3 i b) (h2 : ¬ (G.obj b = none ∧ H b = none ∧ (s.heap.get? b).isSome = true)) : slH R3 G H s H1 b = H1 b := by
  unfold slH
  rw [if_neg h, if_neg h2]
/-- all that follows from a turn -/
structure Asl (ca : Nat → Addr) (F : GF) (z z3 : GZ) (s1 s s' : Shared) (x : GenState) (A : Around) (Hf H : Hp) (P3 : Rg) (pp : Prop) : Prop where
  sl : Slp ca F z s1
  wk : Wk F.P F.w F.K F.mg F.base F.outer (F.k + 2) F.os z.Hf (prvOf F z s1 x) A s Hf H
  gi : GInv ca F A.in1 z3 P3 pp s'
  tr : GZ.tr (wkZ F z s1 x Hf H s) P3 z3
  hm : HM s.heap s'.heap
section
variable (q : Asl ca F z z3 s1 s s' x A Hf H P3 pp)
include q
theorem Asl.inv : ∃ s0, s0.heap = (wkS F s).heap ∧ s0.os = F.os ∧ s0.heap.objs.size = F.env.locals ∧ Inv (F.cx A.in1 s0) [] z3.σ z3.H s' ∧ Held (F.cx A.in1 s0) [] z3.H z3.W s' := by
  obtain ⟨s0, h1, I, hd⟩ := q.gi.cx
  refine ⟨s0, ?_, hd.os F.os q.gi.hold.os, h1, I, hd⟩
  have := hd.s0 (wkS F s) q.tr.s0
  rw [← this]
  rfl
theorem Asl.pnone {b : Addr} {o : Obj} (e : (prvOf F z s1 x).obj b = some o) : H b = none := (q.wk.obj b o e).2.1
theorem Asl.gnone {b : Addr} {u : HO} (e : H b = some u) : (prvOf F z s1 x).obj b = none := by
  cases h : (prvOf F z s1 x).obj b with
  | none => rfl
  | some o => rw [q.pnone h] at e; cases e
theorem Asl.rprv {b : Addr} (h : ∃ i, z.R i b) : ∃ o, (prvOf F z s1 x).obj b = some o := q.sl.prv_some (.inl h)
/-- what the others knew is known still -/
theorem Asl.keep {b : Addr} {u : HO} (e : H b = some u) : z3.H b = some u := by
  have nR : ¬ ∃ i, z.R i b := fun h => by
    obtain ⟨o, e2⟩ := q.rprv h
    rw [q.pnone e2] at e; cases e
  refine q.tr.t.keep b u (wkH_H nR (q.gnone e) e) fun h => ?_
  rcases h with h | h
  · exact h
  · exact nR h
theorem Asl.base {b : Addr} {o : Obj} (e : F.base.get? b = some o) : s'.heap.get? b = some o ∧ z3.H b = none := by
  obtain ⟨s0, _, _, _, I, _⟩ := q.inv
  exact I.bs b o e
theorem Asl.fr {b : Addr} (hb : b ∈ frs F.outer) : ∃ o, s.heap.get? b = some o ∧ z3.H b = none ∧ ∃ sl, s'.heap.get? b = some { o with slots := sl } := by
  obtain ⟨s0, h0, _, h1, I, _⟩ := q.inv
  obtain ⟨hn, o, ho, _⟩ := I.ok.funs.mem hb
  have ho : s0.heap.get? b = some o := ho
  rw [h0] at ho
  obtain ⟨_, _, hs⟩ := of_cutH ho
  have hx : b ∉ (F.cx A.in1 s0).ex := fun z => absurd (show b ∈ ([] : List Addr) from z) (by simp)
  obtain ⟨sl, e⟩ := I.base.slot b o (by show s0.heap.get? b = some o; rw [h0]; exact ho) rfl hb hx
  exact ⟨o, hs, I.base.free b o (by show s0.heap.get? b = some o; rw [h0]; exact ho) rfl hx, sl, e⟩
theorem Asl.p3 {b : Addr} (h : P3 b) (hl : ∀ i b, R3 i b → z3.R i b ∧ isLstH z3.H b) : slH R3 (prvOf F z s1 x) H s z3.H b = z3.H b := by
  have m1 : ¬ ∃ i, R3 i b := fun ⟨i, h'⟩ => q.gi.pr.dp i b h (hl i b h').1
  obtain ⟨u, e⟩ := q.gi.pr.w.dm b (.inl h)
  refine slH_o m1 fun h' => ?_
  rcases q.tr.t.nw b (.inl h) with z' | z'
  · rcases z' with z' | z'
    · exact z'
    · obtain ⟨o, e4⟩ := q.rprv z'
      rw [h'.1] at e4; cases e4
  · obtain ⟨o, eo⟩ := Option.isSome_iff_exists.mp h'.2.2
    have nR : ¬ ∃ i, z.R i b := fun h2 => by
      obtain ⟨o, e4⟩ := q.rprv h2
      rw [h'.1] at e4; cases e4
    by_cases k : (F.base.get? b).isSome = true ∨ b ∈ frs F.outer
    · rcases k with k | k
      · obtain ⟨o', k⟩ := Option.isSome_iff_exists.mp k
        have := (q.base k).2
        rw [e] at this; cases this
      · obtain ⟨_, _, k, _⟩ := q.fr k
        rw [e] at k; cases k
    · have := wkH_f nR h'.1 h'.2.1 k eo
      rw [show (wkZ F z s1 x Hf H s).H b = wkH F z (prvOf F z s1 x) H s b from rfl, this] at z'
      cases z'
end
theorem Woke.kept {G : Prv} {s s1 s2 : Shared} {Hf H Hf1 H1 : Hp} {P : Program} {w : World} {outer : List Env} {Q : Rg} {ex : List Addr} (x : Woke P w outer G s Hf H s1 Hf1 H1 Q ex) (k : ∀ b o, s1.heap.get? b = some o → s2.heap.get? b = some o) (h1 : s2.os = s1.os) (h2 : AllBare s2.gens) : Woke P w outer G s Hf H s2 Hf1 H1 Q ex :=
  ⟨h1.trans x.os, h2, x.exs, x.un.trans (Un.kept k), x.hok.kept k, x.tr, x.w⟩
end
end DL

/-! DL166: a generator def and its calls. -/
namespace DL
open PySem L2 PyProof.Rows

section
variable {ca : Nat → Addr} {P : Program} {w : World} {K : PySem.W.Frag} {mg : Str → Option Value} {base : Heap}
end
end DL

set_option maxHeartbeats 1000000
/-! DL167: enumerate over a generator. -/
namespace DL
open PySem L2 PyProof.Rows
open AutoSeq1 (wpAny_loadPart')

section
variable {ca : Nat → Addr} {P : Program} {w : World} {K : PySem.W.Frag} {mg : Str → Option Value} {base : Heap} {outer : List Env} {k : Nat} {os0 : OsState}
def Prv.with (G : Prv) (e : Addr) (o : Obj) : Prv := { G with obj := fun b => if b = e then some o else G.obj b }
theorem with_ne {G : Prv} {e b : Addr} {o : Obj} (h : b ≠ e) : (G.with e o).obj b = G.obj b := by
  show (if b = e then some o else G.obj b) = _
  rw [if_neg h]
theorem Wk.less {G : Prv} {e : Addr} {o : Obj} {A : Around} {s : Shared} {Hf0 Hf H : Hp} (w' : Wk P w K mg base outer (k + 1) os0 Hf0 (G.with e o) A s Hf H) (hn : G.obj e = none) : Wk P w K mg base outer k os0 Hf0 G A.in1 s Hf H :=
  ⟨w'.room.in1, w'.os, w'.env.in1, w'.fx, w'.hx, w'.tp, fun b u q => w'.obj b u (by rw [with_ne fun z => by rw [z, hn] at q; cases q]; exact q), w'.gen⟩
end
end DL

/-! DL168: a def's context does not ask for the sleepers. -/
namespace DL
open PySem L2 PyProof.Rows
end DL

set_option maxHeartbeats 1000000
/-! DL169: an expression that only looks: all slots are shown frozen to it, and are as before after it. -/
namespace DL
open PySem L2 PyProof.Rows
section
variable {ca : Nat → Addr} {K : PySem.W.Frag} {Hf H H3 Hf1 H1 Hf2 H2 : Hp} {S P : Rg} {R R1 R2 : Nat → Rg} {σ : L2.St} {st : Sl} {v : V} {d : D} {vs : List V} {ds : List D} {X : Cx} {L : List Nat}
end
end DL
namespace DL
open PySem (Str)
end DL

/-! DL170: what generators hand out, evaluated. -/
namespace DL
open PySem (Str)
open PySem L2
end DL

/-! DL171: sorted(set(a list of whole numbers)), fewer than 64 apart. -/
namespace DL
open PySem PySem.Spec PyProof.Rows L2
end DL

set_option maxHeartbeats 2000000
/-! DL172: != of two lists that stand, whose items are flat, lists of flat things, or instances equal by their own ==. -/
namespace DL
open PySem PySem.Spec PyProof.Rows L2
section
variable {ca : Nat → Addr} {K : PySem.W.Frag} {Hf H Hf1 H1 Hf2 H2 : Hp} {S S1 S2 P P1 P2 : Rg} {R R1 R2 : Nat → Rg} {σ σ' : L2.St} {st st' : Sl} {v w x y : V} {d e : D} {vs : List V} {ds xs : List D} {X : Cx} {L : List Nat}
/-! ### the data -/
end
end DL

/-! DL173: a, b, c = x, y, z where what is stored may be owned. -/
namespace DL
open PySem L2 PyProof.Rows
section
variable {ca : Nat → Addr} {K : PySem.W.Frag} {Hf H : Hp} {P : Rg} {R : Nat → Rg} {σ : L2.St} {st : Sl} {v w x : V} {d e f : D} {X : Cx} {L : List Nat}
end
end DL

set_option maxHeartbeats 2000000
/-! DL174: == and != of two lists that stand, by their items (flat, instances with an own ==, tuples and lists of these): True and False. -/
namespace DL
open PySem PySem.SeqAt GQ
open AutoSeq1 (wpAny_loadPart')
open MeetsSeq MeetsSeq2 MeetsSeq3 SeqRoads2
section
variable {prog : Program} {w : World} {A : Around} {R : Result → Shared → Prop}
end
end DL

set_option maxHeartbeats 1000000
/-! DL175: a def whose last parameter has a default (a flat constant), called with it or without. -/
namespace DL
open PySem L2 PyProof.Rows
structure DefB (K : PySem.W.Frag) (fd : FuncData) (ps : List Str) (dv : V) : Prop where
  full : Binds K fd ps []
  dflt : ∃ u : Value, RelV dv u ∧ Binds K fd ps [u]
section
variable {K : PySem.W.Frag} {x qual : Str} {params : Arguments} {body : List Stmt} {scope : Scope} {dv : V} {f : Addr} {fd : FuncData}
end
section
variable {ca : Nat → Addr} {P : Program} {w : World} {K : PySem.W.Frag} {mg : Str → Option Value} {base : Heap} {L : List Nat}
end
end DL

set_option maxHeartbeats 1000000
/-! DL176: o.f, o.g = t.f, t.g: what the slot of t owns (g's value) goes over to o; t is not used after it. -/
namespace DL
open PySem PySem.Spec PyProof.Rows L2
section
variable {ca : Nat → Addr} {K : PySem.W.Frag} {Hf H Hf1 H1 Hf2 H2 : Hp} {S P : Rg} {R R1 R2 : Nat → Rg} {σ : L2.St} {st : Sl} {v : V} {d : D} {vs : List V} {ds : List D} {X : Cx} {L : List Nat}
end
end DL

set_option maxHeartbeats 2000000
/-! DL177: == and != of two lists that stand (flat, own ==, tuples and lists of these), answered by their data; a def with a default as the linked program holds it. -/
namespace DL
open PySem PySem.Spec PyProof.Rows L2
section
variable {ca : Nat → Addr} {K : PySem.W.Frag} {Hf H Hf1 H1 Hf2 H2 : Hp} {S S1 S2 P P1 P2 : Rg} {R R1 R2 : Nat → Rg} {σ σ' : L2.St} {st st' : Sl} {v w x y : V} {d e : D} {vs : List V} {ds xs : List D} {X : Cx} {L : List Nat} {A : Around}
/-! ### the data -/
def plainD : D → Bool
  | .tup xs => xs.all flat
  | d => flat d
def plainI (gs : List (Str × D)) : Bool := gs.all fun p => plainD p.2
def baseB (C : Nat) (m : MF) : D → D → Option Bool
  | .ins false c1 g1, .ins false c2 g2 => if (decide (c1 = C) && decide (c2 = C) && plainI g1 && plainI g2) = true then (match m [.ins false c1 g1, .ins false c2 g2] with
    | .ok (.bl b) _ => (match m [.ins false c1 g1, .ins false c1 g1] with
      | .ok (.bl true) _ => some b
      | _ => none)
    | _ => none) else none
  | x, y => if flat x && flat y then some (eqF x y) else none
def zipL (f : D → D → Option Bool) : List D → List D → Option (List Bool)
  | [], [] => some []
  | x :: xs, y :: ys => match f x y, zipL f xs ys with
    | some b, some bs => some (b :: bs)
    | _, _ => none
  | _, _ => none
def itB1 (C : Nat) (m : MF) (f : D → D → Option Bool) : D → D → Option Bool
  | .tup xs, .tup ys => (zipL f xs ys).map fun bs => bs.all id
  | .lst false xs, .lst false ys => if xs.length = ys.length then (zipL f xs ys).map fun bs => bs.all id else some false
  | x, y => baseB C m x y
/-- the answer of == inside, n levels deep -/
def itB (C : Nat) (m : MF) : Nat → D → D → Option Bool
  | 0 => baseB C m
  | n + 1 => itB1 C m (itB C m n)
end
end DL

/-! DL178: slices of lists of cold items; the last item; a default, == of lists, a look evaluated. -/
namespace DL
open PySem (Str)
open Nw
theorem s01_d {o : Bool} {ds : List D} {k : Nat} (hc : colds ds = true) (hl : ds.length ≤ 1000000) : oS01 [.lst o ds, .int (k : Int)] = some (.newL (ds.take k)) := by
  show newLc (cutD ds none (some (k : Int))) = _
  have e1 : HT.sIx ds.length ds.length (some (k : Int)) = min k ds.length := by
    unfold HT.sIx
    simp only []
    split <;> omega
  have e : cutD ds none (some (k : Int)) = ds.take k := by
    unfold cutD
    rw [e1]
    show (ds.drop 0).take (min k ds.length - 0) = _
    rw [List.drop_zero, Nat.sub_zero, List.take_eq_take_iff]
    omega
  rw [e]
  unfold newLc
  have hc2 : colds (ds.take k) = true := by
    unfold colds at hc ⊢
    exact List.all_eq_true.mpr fun x hx => List.all_eq_true.mp hc x (List.mem_of_mem_take hx)
  rw [hc2, List.length_take]
  exact if_pos (by simp; omega)
theorem ix_at {o : Bool} {xs : List D} {i : Int} {d : D} (h0 : 0 ≤ i) (h1 : xs[i.toNat]? = some d) (hc : cold d = true) : oIx [.lst o xs, .int i] = some (.val d) := by
  have lt := (List.getElem?_eq_some_iff.mp h1).1
  have a : L2.atI xs i = some d := by
    unfold L2.atI
    rw [ixN_nat h0 (by omega)]
    exact h1
  show (match L2.atI xs i with | some d => if cold d then some (Out.val d) else none | none => none) = _
  rw [a]
  show (if cold d = true then _ else _) = _
  rw [hc]
  rfl

end DL

/-! DL179: a call without arguments. -/
namespace DL
open PySem PySem.Spec PyProof.Rows L2
section
variable {ca : Nat → Addr} {X : Cx}
end
end DL

set_option maxHeartbeats 1000000
/-! DL180: == and != of an instance with an own == and an instance of another class (no subclass of it). -/
namespace PySem
open Sem (wp)
open Builtin
section
variable {prog : Program} {w : World} {A : Around} {E : Value → Shared → Prop} {h : Heap} {g : Array GenState} {d : Drawn} {t : Nat} {os : OsState} {C C2 x y f : Addr} {B : String} {bm : List Value}
end
end PySem
namespace DL
open PySem PySem.Spec PyProof.Rows L2
section
variable {ca : Nat → Addr} {K : PySem.W.Frag} {Hf H Hf1 H1 : Hp} {S P : Rg} {R R1 : Nat → Rg} {σ : L2.St} {st : Sl} {v : V} {d : D} {vs : List V} {ds : List D} {X : Cx} {L : List Nat}
end
end DL

set_option maxHeartbeats 1000000
/-! DL181: an own list of flat things is let stand for an expression's time, and is owned again after it: nothing else may hold a list that stands. -/
namespace DL
open PySem PySem.Spec PyProof.Rows L2
section
variable {ca : Nat → Addr} {K : PySem.W.Frag} {Hf H Hf1 H1 : Hp} {S S1 : Rg} {X : Cx}
end
end DL

set_option maxHeartbeats 2000000
/-! DL182: == of a tuple of anything with the empty tuple. -/
namespace DL
open PySem PySem.SeqAt GQ
open AutoSeq1 (wpAny_loadPart')
open MeetsSeq MeetsSeq2 MeetsSeq3 SeqRoads2
section
variable {prog : Program} {w : World} {A : Around} {R : Result → Shared → Prop}
end
end DL
namespace DL
open PySem PySem.Spec PySem.SeqAt GQ PyProof.Rows L2
section
variable {ca : Nat → Addr} {K : PySem.W.Frag} {X : Cx}
end
end DL

set_option maxHeartbeats 2000000
/-! DL183: the values of a dict with tuples as keys: list(d.values()), sum(d.values()). -/
namespace DL
open PySem PySem.Spec PyProof.Rows L2
section
variable {prog : Program} {w : World} {A : Around} {E : Value → Shared → Prop} {s : Shared} {it d v : Addr} {i ep : Nat} {o : Obj} {es : Array DictEntry} {Q : Option Value → Shared → Prop}
end
section
variable {prog : Program} {w : World} {A : Around} {E : Value → Shared → Prop} {s : Shared} {it d v : Addr} {i ep : Nat} {o : Obj} {es : Array DictEntry} {Q : Value → Shared → Prop}
end
section
variable {X : Cx} {e : Expr} {te : TE} {p apos cpos pos : Pos}
end
/-! ### as rules -/
def sumD : List D → Option Int
  | [] => some 0
  | .int i :: r => (sumD r).map (i + ·)
  | _ => none
section
variable {ca : Nat → Addr} {K : PySem.W.Frag} {Hf H : Hp} {S : Rg} {vs : List V} {ds : List D} {X : Cx}
end
end DL

set_option maxHeartbeats 2000000
/-! DL184: walking a slot's own dict with tuples as keys: for k in d, for k, v in d.items() (also in comprehensions); from then on the dict stands. -/
namespace DL
open PySem PySem.Spec PyProof.Rows L2
section
variable {P : Program} {w : World} {K : PySem.W.Frag} {d : Addr} {o : Obj} {es : Array DictEntry} {ep : Nat}
end
section
variable {ca : Nat → Addr} {K : PySem.W.Frag} {Hf H : Hp} {R : Nat → Rg} {σ : L2.St} {st : Sl} {v : V} {d : D} {vs : List V} {ds : List D} {X : Cx} {i : Nat}
end
section
variable {ca : Nat → Addr} {X : Cx} {i : Nat} {tg : Expr} {x : Str} {p apos cpos : Pos}
end
end DL

set_option maxHeartbeats 2000000
/-! DL185: d.get(k, x), d a slot's dict with tuples as keys. -/
namespace DL
open PySem PySem.Spec PyProof.Rows L2
section
variable {ca : Nat → Addr} {K : PySem.W.Frag} {Hf H Hf1 H1 Hf2 H2 : Hp} {S P P1 P2 : Rg} {R R1 R2 : Nat → Rg} {σ : L2.St} {st : Sl} {v : V} {d : D} {vs : List V} {ds : List D} {X : Cx}
end
end DL

/-! DL186: counting the shortest words from one list to another: level by level, with all exchanges or with those towards the target alone. -/
namespace Nw
open DL
/-! ### read backwards -/
end Nw

/-! DL187: a dict that counts lists: what it holds after each store; its evaluation. -/
namespace DL
open PySem (Str)
def kT (v : List Int) : List L2.Key := v.map Sum.inl
theorem kT_inj : ∀ {u v : List Int}, kT u = kT v → u = v
  | [], [], _ => rfl
  | [], _ :: _, h => by cases h
  | _ :: _, [], h => by cases h
  | a :: u, b :: v, h => by
    have h := List.cons.inj h
    rw [Sum.inl.inj h.1, kT_inj h.2]
abbrev DK := List (List L2.Key × D)
/-- the dict's values are how often its keys stand in L -/
structure CD (kvs : DK) (L : List (List Int)) : Prop where
  nd : (kvs.map (·.1)).Nodup
  ks : ∀ k ∈ kvs.map (·.1), ∃ l ∈ L, k = kT l
  val : ∀ l, valQ kvs (kT l) = if l ∈ L then some (.int ((L.count l : Nat) : Int)) else none
theorem CD.nil : CD [] [] := ⟨List.nodup_nil, (fun _ h => by cases h), fun l => rfl⟩
theorem CD.one (v : List Int) : CD [(kT v, .int 1)] [v] := by
  refine ⟨by simp, fun k hk => ⟨v, List.mem_singleton.mpr rfl, by simpa using hk⟩, fun l => ?_⟩
  by_cases e : l = v
  · subst e
    rw [valQ_cons_pos rfl, if_pos (List.mem_singleton.mpr rfl), List.count_singleton]
    simp
  · rw [valQ_cons_neg (fun z => e (kT_inj z).symm), if_neg (fun z => e (List.mem_singleton.mp z))]
    rfl
theorem putQ_keys {kvs : DK} {k : List L2.Key} (d : D) : (k ∈ kvs.map (·.1) → (putQ kvs k d).map (·.1) = kvs.map (·.1)) ∧ (k ∉ kvs.map (·.1) → (putQ kvs k d).map (·.1) = kvs.map (·.1) ++ [k]) := by
  have e : (kvs.any fun kv => decide (kv.1 = k)) = true ↔ k ∈ kvs.map (·.1) := by
    rw [List.any_eq_true, List.mem_map]
    simp only [decide_eq_true_eq]
  unfold putQ
  refine ⟨fun h => ?_, fun h => ?_⟩
  · rw [if_pos (e.mpr h), List.map_map]
    refine List.map_congr_left fun kv _ => ?_
    show (if kv.1 = k then (kv.1, d) else kv).1 = kv.1
    split <;> rfl
  · rw [if_neg fun z => h (e.mp z), List.map_append]
    rfl
theorem nodup_back {α β : Type} {f : α → β} : ∀ {L : List α}, (L.map f).Nodup → L.Nodup
  | [], _ => List.nodup_nil
  | x :: L, h => by
    rw [List.map_cons, List.nodup_cons] at h
    exact List.nodup_cons.mpr ⟨fun z => h.1 (List.mem_map.mpr ⟨x, z, rfl⟩), nodup_back h.2⟩
theorem nodup_le {α : Type} [DecidableEq α] : ∀ {L U : List α}, L.Nodup → (∀ x ∈ L, x ∈ U) → L.length ≤ U.length
  | [], _, _, _ => Nat.zero_le _
  | x :: L, U, h, s => by
    rw [List.nodup_cons] at h
    have hx := s x List.mem_cons_self
    have ih := nodup_le (L := L) (U := U.erase x) h.2 fun y hy => (List.mem_erase_of_ne (fun e => h.1 (by rw [← e]; exact hy))).mpr (s y (List.mem_cons_of_mem _ hy))
    rw [List.length_erase_of_mem hx] at ih
    have := List.length_pos_of_mem hx
    rw [List.length_cons]
    omega
theorem CD.put {kvs : DK} {L : List (List Int)} (h : CD kvs L) (a : List Int) {c : Nat} (hc : 0 < c) : CD (putQ kvs (kT a) (.int (((L.count a : Nat) : Int) + c))) (L ++ List.replicate c a) := by
  have ma : a ∈ L ++ List.replicate c a := List.mem_append_right _ (List.mem_replicate.mpr ⟨by omega, rfl⟩)
  refine ⟨?_, fun k hk => ?_, fun l => ?_⟩
  · rcases Classical.em (kT a ∈ kvs.map (·.1)) with n | n
    · rw [(putQ_keys _).1 n]
      exact h.nd
    · rw [(putQ_keys _).2 n]
      exact List.nodup_append.mpr ⟨h.nd, by simp, fun x hx y hy z => n (by rw [← List.mem_singleton.mp hy, ← z]; exact hx)⟩
  · have old : k ∈ kvs.map (·.1) → ∃ l ∈ L ++ List.replicate c a, k = kT l := fun hk => by
      obtain ⟨l, hl, e⟩ := h.ks k hk
      exact ⟨l, List.mem_append_left _ hl, e⟩
    rcases Classical.em (kT a ∈ kvs.map (·.1)) with n | n
    · rw [(putQ_keys _).1 n] at hk
      exact old hk
    · rw [(putQ_keys _).2 n] at hk
      rcases List.mem_append.mp hk with hk | hk
      · exact old hk
      · exact ⟨a, ma, List.mem_singleton.mp hk⟩
  · rw [valQ_put]
    by_cases e : l = a
    · subst e
      rw [if_pos rfl, if_pos ma, List.count_append, List.count_replicate_self]
      congr 2
    · rw [if_neg (fun z => e (kT_inj z)), h.val, List.count_append, List.count_eq_zero.mpr (fun z => e (List.mem_replicate.mp z).2), Nat.add_zero]
      by_cases m : l ∈ L
      · rw [if_pos m, if_pos (List.mem_append_left _ m)]
      · rw [if_neg m, if_neg fun z => (List.mem_append.mp z).elim m fun z => e (List.mem_replicate.mp z).2]
theorem valQ_in {kvs : DK} (nd : (kvs.map (·.1)).Nodup) {k : List L2.Key} {d : D} (h : (k, d) ∈ kvs) : valQ kvs k = some d := by
  induction kvs with
  | nil => cases h
  | cons p r ih =>
    rw [List.map_cons, List.nodup_cons] at nd
    rcases List.mem_cons.mp h with e | h
    · subst e; exact valQ_cons_pos rfl
    · rw [valQ_cons_neg fun e => nd.1 (by rw [e]; exact List.mem_map.mpr ⟨_, h, rfl⟩)]
      exact ih nd.2 h
def enP (p : List Int × Nat) : List L2.Key × D := (kT p.1, .int ((p.2 : Nat) : Int))
theorem count_pairs (a : List Int) : ∀ {M : List (List Int × Nat)}, (M.map (·.1)).Nodup → (M.flatMap fun p => List.replicate p.2 p.1).count a = ((M.find? fun p => decide (p.1 = a)).map (·.2)).getD 0
  | [], _ => rfl
  | p :: M, h => by
    rw [List.map_cons, List.nodup_cons] at h
    rw [List.flatMap_cons, List.count_append, List.find?_cons]
    by_cases e : p.1 = a
    · rw [decide_eq_true e, e, List.count_replicate_self]
      have : (M.flatMap fun p => List.replicate p.2 p.1).count a = 0 := List.count_eq_zero.mpr fun z => by
        obtain ⟨q, hq, z⟩ := List.mem_flatMap.mp z
        exact h.1 (List.mem_map.mpr ⟨q, hq, ((List.mem_replicate.mp z).2.symm.trans e.symm)⟩)
      rw [this]
      rfl
    · rw [decide_eq_false e, List.count_eq_zero.mpr (fun z => e (List.mem_replicate.mp z).2.symm), Nat.zero_add, count_pairs a h.2]
/-- its pairs -/
theorem CD.dec {kvs : DK} {L : List (List Int)} (h : CD kvs L) : ∃ M : List (List Int × Nat), kvs = M.map enP ∧ L.Perm (M.flatMap fun p => List.replicate p.2 p.1) ∧ (M.map (·.1)).Nodup ∧ ∀ p ∈ M, p.1 ∈ L ∧ 0 < p.2 ∧ p.2 = L.count p.1 := by
  have key : ∀ K : DK, (∀ kv ∈ K, kv ∈ kvs) → ∃ M : List (List Int × Nat), K = M.map enP ∧ ∀ p ∈ M, p.1 ∈ L ∧ 0 < p.2 ∧ p.2 = L.count p.1 := fun K => by
    induction K with
    | nil => exact fun _ => ⟨[], rfl, fun _ z => by cases z⟩
    | cons kv K ih =>
      intro hK
      obtain ⟨M, e, hM⟩ := ih fun x hx => hK x (List.mem_cons_of_mem _ hx)
      obtain ⟨k, d⟩ := kv
      have m := hK _ List.mem_cons_self
      obtain ⟨l, hl, rfl⟩ := h.ks k (List.mem_map.mpr ⟨_, m, rfl⟩)
      have v := valQ_in h.nd m
      rw [h.val, if_pos hl] at v
      cases v
      exact ⟨(l, L.count l) :: M, by rw [List.map_cons, ← e]; rfl, fun p hp => by
        rcases List.mem_cons.mp hp with e | hp
        · subst e; exact ⟨hl, List.count_pos_iff.mpr hl, rfl⟩
        · exact hM p hp⟩
  obtain ⟨M, e, hM⟩ := key kvs fun _ z => z
  have ndM : (M.map (·.1)).Nodup := by
    have nd := h.nd
    rw [e, List.map_map] at nd
    have e2 : M.map ((·.1) ∘ enP) = (M.map (·.1)).map kT := by rw [List.map_map]; rfl
    rw [e2] at nd
    exact nodup_back nd
  refine ⟨M, e, List.perm_iff_count.mpr fun a => ?_, ndM, hM⟩
  rw [count_pairs a ndM]
  cases f : M.find? fun p => decide (p.1 = a) with
  | some p =>
    have e1 : p.1 = a := by simpa using List.find?_some f
    have := (hM p (List.mem_of_find?_eq_some f)).2.2
    rw [e1] at this
    exact this.symm
  | none =>
    refine List.count_eq_zero.mpr fun z => ?_
    have v := h.val a
    rw [if_pos z, e] at v
    have : valQ (M.map enP) (kT a) = none := by
      unfold valQ
      rw [List.find?_eq_none.mpr, Option.map_none]
      intro kv hkv
      obtain ⟨p, hp, rfl⟩ := List.mem_map.mp hkv
      have := List.find?_eq_none.mp f p hp
      simp only [decide_eq_true_eq] at this ⊢
      exact fun z => this (kT_inj z)
    rw [this] at v
    cases v
theorem sumD_pairs : ∀ M : List (List Int × Nat), sumD ((M.map enP).map (·.2)) = some (((M.flatMap fun p => List.replicate p.2 p.1).length : Nat) : Int)
  | [] => rfl
  | p :: M => by
    show (sumD ((M.map enP).map (·.2))).map (((p.2 : Nat) : Int) + ·) = _
    rw [sumD_pairs M, Option.map_some, List.flatMap_cons, List.length_append, List.length_replicate]
    congr 1
theorem CD.sum {kvs : DK} {L : List (List Int)} (h : CD kvs L) : sumD (kvs.map (·.2)) = some ((L.length : Nat) : Int) := by
  obtain ⟨M, rfl, p, _, _⟩ := h.dec
  rw [sumD_pairs, p.length_eq]
theorem CD.len {kvs : DK} {L : List (List Int)} (h : CD kvs L) {U : List (List Int)} (hU : ∀ l ∈ L, l ∈ U) : kvs.length ≤ U.length := by
  obtain ⟨M, rfl, p, nd, hM⟩ := h.dec
  have := nodup_le nd (U := U) fun l hl => by
    obtain ⟨q, hq, rfl⟩ := List.mem_map.mp hl
    exact hU _ (hM q hq).1
  rw [List.length_map] at this ⊢
  exact this
theorem CD.colds {kvs : DK} {L : List (List Int)} (h : CD kvs L) : colds (kvs.map (·.2)) = true := by
  obtain ⟨M, rfl, _, _, _⟩ := h.dec
  unfold DL.colds
  rw [List.all_eq_true]
  intro d hd
  obtain ⟨kv, hkv, rfl⟩ := List.mem_map.mp hd
  obtain ⟨q, _, rfl⟩ := List.mem_map.mp hkv
  rfl
/-! ### evaluation -/
end DL

set_option maxHeartbeats 2000000
/-! DL188: dict(list of pairs), the keys tuples. -/
namespace DL
open PySem PySem.Spec PyProof.Rows L2
section
variable {X : Cx}
end
section
variable {ca : Nat → Addr} {K : PySem.W.Frag} {Hf H : Hp} {S : Rg} {vs : List V} {ds : List D} {X : Cx} {R : Nat → Rg} {σ : L2.St} {st : Sl}
end
end DL

set_option maxHeartbeats 2000000
/-! DL189: zip of a list or a tuple with a list or a tuple (any of the four), in a loop with a pair as its target. -/
namespace DL
open PySem PySem.Spec PyProof.Rows L2
def IterB (h : Heap) : Bool → Addr → Addr → Nat → Prop
  | false => h.IsListIter
  | true => h.IsTupleIter
theorem IterB.at {h h' : Heap} {it l : Addr} {i : Nat} : ∀ {k}, IterB h k it l i → (∀ o, h.get? it = some o → h'.get? it = some o) → IterB h' k it l i
  | false, q, e => Heap.IsListIter.at q e
  | true, q, e => Heap.IsTupleIter.at q e
theorem IterB.obj {h : Heap} {it l : Addr} {i : Nat} : ∀ {k}, IterB h k it l i → ∃ o, h.get? it = some o ∧ ∀ v, o.data ≠ .cell v
  | false, ⟨o, e, _, d⟩ => ⟨o, e, fun v q => by rw [d] at q; cases q⟩
  | true, ⟨o, e, _, d⟩ => ⟨o, e, fun v q => by rw [d] at q; cases q⟩
section
variable {ca : Nat → Addr} {K : PySem.W.Frag} {Hf H Hf1 H1 Hf2 H2 : Hp} {S S1 S2 P P1 P2 : Rg} {R R1 R2 : Nat → Rg} {σ : L2.St} {st : Sl} {v : V} {d : D} {vs us : List V} {ds xs ys : List D} {X : Cx} {L : List Nat}
end
end DL

/-! DL190: how many arrangements a network sorts: level by level over the sets of the places of 1 .. k. -/
namespace Nw
open DL
/-! ### the arrangements -/
/-! ### level by level -/
/-! ### the places of 1, 2, .. -/
end Nw

/-! DL191: how many rows of 0 and 1 a network sorts: the increasing lists of places below the limits, counted from the front and from the back. -/
namespace Nw
open DL
/-! ### the increasing lists of places below the limits -/
def seqL (w : Nat) : Nat → List Int → List (List Int)
  | _, [] => [[]]
  | lo, g :: L => ((List.range' lo (w + 1 - lo)).filter fun (p : Nat) => decide ((p : Int) ≤ g)).flatMap fun p => (seqL w (p + 1) L).map ((p : Int) :: ·)
def cs (w lo : Nat) (L : List Int) : Nat := (seqL w lo L).length
/-! ### rows and places -/
/-! ### counted from the front -/
end Nw

/-! DL192: a counting dict: its part with a property, made by dict(pairs); list(d.values()); zip of a tuple and a list, evaluated; the levels as the law counts them. -/
namespace DL
open PySem (Str)
end DL
namespace Nw
open DL
end Nw

/-! DL194: repr of a list of two things of which the second is an empty dict. -/
namespace DL
open PySem PySem.Spec PyProof.Rows L2
def rReprV (K : PySem.W.Frag) : List V → Hp → VK → Prop := fun xs H Q => rReprE K xs H Q ∨ ∃ l v p a, xs = [.ref l] ∧ H l = some (.lst [v, .ref a]) ∧ Dp K H v p ∧ rpOk p = true ∧ H a = some (.dK []) ∧ (listText [p.shown, "{}"]).length ≤ 16777216 ∧ Q (.str (listText [p.shown, "{}"])) H
def oReprV : List D → Option Out
  | [.lst z [x, .dic z2 []]] => if rpOk (toPy x) = true ∧ (listText [(toPy x).shown, "{}"]).length ≤ 16777216 then some (.val (.str (listText [(toPy x).shown, "{}"]))) else none
  | ds => oReprE ds
section
variable {ca : Nat → Addr} {K : PySem.W.Frag} {Hf H Hf1 H1 : Hp} {S : Rg} {X : Cx} {v : V} {d : D}
theorem call_reprV {k : Nat} (hr : RoomG k X.A) : CallR X (.builtin "repr") (rReprV X.K) := by
  intro pins s σ H xs us Q I r h
  rcases h with h | ⟨l, v, p, a, rfl, el, hd, ok, e, hz, q⟩
  · exact call_reprE hr pins s σ H xs us Q I r h
  · obtain ⟨u, rfl, rx⟩ := vals1 r
    obtain rfl : u = Value.ref l := rx
    unfold rpOk at ok
    simp only [Bool.and_eq_true, decide_eq_true_eq, Bool.not_eq_true'] at ok
    obtain ⟨⟨⟨⟨h1, h2⟩, h3⟩, h4⟩, h5⟩ := ok
    rw [sz_eq] at h5 hz
    have hu := hr.2.un
    obtain ⟨its, rv, pl, _⟩ := I.list (.inl (.inl el))
    obtain ⟨u1, u2, rfl, r1, r2⟩ : ∃ u1 u2, its = [u1, u2] ∧ RelV v u1 ∧ u2 = Value.ref a := by
      cases rv with
      | cons r1 rr => cases rr with
        | cons r2 rr2 => cases rr2; exact ⟨_, _, rfl, r1, r2⟩
    subst r2
    obtain ⟨as1, rd1⟩ := Dp.reads I p v u1 hd r1
    obtain ⟨_, lo, vs, kv, dd⟩ := (show ObjOk X.prog X.w H s.heap a (.dK []) from I.hok a _ e)
    cases kv
    obtain ⟨o, es, ep, ho, ⟨hc, _, _⟩, hdt, _, hp, _⟩ := dd
    have hn : es.toList = [] := by
      generalize es.toList = l at hp
      cases hp
      rfl
    have rd2 : Reads s.heap (.ref a) (.dict []) (a :: [] ++ []) := Reads.dict ho hc hdt (by rw [hn]; exact ReadsAll.nil) (by rw [hn]; exact ReadsAll.nil)
    have sh : (PyData.dict []).shown = "{}" := by kernel_rfl
    have no : sysModules ∉ (a :: [] ++ [] : List Addr) := fun z => by
      rw [List.append_nil, List.mem_singleton] at z
      rw [z] at lo
      simp at lo
    obtain ⟨ol, nl, hol, hcl, hxl, hdl⟩ := pl
    obtain ⟨b1, q1, k1⟩ := ReprK.of_reads (prog := X.prog) (w := X.w) rd1 h2 (PyData.noDict_hsm h3) h5
    obtain ⟨b2, q2, k2⟩ := ReprK.of_reads (prog := X.prog) (w := X.w) rd2 (by decide +kernel) (fun _ => no) (by rw [sh]; decide +kernel)
    rw [sh] at k2
    have d2 : (PyData.dict []).depth = 1 := by decide
    rw [d2] at q2 k2
    have rl : Reads s.heap (.ref l) (.list [p, .dict []]) _ := Reads.list hol hcl hdl (ReadsAll.cons rd1 (ReadsAll.cons rd2 ReadsAll.nil))
    have hb : ReadAtMost s.heap (p.depth + 1) (b1 ++ b2) := (q1.mono (by omega)).append (q2.mono (by omega))
    have k : ReprAllK X.prog X.w (b1 ++ b2) s.heap (p.depth + 1) [u1, .ref a] [p.shown, "{}"] := .cons ((k1.more fun b hb => List.mem_append_left _ hb).level_le (by omega)) (.cons ((k2.more fun b hb => List.mem_append_right _ hb).level_le (by omega)) .nil)
    have hna : l ∉ b1 ++ b2 := fun m => by
      rcases List.mem_append.mp m with m | m
      · exact not_mem_of_deeper rl (by simp only [PyData.depth, PyData.depthAll]; omega) q1 m
      · exact not_mem_of_deeper rl (by simp only [PyData.depth, PyData.depthAll]; omega) (q2.mono (m := 1) (Nat.le_refl _)) m
    refine call_repr_slot (T := "list") (idr := "list.__repr__") (by omega) ⟨ol, hol, hcl⟩ F.slot_list_repr.toG ?_
    refine call_list_reprK (as := b1 ++ b2) (d := p.depth + 1) (h₀ := s.heap) hol hcl hdl hna (by simp) (fun i y e => k.item i y (by simpa using e)) hr.1 (fun b _ => Clear.nil b) (by show X.A.units + 1 + (p.depth + 1 + 1) < cLine; omega) (fun _ _ e => e) (fun h' w tk keep => ⟨_, _, rfl, ?_⟩) hz
    exact ⟨.str _, H, I.kept (t' := tk) keep, ⟨_, rfl⟩, q⟩
theorem os_reprV : OpS ca K (rReprV K) oReprV := fun Hf H vs ds o Q hx rd h q => by
  have dK : ∀ {S : Rg} {v : V} {z : Bool}, Rep ca K Hf H S v (.dic z []) → ∃ a, v = .ref a ∧ H a = some (.dK []) := fun {S v z} r => by
    cases r with
    | dicF e k r =>
      rename_i kvs
      cases kvs with
      | nil => exact ⟨_, rfl, hx _ _ e⟩
      | cons p l => cases k
    | dicO s e k r =>
      rename_i kvs
      cases kvs with
      | nil => exact ⟨_, rfl, e⟩
      | cons p l => cases k
  have key : ∀ {z z2 : Bool} {x : D}, ds = [.lst z [x, .dic z2 []]] → rReprV K vs H Q := fun {z z2 x} e => by
    subst e
    dsimp only [oReprV] at h
    split at h
    · rename_i hz
      cases h
      obtain ⟨v, S, e1, r1⟩ := rdl1 rd rfl
      subst e1
      have hl : (toPy x).canLay0 = true := by
        have := hz.1
        unfold rpOk at this
        simp only [Bool.and_eq_true] at this
        exact this.1.1.1.1
      obtain ⟨l, ws, T, rfl, el, rr⟩ := rep_lst hx r1
      cases rr with
      | cons q1 q2 _ _ _ => cases q2 with
        | cons q3 q4 _ _ _ =>
          cases q4
          obtain ⟨a, rfl, ea⟩ := dK q3
          exact .inr ⟨l, _, _, a, rfl, el, rep_dp hx q1 hl, hz.1, ea, hz.2, q _ .str⟩
    · cases h
  by_cases c : ∃ (z z2 : Bool) (x : D), ds = [.lst z [x, .dic z2 []]]
  · obtain ⟨z, z2, x, e⟩ := c
    exact key e
  · refine .inl (os_reprE Hf H vs ds o Q hx rd ?_ q)
    rw [← h]
    unfold oReprV
    split
    · rename_i z x z2
      exact absurd ⟨z, z2, x, rfl⟩ c
    · rfl
end
end DL

namespace Lw29
open PySem PySem.Spec PyProof.Rows L2 DL
/-! ### the text -/
def topS (i : Nat) : Stmt := PySem.Challenge.pw_nearswap_k29_obstacles_checked.main.body.getD i (.Pass ⟨0, 0, 0, 0⟩)
abbrev s__law_source : Stmt := topS 22
theorem sc__law_source : FnScope ["_law_script", "_law_k", "_law_cell", "_law_size", "_law_mixed"] ["_law_script", "_law_k"] (defScope s__law_source) := ⟨rfl, rfl, rfl, by decide +kernel, rfl, by decide +kernel, by decide +kernel⟩
abbrev s__law_draw : Stmt := topS 23
theorem sc__law_draw : FnScope ["_law_source_here", "_law_count", "_law_result_here"] ["_law_source_here", "_law_count"] (defScope s__law_draw) := ⟨rfl, rfl, rfl, by decide +kernel, rfl, by decide +kernel, by decide +kernel⟩
abbrev s__law_steps : Stmt := topS 24
theorem sc__law_steps : FnScope ["_law_source_here", "_law_width", "_law_most", "_law_way", "_law_result_here", "_law_turn", "_law_step"] ["_law_source_here", "_law_width", "_law_most"] (defScope s__law_steps) := ⟨rfl, rfl, rfl, by decide +kernel, rfl, by decide +kernel, by decide +kernel⟩
abbrev s__law_sets : Stmt := topS 27
theorem sc__law_sets : FnScope ["_law_width", "_law_count", "_law_result_here", "_law_place", "_law_row"] ["_law_width", "_law_count"] (defScope s__law_sets) := ⟨rfl, rfl, rfl, by decide +kernel, rfl, by decide +kernel, by decide +kernel⟩
abbrev s__law_result : Stmt := topS 25
theorem sc__law_result : FnScope ["_law_steps_here", "_law_values_here", "_law_result_here", "_law_step", "_law_left", "_law_right"] ["_law_steps_here", "_law_values_here"] (defScope s__law_result) := ⟨rfl, rfl, rfl, by decide +kernel, rfl, by decide +kernel, by decide +kernel⟩
abbrev s__law_moves_in_front : Stmt := topS 28
theorem sc__law_moves_in_front : FnScope ["_law_steps_here", "_law_width", "_law_places_here", "_law_values_here", "_law_place"] ["_law_steps_here", "_law_width", "_law_places_here"] (defScope s__law_moves_in_front) := ⟨rfl, rfl, rfl, by decide +kernel, rfl, by decide +kernel, by decide +kernel⟩
abbrev s__law_is_nowhere_greater : Stmt := topS 29
theorem sc__law_is_nowhere_greater : FnScope ["_law_places_here", "_law_bound", "_law_one", "_law_other"] ["_law_places_here", "_law_bound"] (defScope s__law_is_nowhere_greater) := ⟨rfl, rfl, rfl, by decide +kernel, rfl, by decide +kernel, by decide +kernel⟩
abbrev s__law_limit : Stmt := topS 30
theorem sc__law_limit : FnScope ["_law_steps_here", "_law_width", "_law_count", "_law_good", "_law_bound", "_law_row"] ["_law_steps_here", "_law_width", "_law_count"] (defScope s__law_limit) := ⟨rfl, rfl, rfl, by decide +kernel, rfl, by decide +kernel, by decide +kernel⟩
abbrev s_is_integer : Stmt := topS 7
theorem sc_is_integer : FnScope ["value", "low", "high"] ["value", "low", "high"] (defScope s_is_integer) := ⟨rfl, rfl, rfl, by decide +kernel, rfl, by decide +kernel, by decide +kernel⟩
abbrev s_check_width : Stmt := topS 10
theorem sc_check_width : FnScope ["width"] ["width"] (defScope s_check_width) := ⟨rfl, rfl, rfl, by decide +kernel, rfl, by decide +kernel, by decide +kernel⟩
abbrev s_check_steps : Stmt := topS 11
theorem sc_check_steps : FnScope ["width", "steps", "index", "step"] ["width", "steps"] (defScope s_check_steps) := ⟨rfl, rfl, rfl, by decide +kernel, rfl, by decide +kernel, by decide +kernel⟩
abbrev s_Network___init__ : Stmt := inClass (topS 12) 2
theorem sc_Network___init__ : FnScope ["self", "width", "steps"] ["self", "width", "steps"] (defScope s_Network___init__) := ⟨rfl, rfl, rfl, by decide +kernel, rfl, by decide +kernel, by decide +kernel⟩
abbrev s__law_values : Stmt := topS 31
theorem sc__law_values : FnScope ["_law_source_here", "_law_width", "_law_size", "_law_place"] ["_law_source_here", "_law_width"] (defScope s__law_values) := ⟨rfl, rfl, rfl, by decide +kernel, rfl, by decide +kernel, by decide +kernel⟩
abbrev s__law_places : Stmt := topS 33
theorem sc__law_places : FnScope ["_law_values_here", "_law_threshold", "_law_place", "_law_value"] ["_law_values_here", "_law_threshold"] (defScope s__law_places) := ⟨rfl, rfl, rfl, by decide +kernel, rfl, by decide +kernel, by decide +kernel⟩
abbrev s__law_is_short : Stmt := topS 32
theorem sc__law_is_short : FnScope ["_law_places_here", "_law_bound", "_law_place", "_law_one"] ["_law_places_here", "_law_bound", "_law_place"] (defScope s__law_is_short) := ⟨rfl, rfl, rfl, by decide +kernel, rfl, by decide +kernel, by decide +kernel⟩
abbrev s__law_obstacles : Stmt := topS 34
theorem sc__law_obstacles : FnScope ["_law_bounds", "_law_values_here", "_law_result_here", "_law_threshold", "_law_places_here", "_law_bound", "_law_found", "_law_place"] ["_law_bounds", "_law_values_here"] (defScope s__law_obstacles) := ⟨rfl, rfl, rfl, by decide +kernel, rfl, by decide +kernel, by decide +kernel⟩
abbrev s__law_candidates : Stmt := topS 35
theorem sc__law_candidates : FnScope ["_law_width", "_law_found", "_law_result_here", "_law_count", "_law_place"] ["_law_width", "_law_found"] (defScope s__law_candidates) := ⟨rfl, rfl, rfl, by decide +kernel, rfl, by decide +kernel, by decide +kernel⟩
abbrev s_is_any_integer : Stmt := topS 8
theorem sc_is_any_integer : FnScope ["value"] ["value"] (defScope s_is_any_integer) := ⟨rfl, rfl, rfl, by decide +kernel, rfl, by decide +kernel, by decide +kernel⟩
abbrev s_check_integers : Stmt := topS 14
theorem sc_check_integers : FnScope ["values", "index", "value"] ["values"] (defScope s_check_integers) := ⟨rfl, rfl, rfl, by decide +kernel, rfl, by decide +kernel, by decide +kernel⟩
abbrev s_check_values : Stmt := topS 15
theorem sc_check_values : FnScope ["width", "values"] ["width", "values"] (defScope s_check_values) := ⟨rfl, rfl, rfl, by decide +kernel, rfl, by decide +kernel, by decide +kernel⟩
abbrev s_places_up_to : Stmt := topS 18
theorem sc_places_up_to : FnScope ["values", "threshold", "place", "value"] ["values", "threshold"] (defScope s_places_up_to) := ⟨rfl, rfl, rfl, by decide +kernel, rfl, by decide +kernel, by decide +kernel⟩
abbrev s_Network_backwards : Stmt := inClass (topS 12) 10
theorem sc_Network_backwards : FnScope ["self"] ["self"] (defScope s_Network_backwards) := ⟨rfl, rfl, rfl, by decide +kernel, rfl, by decide +kernel, by decide +kernel⟩
abbrev s_hardest : Stmt := topS 17
theorem sc_hardest : FnScope ["network", "values", "step"] ["network"] (defScope s_hardest) := ⟨rfl, rfl, rfl, by decide +kernel, rfl, by decide +kernel, by decide +kernel⟩
abbrev s_limits : Stmt := topS 19
theorem sc_limits : FnScope ["network", "values", "count"] ["network"] (defScope s_limits) := ⟨rfl, rfl, rfl, by decide +kernel, rfl, by decide +kernel, by decide +kernel⟩
abbrev s_is_obstacle : Stmt := topS 20
theorem sc_is_obstacle : FnScope ["network", "values", "value", "count", "place", "places", "limit", "one"] ["network", "values", "value"] (defScope s_is_obstacle) := ⟨rfl, rfl, rfl, by decide +kernel, rfl, by decide +kernel, by decide +kernel⟩
abbrev s_law : Stmt := topS 36
theorem sc_law : FnScope ["_law_script", "_law_k", "_law_source_here", "_law_width", "_law_steps_here", "_law_bounds", "_law_network", "_law_turn", "_law_values_here", "_law_found", "_law_texts", "_law_value", "_law_before", "_law_count", "_law_row"] ["_law_script"] (defScope s_law) := ⟨rfl, rfl, rfl, by decide +kernel, rfl, by decide +kernel, by decide +kernel⟩
abbrev s_Network_steps : Stmt := inClass (topS 12) 4
theorem sc_Network_steps : FnScope ["self"] ["self"] (defScope s_Network_steps) := ⟨rfl, rfl, rfl, by decide +kernel, rfl, by decide +kernel, by decide +kernel⟩
abbrev s_Network_width : Stmt := inClass (topS 12) 3
theorem sc_Network_width : FnScope ["self"] ["self"] (defScope s_Network_width) := ⟨rfl, rfl, rfl, by decide +kernel, rfl, by decide +kernel, by decide +kernel⟩
/-! ### the meanings -/
def b__law_source : MS := (sSeq (sAsg (eOp oAdd [.v (eOp oMul [.v (eC (.int 7)), .v (eOp oSum [.v (eOp oS01 [.s 0, .v (eC (.int 63))])])]), .s 1]) (gN 2)) (sSeq (sIf (tE (eOp (f2 pLt) [.s 1, .v (eOp oLen [.s 0])])) (sAsg (eOp oIx [.s 0, .s 1]) (gN 2)) sNext) (sSeq (sAsg (eOp oAbs [.s 2]) (gN 3)) (sSeq (sAsg (eOp oMod [.v (eOp oMul [.v (eOp oAdd [.v (eOp oAdd [.v (eOp oAdd [.v (eOp oMod [.s 3, .v (eC (.int 2147483629))]), .v (eOp oMul [.v (eOp oMul [.v (eC (.int 7919)), .s 1]), .s 1])]), .v (eOp oMul [.v (eC (.int 31)), .s 1])]), .v (eC (.int 17))]), .v (eC (.int 48271))]), .v (eC (.int 2147483647))]) (gN 4)) (sRet (eLst (aCons (eOp oMul [.s 3, .v (eOp oInt [.v (eOp (f2 pGe) [.s 3, .v (eOp oPow [.v (eC (.int 10)), .v (eC (.int 18))])])])]) (aCons (eOp oMod [.v (eOp oMul [.s 4, .s 4]), .v (eC (.int 2147483629))]) aNil))))))))
def m__law_source : MF := fn 2 5 [0, 1] b__law_source
def b__law_draw : MS := (sSeq (sIf (tE (eOp (f2 pGt) [.v (eOp oIx [.s 0, .v (eC (.int 0))]), .v (eC (.int 0))])) (sSeq (sAsg (eOp oMod [.v (eOp oIx [.s 0, .v (eC (.int 0))]), .s 1]) (gN 2)) (sSeq (sAsg (eOp oDiv [.v (eOp oIx [.s 0, .v (eC (.int 0))]), .s 1]) (gIx 0 (eC (.int 0)))) (sRet (eMv 2)))) sNext) (sSeq (sAsg (eOp oMod [.v (eOp oAdd [.v (eOp oMul [.v (eOp oIx [.s 0, .v (eC (.int 1))]), .v (eC (.int 48271))]), .v (eC (.int 11))]), .v (eC (.int 2147483647))]) (gIx 0 (eC (.int 1)))) (sRet (eOp oMod [.v (eOp oDiv [.v (eOp oMod [.v (eOp oMul [.v (eOp oIx [.s 0, .v (eC (.int 1))]), .v (eOp oIx [.s 0, .v (eC (.int 1))])]), .v (eC (.int 2147483629))]), .v (eC (.int 16))]), .s 1]))))
def m__law_draw : MF := fn 2 3 [0, 1] b__law_draw
def st1__law_steps : MS := (sRet (eLst aNil))
def st2__law_steps : MS := (sIf (tE (eOp (f2 pEq) [.s 1, .v (eC (.int 1))])) st1__law_steps sNext)
def st3__law_steps : MS := (sAsg (eCallL m__law_draw aNil 0 (aCons (eC (.int 4)) aNil)) (gN 3))
def st4__law_steps : MS := (sAsg (eLst aNil) (gN 4))
def st5__law_steps : MS := (sAsg (eOp oAdd [.v (eC (.int 1)), .v (eCallL m__law_draw aNil 0 (aCons (eOp oSub [.s 1, .v (eC (.int 1))]) aNil))]) (gN 6))
def st6__law_steps : MS := (sAsg (eOp oMin2 [.v (eOp oSub [.s 1, .v (eC (.int 1))]), .v (eOp oMax2 [.v (eC (.int 1)), .v (eOp oAdd [.v (eOp oIx [.s 4, .v (eOp oNeg [.v (eC (.int 1))])]), .v (eOp oIx [.v (eLst (aCons (eC (.int 0)) (aCons (eC (.int 1)) (aCons (eOp oNeg [.v (eC (.int 1))]) (aCons (eC (.int 2)) aNil))))), .v (eCallL m__law_draw aNil 0 (aCons (eC (.int 4)) aNil))])])])]) (gN 6))
def st7__law_steps : MS := (sIf (tAndM (tE (eOp (f2 pEq) [.s 3, .v (eC (.int 0))])) (tE (eOp (f2 pNe) [.s 4, .v (eLst aNil)]))) st6__law_steps sNext)
def st8__law_steps : MS := (sAsg (eOp oAdd [.v (eC (.int 1)), .v (eOp oMod [.s 5, .v (eOp oSub [.s 1, .v (eC (.int 1))])])]) (gN 6))
def st9__law_steps : MS := (sIf (tE (eOp (f2 pEq) [.s 3, .v (eC (.int 1))])) st8__law_steps sNext)
def st10__law_steps : MS := (sExpr (eApp 4 (eN 6)))
def fg11__law_steps : MG := (gN 5)
def fb11__law_steps : MS := (sSeq st5__law_steps (sSeq st7__law_steps (sSeq st9__law_steps st10__law_steps)))
def st13__law_steps : MS := (sRet (eMv 4))
def b__law_steps : MS := (sSeq st2__law_steps (sSeq st3__law_steps (sSeq st4__law_steps (sSeq (sFor (iR1 (eCallL m__law_draw aNil 0 (aCons (eOp oAdd [.s 2, .v (eC (.int 1))]) aNil))) fg11__law_steps fb11__law_steps) st13__law_steps))))
def m__law_steps : MF := fn 3 7 [0, 1, 2] b__law_steps
def lg1__law_sets : MG := (gN 4)
def le1__law_sets : ME := (eOp oAdd [.s 4, .v (eLst (aCons (eN 3) aNil))])
def lt1__law_sets : MT := (tE (eOp (f2 pLt) [.v (eOp oLen [.s 4]), .s 1]))
def fg2__law_sets : MG := (gN 3)
def fb2__law_sets : MS := (sAsg (eOp oAdd [.s 2, .v (eFz (eLc (iE (eN 2) lstItems) lg1__law_sets lt1__law_sets le1__law_sets [4]))]) (gN 2))
def lg3__law_sets : MG := (gN 4)
def le3__law_sets : ME := (eN 4)
def lt3__law_sets : MT := (tE (eOp (f2 pEq) [.v (eOp oLen [.s 4]), .s 1]))
def b__law_sets : MS := (sSeq (sAsg (eFz (eLst (aCons (eLst aNil) aNil))) (gN 2)) (sSeq (sFor (iR2 (eC (.int 1)) (eOp oAdd [.s 0, .v (eC (.int 1))])) fg2__law_sets fb2__law_sets) (sRet (eLc (iE (eN 2) lstItems) lg3__law_sets lt3__law_sets le3__law_sets [4]))))
def m__law_sets : MF := fn 2 5 [0, 1] b__law_sets
def fg1__law_result : MG := (gN 3)
def fb1__law_result : MS := (sSeq (sPar 4 5 (aCons (eOp oIx [.s 2, .v (eOp oSub [.s 3, .v (eC (.int 1))])]) (aCons (eOp oIx [.s 2, .s 3]) aNil))) (sIf (tE (eOp (f2 pGt) [.s 4, .s 5])) (sSeq (sAsg (eN 5) (gIx 2 (eOp oSub [.s 3, .v (eC (.int 1))]))) (sAsg (eN 4) (gIx 2 (eN 3)))) sNext))
def b__law_result : MS := (sSeq (sAsg (eOp oList [.s 1]) (gN 2)) (sSeq (sFor (iEA (eN 0)) fg1__law_result fb1__law_result) (sRet (eMv 2))))
def m__law_result : MF := fn 2 6 [0, 1] b__law_result
def lg1__law_moves_in_front : MG := (gN 4)
def le1__law_moves_in_front : ME := (eOp oInt [.v (eOp (oIn true) [.s 4, .s 2])])
def b__law_moves_in_front : MS := (sSeq (sAsg (eLc (iR2 (eC (.int 1)) (eOp oAdd [.s 1, .v (eC (.int 1))])) lg1__law_moves_in_front tYesM le1__law_moves_in_front [4]) (gN 3)) (sRet (eOp (f2 pEq) [.v (eOp oSum [.v (eOp oS01 [.v (eCall m__law_result (aCons (eN 0) (aCons (eN 3) aNil))), .v (eOp oLen [.s 2])])]), .v (eC (.int 0))])))
def m__law_moves_in_front : MF := fn 3 5 [0, 1, 2] b__law_moves_in_front
def lg1__law_is_nowhere_greater : MG := (gT [(gN 2), (gN 3)])
def le1__law_is_nowhere_greater : ME := (eN 2)
def lt1__law_is_nowhere_greater : MT := (tE (eOp (f2 pGt) [.s 2, .s 3]))
def b__law_is_nowhere_greater : MS := (sRet (eOp (f2 pEq) [.v (eLc (iZ (aCons (eN 0) (aCons (eN 1) aNil))) lg1__law_is_nowhere_greater lt1__law_is_nowhere_greater le1__law_is_nowhere_greater [2, 3]), .v (eLst aNil)]))
def m__law_is_nowhere_greater : MF := fn 2 4 [0, 1] b__law_is_nowhere_greater
def lg1__law_limit : MG := (gN 5)
def le1__law_limit : ME := (eN 5)
def lt1__law_limit : MT := (tE (eCall m__law_moves_in_front (aCons (eN 0) (aCons (eN 1) (aCons (eN 5) aNil)))))
def lg2__law_limit : MG := (gN 5)
def le2__law_limit : ME := (eN 5)
def lt2__law_limit : MT := (tNotM (tE (eCall m__law_is_nowhere_greater (aCons (eN 5) (aCons (eN 4) aNil)))))
def fg3__law_limit : MG := (gN 4)
def fb3__law_limit : MS := (sIf (tE (eOp (f2 pEq) [.v (eLc (iE (eN 3) lstItems) lg2__law_limit lt2__law_limit le2__law_limit [5]), .v (eLst aNil)])) (sRet (eMv 4)) sNext)
def b__law_limit : MS := (sSeq (sAsg (eLc (iE (eFz (eCall m__law_sets (aCons (eN 1) (aCons (eN 2) aNil)))) lstItems) lg1__law_limit lt1__law_limit le1__law_limit [5]) (gN 3)) (sSeq (sFor (iE (eN 3) lstItems) fg3__law_limit fb3__law_limit) (sRet (eC .non))))
def m__law_limit : MF := fn 3 6 [0, 1, 2] b__law_limit
def b_is_integer : MS := (sRet (eAnd (eOp (oIsiB "int") [.s 0, .v (eC (.ty "int"))]) (eAnd (eNot (eOp (oIsiB "bool") [.s 0, .v (eC (.ty "bool"))])) (eChain pLe pLe (eN 1) (eN 0) (eN 2)))))
def m_is_integer : MF := fn 3 3 [0, 1, 2] b_is_integer
def b_check_width : MS := (sIf (tNotM (tE (eCall m_is_integer (aCons (eN 0) (aCons (eC (.int 1)) (aCons (eC (.int 40)) aNil)))))) sFail sNext)
def m_check_width : MF := fn 1 1 [0] b_check_width
def fg1_check_steps : MG := (gT [(gN 2), (gN 3)])
def fb1_check_steps : MS := (sIf (tNotM (tE (eCall m_is_integer (aCons (eN 3) (aCons (eC (.int 1)) (aCons (eOp oSub [.s 0, .v (eC (.int 1))]) aNil)))))) sFail sNext)
def b_check_steps : MS := (sSeq (sIf (tOrM (tNotM (tE (eOp (oIsi2 "list" "tuple") [.s 1, .v (eTup (aCons (eC (.ty "list")) (aCons (eC (.ty "tuple")) aNil)))]))) (tE (eOp (f2 pGt) [.v (eOp oLen [.s 1]), .v (eC (.int 1000))]))) sFail sNext) (sFor (iEnA (eN 1)) fg1_check_steps fb1_check_steps))
def m_check_steps : MF := fn 2 4 [0, 1] b_check_steps
def b_Network___init__ : MS := (sSeq (sExpr (eCall m_check_width (aCons (eN 1) aNil))) (sSeq (sExpr (eCall m_check_steps (aCons (eN 1) (aCons (eN 2) aNil)))) (sSeq (sFldM 0 0 "own_width" (eN 1)) (sFldM 0 0 "own_steps" (eOp oTuple [.s 2])))))
def m_Network___init__ : MF := fn 3 3 [0, 1, 2] b_Network___init__
def lg1__law_values : MG := (gN 3)
def le1__law_values : ME := (eOp oSub [.v (eCallL m__law_draw aNil 0 (aCons (eN 2) aNil)), .v (eOp oDiv [.s 2, .v (eC (.int 2))])])
def b__law_values : MS := (sSeq (sAsg (eOp oIx [.v (eLst (aCons (eC (.int 2)) (aCons (eC (.int 3)) (aCons (eOp oAdd [.s 1, .v (eC (.int 1))]) (aCons (eOp oPow [.v (eC (.int 10)), .v (eC (.int 20))]) aNil))))), .v (eCallL m__law_draw aNil 0 (aCons (eC (.int 4)) aNil))]) (gN 2)) (sRet (eLc (iR1 (eN 1)) lg1__law_values tYesM le1__law_values [3])))
def m__law_values : MF := fn 2 4 [0, 1] b__law_values
def lg1__law_places : MG := (gT [(gN 2), (gN 3)])
def le1__law_places : ME := (eN 2)
def lt1__law_places : MT := (tE (eOp (f2 pLe) [.s 3, .s 1]))
def b__law_places : MS := (sRet (eLc (iEnK (aCons (eN 0) (aCons (eC (.int 1)) aNil))) lg1__law_places lt1__law_places le1__law_places [2, 3]))
def m__law_places : MF := fn 2 4 [0, 1] b__law_places
def lg1__law_is_short : MG := (gN 3)
def le1__law_is_short : ME := (eN 3)
def lt1__law_is_short : MT := (tE (eOp (f2 pLe) [.s 3, .s 2]))
def lg2__law_is_short : MG := (gN 3)
def le2__law_is_short : ME := (eN 3)
def lt2__law_is_short : MT := (tE (eOp (f2 pLe) [.s 3, .s 2]))
def b__law_is_short : MS := (sRet (eOp (f2 pLt) [.v (eOp oLen [.v (eLc (iE (eN 0) lstItems) lg1__law_is_short lt1__law_is_short le1__law_is_short [3])]), .v (eOp oLen [.v (eLc (iE (eN 1) lstItems) lg2__law_is_short lt2__law_is_short le2__law_is_short [3])])]))
def m__law_is_short : MF := fn 3 4 [0, 1, 2] b__law_is_short
def lg1__law_obstacles : MG := (gN 7)
def le1__law_obstacles : ME := (eN 7)
def lt1__law_obstacles : MT := (tE (eCall m__law_is_short (aCons (eN 4) (aCons (eN 5) (aCons (eN 7) aNil)))))
def lg2__law_obstacles : MG := (gN 7)
def le2__law_obstacles : ME := (eTup (aCons (eOp oLen [.s 4]) (aCons (eN 7) aNil)))
def fg3__law_obstacles : MG := (gN 3)
def fb3__law_obstacles : MS := (sSeq (sAsg (eCall m__law_places (aCons (eN 1) (aCons (eN 3) aNil))) (gN 4)) (sIf (tE (eOp (f2 pLt) [.v (eOp oLen [.s 4]), .v (eOp oLen [.s 1])])) (sSeq (sAsg (eOp oIx [.s 0, .v (eOp oSub [.v (eOp oLen [.s 4]), .v (eC (.int 1))])]) (gN 5)) (sSeq (sAsg (eLc (iR2 (eC (.int 1)) (eOp oAdd [.v (eOp oLen [.s 1]), .v (eC (.int 1))])) lg1__law_obstacles lt1__law_obstacles le1__law_obstacles [7]) (gN 6)) (sAsg (eOp oAdd [.s 2, .v (eLc (iE (eN 6) lstItems) lg2__law_obstacles tYesM le2__law_obstacles [7])]) (gN 2)))) sNext))
def b__law_obstacles : MS := (sSeq (sAsg (eLst aNil) (gN 2)) (sSeq (sFor (iE (eOp oSortS [.s 1]) lstItems) fg3__law_obstacles fb3__law_obstacles) (sRet (eMv 2))))
def m__law_obstacles : MF := fn 2 8 [0, 1] b__law_obstacles
def fg1__law_candidates : MG := (gT [(gN 3), (gN 4)])
def fb1__law_candidates : MS := (sSeq (sAsg (eOp oAdd [.s 2, .v (eFz (eLst (aCons (eLst (aCons (eN 3) (aCons (eN 4) aNil))) (aCons (eTup (aCons (eN 3) (aCons (eN 4) (aCons (eC (.int 0)) aNil)))) (aCons (eTup (aCons (eN 4) aNil)) (aCons (eTup (aCons (eTup (aCons (eN 3) (aCons (eN 4) aNil))) aNil)) (aCons (eTup (aCons (eOp oStrI [.s 3]) (aCons (eN 4) aNil))) aNil)))))))]) (gN 2)) (sAsg (eOp oAdd [.s 2, .v (eLst (aCons (eTup (aCons (eN 3) (aCons (eC (.bl true)) aNil))) (aCons (eTup (aCons (eC (.bl true)) (aCons (eN 4) aNil))) (aCons (eTup (aCons (eN 3) (aCons (eOp oPow [.v (eC (.int 10)), .v (eC (.int 30))]) aNil))) (aCons (eTup (aCons (eN 3) (aCons (eOp oNeg [.s 4]) aNil))) aNil)))))]) (gN 2)))
def lg2__law_candidates : MG := (gN 4)
def le2__law_candidates : ME := (eTup (aCons (eN 3) (aCons (eN 4) aNil)))
def fg3__law_candidates : MG := (gN 3)
def fb3__law_candidates : MS := (sAsg (eOp oAdd [.s 2, .v (eLc (iR2 (eOp oNeg [.v (eC (.int 1))]) (eOp oAdd [.s 0, .v (eC (.int 3))])) lg2__law_candidates tYesM le2__law_candidates [4])]) (gN 2))
def b__law_candidates : MS := (sSeq (sAsg (eFz (eLst (aCons (eC .non) (aCons (eTup aNil) (aCons (eLst aNil) (aCons (eC (.int 0)) (aCons (eC (.bl true)) (aCons (eC (.str "1 1")) (aCons (eTup (aCons (eC (.int 1)) aNil)) (aCons (eTup (aCons (eC (.int 1)) (aCons (eC (.int 1)) (aCons (eC (.int 1)) aNil)))) (aCons (eLst (aCons (eC (.int 1)) (aCons (eC (.int 1)) aNil))) (aCons (eTup (aCons (eC .non) (aCons (eC (.int 1)) aNil))) (aCons (eTup (aCons (eC (.int 1)) (aCons (eC .non) aNil))) (aCons (eTup (aCons (eC (.str "1")) (aCons (eC (.int 1)) aNil))) (aCons (eTup (aCons (eC (.int 1)) (aCons (eC (.str "1")) aNil))) (aCons eDn aNil)))))))))))))))) (gN 2)) (sSeq (sFor (iE (eOp oS01 [.s 1, .v (eC (.int 3))]) lstItems) fg1__law_candidates fb1__law_candidates) (sSeq (sFor (iR2 (eOp oNeg [.v (eC (.int 1))]) (eOp oAdd [.s 0, .v (eC (.int 3))])) fg3__law_candidates fb3__law_candidates) (sRet (eMv 2)))))
def m__law_candidates : MF := fn 2 5 [0, 1] b__law_candidates
def b_is_any_integer : MS := (sRet (eAnd (eOp (oIsiB "int") [.s 0, .v (eC (.ty "int"))]) (eNot (eOp (oIsiB "bool") [.s 0, .v (eC (.ty "bool"))]))))
def m_is_any_integer : MF := fn 1 1 [0] b_is_any_integer
def fg1_check_integers : MG := (gT [(gN 1), (gN 2)])
def fb1_check_integers : MS := (sIf (tNotM (tE (eCall m_is_any_integer (aCons (eN 2) aNil)))) sFail sNext)
def b_check_integers : MS := (sFor (iEn (eN 0)) fg1_check_integers fb1_check_integers)
def m_check_integers : MF := fn 1 3 [0] b_check_integers
def b_check_values : MS := (sSeq (sIf (tOrM (tNotM (tE (eOp (oIsiB "list") [.s 1, .v (eC (.ty "list"))]))) (tE (eOp (f2 pNe) [.v (eOp oLen [.s 1]), .s 0]))) sFail sNext) (sExpr (eCall m_check_integers (aCons (eN 1) aNil))))
def m_check_values : MF := fn 2 2 [0, 1] b_check_values
def lg1_places_up_to : MG := (gT [(gN 2), (gN 3)])
def le1_places_up_to : ME := (eN 2)
def lt1_places_up_to : MT := (tE (eOp (f2 pLe) [.s 3, .s 1]))
def b_places_up_to : MS := (sRet (eLc (iEnK (aCons (eN 0) (aCons (eC (.int 1)) aNil))) lg1_places_up_to lt1_places_up_to le1_places_up_to [2, 3]))
def m_places_up_to : MF := fn 2 4 [0, 1] b_places_up_to
def b_Network_backwards : MS := (sRet (eMake 0 m_Network___init__ (aCons (eOp (oFld 0 "own_width") [.s 0]) (aCons (eOp oRevA [.v (eOp (oFld 0 "own_steps") [.s 0])]) aNil))))
def m_Network_backwards : MF := fn 1 1 [0] b_Network_backwards
def fg1_hardest : MG := (gN 2)
def fb1_hardest : MS := (sIf (tE (eOp (f2 pLt) [.v (eOp oIx [.s 1, .v (eOp oSub [.s 2, .v (eC (.int 1))])]), .v (eOp oIx [.s 1, .s 2])])) (sAsg (eTup (aCons (eOp oIx [.s 1, .s 2]) (aCons (eOp oIx [.s 1, .v (eOp oSub [.s 2, .v (eC (.int 1))])]) aNil))) (gT [(gIx 1 (eOp oSub [.s 2, .v (eC (.int 1))])), (gIx 1 (eN 2))])) sNext)
def b_hardest : MS := (sSeq (sAsg (eOp oLRg [.v (eC (.int 1)), .v (eOp oAdd [.v (eOp (oFld 0 "own_width") [.s 0]), .v (eC (.int 1))])]) (gN 1)) (sSeq (sFor (iE (eOp (oFld 0 "own_steps") [.v (eMth 0 "backwards" m_Network_backwards (eN 0) aNil)]) tupItems) fg1_hardest fb1_hardest) (sRet (eMv 1))))
def m_hardest : MF := fn 1 3 [0] b_hardest
def lg1_limits : MG := (gN 2)
def le1_limits : ME := (eCall m_places_up_to (aCons (eN 1) (aCons (eN 2) aNil)))
def b_limits : MS := (sSeq (sAsg (eCall m_hardest (aCons (eN 0) aNil)) (gN 1)) (sRet (eLc (iR2 (eC (.int 1)) (eOp (oFld 0 "own_width") [.s 0])) lg1_limits tYesM le1_limits [2])))
def m_limits : MF := fn 1 3 [0] b_limits
def lg1_is_obstacle : MG := (gN 7)
def le1_is_obstacle : ME := (eN 7)
def lt1_is_obstacle : MT := (tE (eOp (f2 pLe) [.s 7, .s 4]))
def lg2_is_obstacle : MG := (gN 7)
def le2_is_obstacle : ME := (eN 7)
def lt2_is_obstacle : MT := (tE (eOp (f2 pLe) [.s 7, .s 4]))
def b_is_obstacle : MS := (sSeq (sExpr (eCall m_check_values (aCons (eOp (oFld 0 "own_width") [.s 0]) (aCons (eN 1) aNil)))) (sSeq (sIf (tOrM (tNotM (tE (eOp (oIsiB "tuple") [.s 2, .v (eC (.ty "tuple"))]))) (tE (eOp (f2 pNe) [.v (eOp oLen [.s 2]), .v (eC (.int 2))]))) (sRet (eC (.bl false))) sNext) (sSeq (sAsg (eN 2) (gT [(gN 3), (gN 4)])) (sSeq (sIf (tOrM (tNotM (tE (eCall m_is_integer (aCons (eN 3) (aCons (eC (.int 1)) (aCons (eOp oSub [.v (eOp (oFld 0 "own_width") [.s 0]), .v (eC (.int 1))]) aNil)))))) (tNotM (tE (eCall m_is_integer (aCons (eN 4) (aCons (eC (.int 1)) (aCons (eOp (oFld 0 "own_width") [.s 0]) aNil))))))) (sRet (eC (.bl false))) sNext) (sSeq (sAsg (eCall m_places_up_to (aCons (eN 1) (aCons (eOp oIx [.v (eOp oSorted [.s 1]), .v (eOp oSub [.s 3, .v (eC (.int 1))])]) aNil))) (gN 5)) (sSeq (sAsg (eOp oIx [.v (eFz (eCall m_limits (aCons (eN 0) aNil))), .v (eOp oSub [.s 3, .v (eC (.int 1))])]) (gN 6)) (sRet (eAnd (eOp (f2 pEq) [.v (eOp oLen [.s 5]), .s 3]) (eOp (f2 pLt) [.v (eOp oLen [.v (eLc (iE (eN 5) lstItems) lg1_is_obstacle lt1_is_obstacle le1_is_obstacle [7])]), .v (eOp oLen [.v (eLc (iE (eN 6) lstItems) lg2_is_obstacle lt2_is_obstacle le2_is_obstacle [7])])])))))))))
def m_is_obstacle : MF := fn 3 8 [0, 1, 2] b_is_obstacle
def st1_law : MS := (sAsg (eCall m__law_source (aCons (eN 0) (aCons (eN 1) aNil))) (gN 2))
def st2_law : MS := (sAsg (eOp oAdd [.v (eC (.int 1)), .v (eCallL m__law_draw aNil 2 (aCons (eC (.int 6)) aNil))]) (gN 3))
def st3_law : MS := (sAsg (eCallL m__law_steps aNil 2 (aCons (eN 3) (aCons (eC (.int 12)) aNil))) (gN 4))
def lg4_law : MG := (gN 13)
def le4_law : ME := (eFz (eCall m__law_limit (aCons (eN 4) (aCons (eN 3) (aCons (eN 13) aNil)))))
def st5_law : MS := (sAsg (eLc (iR2 (eC (.int 1)) (eN 3)) lg4_law tYesM le4_law [13]) (gN 5))
def st6_law : MS := (sAsg (eMake 0 m_Network___init__ (aCons (eN 3) (aCons (eN 4) aNil))) (gN 6))
def st7_law : MS := (sAsg (eCallL m__law_values aNil 2 (aCons (eN 3) aNil)) (gN 8))
def st8_law : MS := (sAsg (eCall m__law_obstacles (aCons (eN 5) (aCons (eN 8) aNil))) (gN 9))
def lg9_law : MG := (gN 14)
def le9_law : ME := (eOp oReprV [.s 14])
def st10_law : MS := (sAsg (eLc (iE (eN 9) lstItems) lg9_law tYesM le9_law [14]) (gN 10))
def st11_law : MS := (sAsg (eOp oReprV [.v (eLst (aCons (eN 8) (aCons (eN 11) aNil)))]) (gN 12))
def st12_law : MS := (sRet (eC (.bl false)))
def st13_law : MS := (sIf (tE (eOp (f2 pNe) [.v (eOp oReprV [.v (eCall m_is_obstacle (aCons (eN 6) (aCons (eN 8) (aCons (eN 11) aNil))))]), .v (eOp oReprV [.v (eOp (oIn false) [.v (eOp oReprV [.s 11]), .s 10])])])) st12_law sNext)
def st14_law : MS := (sRet (eC (.bl false)))
def st15_law : MS := (sIf (tE (eOp (f2 pNe) [.v (eOp oReprV [.v (eLst (aCons (eN 8) (aCons (eN 11) aNil)))]), .s 12])) st14_law sNext)
def fg16_law : MG := (gN 11)
def fb16_law : MS := (sSeq st11_law (sSeq st13_law st15_law))
def fg18_law : MG := (gN 7)
def fb18_law : MS := (sSeq st7_law (sSeq st8_law (sSeq st10_law (sFor (iE (eFz (eCall m__law_candidates (aCons (eN 3) (aCons (eN 9) aNil)))) lstItems) fg16_law fb16_law))))
def fg20_law : MG := (gN 1)
def fb20_law : MS := (sSeq st1_law (sSeq st2_law (sSeq st3_law (sSeq st5_law (sSeq st6_law (sFor (iR1 (eC (.int 4))) fg18_law fb18_law))))))
def st22_law : MS := (sRet (eC (.bl true)))
def b_law : MS := (sSeq (sFor (iR1 (eOp oMax2 [.v (eC (.int 1)), .v (eOp oMin2 [.v (eOp oLen [.s 0]), .v (eC (.int 6))])])) fg20_law fb20_law) st22_law)
def m_law : MF := fn 1 15 [0] b_law
end Lw29

set_option maxHeartbeats 0
namespace Lw29
open PySem PySem.Spec PyProof.Rows L2 DL
theorem bt_abs : bootBuiltins "abs" = some (.builtin "abs") := by decide +kernel
theorem bt_bool : bootBuiltins "bool" = some (.type "bool") := by decide +kernel
theorem bt_int : bootBuiltins "int" = some (.type "int") := by decide +kernel
theorem bt_isinstance : bootBuiltins "isinstance" = some (.builtin "isinstance") := by decide +kernel
theorem bt_len : bootBuiltins "len" = some (.builtin "len") := by decide +kernel
theorem bt_list : bootBuiltins "list" = some (.type "list") := by decide +kernel
theorem bt_max : bootBuiltins "max" = some (.builtin "max") := by decide +kernel
theorem bt_min : bootBuiltins "min" = some (.builtin "min") := by decide +kernel
theorem bt_repr : bootBuiltins "repr" = some (.builtin "repr") := by decide +kernel
theorem bt_sorted : bootBuiltins "sorted" = some (.builtin "sorted") := by decide +kernel
theorem bt_str : bootBuiltins "str" = some (.type "str") := by decide +kernel
theorem bt_sum : bootBuiltins "sum" = some (.builtin "sum") := by decide +kernel
theorem bt_tuple : bootBuiltins "tuple" = some (.type "tuple") := by decide +kernel
/-! ### what the written part says -/
structure Tx (K : PySem.W.Frag) (mg : Str → Option Value) where
  f__law_source : Addr
  d__law_source : FuncData
  F__law_source : Fun K "_law_source" "_law_source" s__law_source f__law_source d__law_source
  B__law_source : Binds K d__law_source ["_law_script", "_law_k"] []
  g__law_source : mg "_law_source" = some (.ref f__law_source)
  f__law_draw : Addr
  d__law_draw : FuncData
  F__law_draw : Fun K "_law_draw" "_law_draw" s__law_draw f__law_draw d__law_draw
  B__law_draw : Binds K d__law_draw ["_law_source_here", "_law_count"] []
  g__law_draw : mg "_law_draw" = some (.ref f__law_draw)
  f__law_steps : Addr
  d__law_steps : FuncData
  F__law_steps : Fun K "_law_steps" "_law_steps" s__law_steps f__law_steps d__law_steps
  B__law_steps : Binds K d__law_steps ["_law_source_here", "_law_width", "_law_most"] []
  g__law_steps : mg "_law_steps" = some (.ref f__law_steps)
  f__law_sets : Addr
  d__law_sets : FuncData
  F__law_sets : Fun K "_law_sets" "_law_sets" s__law_sets f__law_sets d__law_sets
  B__law_sets : Binds K d__law_sets ["_law_width", "_law_count"] []
  g__law_sets : mg "_law_sets" = some (.ref f__law_sets)
  f__law_result : Addr
  d__law_result : FuncData
  F__law_result : Fun K "_law_result" "_law_result" s__law_result f__law_result d__law_result
  B__law_result : Binds K d__law_result ["_law_steps_here", "_law_values_here"] []
  g__law_result : mg "_law_result" = some (.ref f__law_result)
  f__law_moves_in_front : Addr
  d__law_moves_in_front : FuncData
  F__law_moves_in_front : Fun K "_law_moves_in_front" "_law_moves_in_front" s__law_moves_in_front f__law_moves_in_front d__law_moves_in_front
  B__law_moves_in_front : Binds K d__law_moves_in_front ["_law_steps_here", "_law_width", "_law_places_here"] []
  g__law_moves_in_front : mg "_law_moves_in_front" = some (.ref f__law_moves_in_front)
  f__law_is_nowhere_greater : Addr
  d__law_is_nowhere_greater : FuncData
  F__law_is_nowhere_greater : Fun K "_law_is_nowhere_greater" "_law_is_nowhere_greater" s__law_is_nowhere_greater f__law_is_nowhere_greater d__law_is_nowhere_greater
  B__law_is_nowhere_greater : Binds K d__law_is_nowhere_greater ["_law_places_here", "_law_bound"] []
  g__law_is_nowhere_greater : mg "_law_is_nowhere_greater" = some (.ref f__law_is_nowhere_greater)
  f__law_limit : Addr
  d__law_limit : FuncData
  F__law_limit : Fun K "_law_limit" "_law_limit" s__law_limit f__law_limit d__law_limit
  B__law_limit : Binds K d__law_limit ["_law_steps_here", "_law_width", "_law_count"] []
  g__law_limit : mg "_law_limit" = some (.ref f__law_limit)
  f_is_integer : Addr
  d_is_integer : FuncData
  F_is_integer : Fun K "is_integer" "is_integer" s_is_integer f_is_integer d_is_integer
  B_is_integer : Binds K d_is_integer ["value", "low", "high"] []
  g_is_integer : mg "is_integer" = some (.ref f_is_integer)
  f_check_width : Addr
  d_check_width : FuncData
  F_check_width : Fun K "check_width" "check_width" s_check_width f_check_width d_check_width
  B_check_width : Binds K d_check_width ["width"] []
  g_check_width : mg "check_width" = some (.ref f_check_width)
  f_check_steps : Addr
  d_check_steps : FuncData
  F_check_steps : Fun K "check_steps" "check_steps" s_check_steps f_check_steps d_check_steps
  B_check_steps : Binds K d_check_steps ["width", "steps"] []
  g_check_steps : mg "check_steps" = some (.ref f_check_steps)
  f_Network___init__ : Addr
  d_Network___init__ : FuncData
  F_Network___init__ : Fun K "__init__" "Network.__init__" s_Network___init__ f_Network___init__ d_Network___init__
  B_Network___init__ : Binds K d_Network___init__ ["self", "width", "steps"] []
  f__law_values : Addr
  d__law_values : FuncData
  F__law_values : Fun K "_law_values" "_law_values" s__law_values f__law_values d__law_values
  B__law_values : Binds K d__law_values ["_law_source_here", "_law_width"] []
  g__law_values : mg "_law_values" = some (.ref f__law_values)
  f__law_places : Addr
  d__law_places : FuncData
  F__law_places : Fun K "_law_places" "_law_places" s__law_places f__law_places d__law_places
  B__law_places : Binds K d__law_places ["_law_values_here", "_law_threshold"] []
  g__law_places : mg "_law_places" = some (.ref f__law_places)
  f__law_is_short : Addr
  d__law_is_short : FuncData
  F__law_is_short : Fun K "_law_is_short" "_law_is_short" s__law_is_short f__law_is_short d__law_is_short
  B__law_is_short : Binds K d__law_is_short ["_law_places_here", "_law_bound", "_law_place"] []
  g__law_is_short : mg "_law_is_short" = some (.ref f__law_is_short)
  f__law_obstacles : Addr
  d__law_obstacles : FuncData
  F__law_obstacles : Fun K "_law_obstacles" "_law_obstacles" s__law_obstacles f__law_obstacles d__law_obstacles
  B__law_obstacles : Binds K d__law_obstacles ["_law_bounds", "_law_values_here"] []
  g__law_obstacles : mg "_law_obstacles" = some (.ref f__law_obstacles)
  f__law_candidates : Addr
  d__law_candidates : FuncData
  F__law_candidates : Fun K "_law_candidates" "_law_candidates" s__law_candidates f__law_candidates d__law_candidates
  B__law_candidates : Binds K d__law_candidates ["_law_width", "_law_found"] []
  g__law_candidates : mg "_law_candidates" = some (.ref f__law_candidates)
  f_is_any_integer : Addr
  d_is_any_integer : FuncData
  F_is_any_integer : Fun K "is_any_integer" "is_any_integer" s_is_any_integer f_is_any_integer d_is_any_integer
  B_is_any_integer : Binds K d_is_any_integer ["value"] []
  g_is_any_integer : mg "is_any_integer" = some (.ref f_is_any_integer)
  f_check_integers : Addr
  d_check_integers : FuncData
  F_check_integers : Fun K "check_integers" "check_integers" s_check_integers f_check_integers d_check_integers
  B_check_integers : Binds K d_check_integers ["values"] []
  g_check_integers : mg "check_integers" = some (.ref f_check_integers)
  f_check_values : Addr
  d_check_values : FuncData
  F_check_values : Fun K "check_values" "check_values" s_check_values f_check_values d_check_values
  B_check_values : Binds K d_check_values ["width", "values"] []
  g_check_values : mg "check_values" = some (.ref f_check_values)
  f_places_up_to : Addr
  d_places_up_to : FuncData
  F_places_up_to : Fun K "places_up_to" "places_up_to" s_places_up_to f_places_up_to d_places_up_to
  B_places_up_to : Binds K d_places_up_to ["values", "threshold"] []
  g_places_up_to : mg "places_up_to" = some (.ref f_places_up_to)
  f_Network_backwards : Addr
  d_Network_backwards : FuncData
  F_Network_backwards : Fun K "backwards" "Network.backwards" s_Network_backwards f_Network_backwards d_Network_backwards
  B_Network_backwards : Binds K d_Network_backwards ["self"] []
  f_hardest : Addr
  d_hardest : FuncData
  F_hardest : Fun K "hardest" "hardest" s_hardest f_hardest d_hardest
  B_hardest : Binds K d_hardest ["network"] []
  g_hardest : mg "hardest" = some (.ref f_hardest)
  f_limits : Addr
  d_limits : FuncData
  F_limits : Fun K "limits" "limits" s_limits f_limits d_limits
  B_limits : Binds K d_limits ["network"] []
  g_limits : mg "limits" = some (.ref f_limits)
  f_is_obstacle : Addr
  d_is_obstacle : FuncData
  F_is_obstacle : Fun K "is_obstacle" "is_obstacle" s_is_obstacle f_is_obstacle d_is_obstacle
  B_is_obstacle : Binds K d_is_obstacle ["network", "values", "value"] []
  g_is_obstacle : mg "is_obstacle" = some (.ref f_is_obstacle)
  f_law : Addr
  d_law : FuncData
  F_law : Fun K "law" "law" s_law f_law d_law
  B_law : Binds K d_law ["_law_script"] []
  g_law : mg "law" = some (.ref f_law)
  c_Network : Addr
  g_Network : mg "Network" = some (.ref c_Network)
  cl_Network : Cls K c_Network
  mk_Network : Mk K c_Network f_Network___init__
  me_Network_backwards : Meth K c_Network "backwards" f_Network_backwards
  p_Network_steps : Addr
  f_Network_steps : Addr
  d_Network_steps : FuncData
  F_Network_steps : Fun K "steps" "Network.steps" s_Network_steps f_Network_steps d_Network_steps
  B_Network_steps : Binds K d_Network_steps ["self"] []
  pr_Network_steps : PropOf K c_Network "steps" p_Network_steps f_Network_steps
  p_Network_width : Addr
  f_Network_width : Addr
  d_Network_width : FuncData
  F_Network_width : Fun K "width" "Network.width" s_Network_width f_Network_width d_Network_width
  B_Network_width : Binds K d_Network_width ["self"] []
  pr_Network_width : PropOf K c_Network "width" p_Network_width f_Network_width
  na_Network_own_steps : NoAttr K c_Network "own_steps"
  na_Network_own_width : NoAttr K c_Network "own_width"
  mc_Network : Value
  rd_Network : ClX.CRead K c_Network mc_Network
  v_Network_MAX_STEPS : Value
  cv_Network_MAX_STEPS : ClX.CVal K c_Network mc_Network "MAX_STEPS" (.int 1000) v_Network_MAX_STEPS
  v_Network_MAX_WIDTH : Value
  cv_Network_MAX_WIDTH : ClX.CVal K c_Network mc_Network "MAX_WIDTH" (.int 40) v_Network_MAX_WIDTH
  z_abs : mg "abs" = none
  z_bool : mg "bool" = none
  z_enumerate : mg "enumerate" = none
  z_int : mg "int" = none
  z_isinstance : mg "isinstance" = none
  z_len : mg "len" = none
  z_list : mg "list" = none
  z_max : mg "max" = none
  z_min : mg "min" = none
  z_range : mg "range" = none
  z_repr : mg "repr" = none
  z_set : mg "set" = none
  z_sorted : mg "sorted" = none
  z_str : mg "str" = none
  z_sum : mg "sum" = none
  z_tuple : mg "tuple" = none
  z_zip : mg "zip" = none
section
variable {w : World} {P : Program} {base : Heap} {mg : Str → Option Value} {K : PySem.W.Frag}
def Tx.ca (T : Tx K mg) : Nat → Addr
  | 0 => T.c_Network
  | _ => 0
theorem ok_Network_steps (T : Tx K mg) : FnOk P w K mg base (L2.CX P w) 1 T.f_Network_steps T.d_Network_steps ["self"] (getSp (T.ca 0) "own_steps") := getter_ok T.F_Network_steps sc_Network_steps rfl rfl T.cl_Network T.na_Network_own_steps
theorem ok_Network_width (T : Tx K mg) : FnOk P w K mg base (L2.CX P w) 1 T.f_Network_width T.d_Network_width ["self"] (getSp (T.ca 0) "own_width") := getter_ok T.F_Network_width sc_Network_width rfl rfl T.cl_Network T.na_Network_own_width
theorem ok__law_source (T : Tx K mg) : FnG P w K mg base (L2.CX P w) 1 T.f__law_source (spM T.ca K m__law_source) := fn_okG (N := ["_law_script", "_law_k", "_law_cell", "_law_size", "_law_mixed"]) (n := 2) (L := [0, 1]) (mb := b__law_source) T.F__law_source T.B__law_source sc__law_source rfl fun cdv A outer s H E hr =>
  show CSs _ _ _ _ b__law_source from (css_cons (cs_set 2 sc__law_source.nd (ce_bin op_addA os_add (co_v (ce_bin op_mulA os_mul (co_v ce_int) (co_v (ce_callB (cr_sum rfl) (by rfl) T.z_sum bt_sum os_sum (.cons (co_v (ce_s01 (es 0) (co_v ce_int))) .nil) (hst := ⟨fun _ => rfl, trivial⟩))))) (es 1)))
    (css_cons (cs_if (ct_cmp (ce_cmp op_lt os_lt (es 1) (co_v (ce_callB call_len_seq (by rfl) T.z_len bt_len os_len (.cons (es 0) .nil) (hst := ⟨fun _ => rfl, trivial⟩))) (nomark _))) (css_one (cs_set 2 sc__law_source.nd (ce_ix ix_A os_ix (es 0) (es 1) (fun _ _ => rfl)))) css_nil)
    (css_cons (cs_set 3 sc__law_source.nd (ce_callB call_abs (by rfl) T.z_abs bt_abs os_abs (.cons (es 2) .nil) (hst := ⟨fun _ => rfl, trivial⟩)))
    (css_cons (cs_set 4 sc__law_source.nd (ce_bin op_mod os_mod (co_v (ce_bin op_mulA os_mul (co_v (ce_bin op_addA os_add (co_v (ce_bin op_addA os_add (co_v (ce_bin op_addA os_add (co_v (ce_bin op_mod os_mod (es 3) (co_v ce_int))) (co_v (ce_bin op_mulA os_mul (co_v (ce_bin op_mulA os_mul (co_v ce_int) (es 1))) (es 1))))) (co_v (ce_bin op_mulA os_mul (co_v ce_int) (es 1))))) (co_v ce_int))) (co_v ce_int))) (co_v ce_int)))
    (css_one (cs_ret (ce_lst (cl_cons (ce_bin op_mulA os_mul (es 3) (co_v (ce_callTy call_int1 (by rfl) T.z_int bt_int os_int (.cons (co_v (ce_cmp op_ge os_ge (es 3) (co_v (ce_bin op_pow os_pow (co_v ce_int) (co_v ce_int))) (nomark _))) .nil) (hst := ⟨fun _ => rfl, trivial⟩)))) (cl_cons (ce_bin op_mod os_mod (co_v (ce_bin op_mulA os_mul (es 4) (es 4))) (co_v ce_int)) cl_nil)) ⟨fun _ => rfl, ⟨fun _ => rfl, trivial⟩⟩)))))))
theorem ok__law_draw (T : Tx K mg) : FnG P w K mg base (L2.CX P w) 1 T.f__law_draw (spM T.ca K m__law_draw) := fn_okG (N := ["_law_source_here", "_law_count", "_law_result_here"]) (n := 2) (L := [0, 1]) (mb := b__law_draw) T.F__law_draw T.B__law_draw sc__law_draw rfl fun cdv A outer s H E hr =>
  show CSs _ _ _ _ b__law_draw from (css_cons (cs_if (ct_cmp (ce_cmp op_gt os_gt (co_v (ce_ix ix_A os_ix (es 0) (co_v ce_int) (fun _ _ => rfl))) (co_v ce_int) (nomark _))) (css_cons (cs_set 2 sc__law_draw.nd (ce_bin op_mod os_mod (co_v (ce_ix ix_A os_ix (es 0) (co_v ce_int) (fun _ _ => rfl))) (es 1)))
    (css_cons (cs_asgT (ce_bin op_fdivW os_div (co_v (ce_ix ix_A os_ix (es 0) (co_v ce_int) (fun _ _ => rfl))) (es 1)) (cg_ix (pv 0) ce_int (fun _ => rfl)))
    (css_one (cs_ret (emv 2))))) css_nil)
    (css_cons (cs_asgT (ce_bin op_mod os_mod (co_v (ce_bin op_addA os_add (co_v (ce_bin op_mulA os_mul (co_v (ce_ix ix_A os_ix (es 0) (co_v ce_int) (fun _ _ => rfl))) (co_v ce_int))) (co_v ce_int))) (co_v ce_int)) (cg_ix (pv 0) ce_int (fun _ => rfl)))
    (css_one (cs_ret (ce_bin op_mod os_mod (co_v (ce_bin op_fdivW os_div (co_v (ce_bin op_mod os_mod (co_v (ce_bin op_mulA os_mul (co_v (ce_ix ix_A os_ix (es 0) (co_v ce_int) (fun _ _ => rfl))) (co_v (ce_ix ix_A os_ix (es 0) (co_v ce_int) (fun _ _ => rfl))))) (co_v ce_int))) (co_v ce_int))) (es 1))))))
theorem os1__law_steps (T : Tx K mg) {cdv : Value} {A : Around} {outer : List Env} {s : Shared} {H : Hp} {E : XK} (hr : RoomG 1 (A.deeper (envOfC "_law_steps" (defScope s__law_steps) s.heap.objs.size T.f__law_steps cdv))) : CS T.ca (cxOf (L2.CX P w) P w K mg base ["_law_source_here", "_law_width", "_law_most", "_law_way", "_law_result_here", "_law_turn", "_law_step"] "_law_steps" (defScope s__law_steps) T.f__law_steps cdv A outer s H E) [0, 1, 2] (nthS (ifB (nthS (defBody s__law_steps) 0)) 0) st1__law_steps :=
  (cs_ret (ce_lst cl_nil trivial))
theorem os2__law_steps (T : Tx K mg) {cdv : Value} {A : Around} {outer : List Env} {s : Shared} {H : Hp} {E : XK} (hr : RoomG 1 (A.deeper (envOfC "_law_steps" (defScope s__law_steps) s.heap.objs.size T.f__law_steps cdv))) : CS T.ca (cxOf (L2.CX P w) P w K mg base ["_law_source_here", "_law_width", "_law_most", "_law_way", "_law_result_here", "_law_turn", "_law_step"] "_law_steps" (defScope s__law_steps) T.f__law_steps cdv A outer s H E) [0, 1, 2] (nthS (defBody s__law_steps) 0) st2__law_steps :=
  (cs_if (ct_cmp (ce_cmp (op_eqD hr.2.units) os_eq (es 1) (co_v ce_int) (nomark _))) (css_one (os1__law_steps T hr)) css_nil)
theorem os3__law_steps (T : Tx K mg) {cdv : Value} {A : Around} {outer : List Env} {s : Shared} {H : Hp} {E : XK} (hr : RoomG 1 (A.deeper (envOfC "_law_steps" (defScope s__law_steps) s.heap.objs.size T.f__law_steps cdv))) : CS T.ca (cxOf (L2.CX P w) P w K mg base ["_law_source_here", "_law_width", "_law_most", "_law_way", "_law_result_here", "_law_turn", "_law_step"] "_law_steps" (defScope s__law_steps) T.f__law_steps cdv A outer s H E) [0, 1, 2] (nthS (defBody s__law_steps) 1) st3__law_steps :=
  (cs_set 3 sc__law_steps.nd (ce_callLG _ _ _ (ok__law_draw T) (hr.mono (by decide)) (by rfl) T.g__law_draw T.F__law_draw.kp cl_nil (pv 0) (cl_cons ce_int cl_nil) rfl ⟨fun _ => rfl, ⟨fun _ => rfl, trivial⟩⟩))
theorem os4__law_steps (T : Tx K mg) {cdv : Value} {A : Around} {outer : List Env} {s : Shared} {H : Hp} {E : XK} (hr : RoomG 1 (A.deeper (envOfC "_law_steps" (defScope s__law_steps) s.heap.objs.size T.f__law_steps cdv))) : CS T.ca (cxOf (L2.CX P w) P w K mg base ["_law_source_here", "_law_width", "_law_most", "_law_way", "_law_result_here", "_law_turn", "_law_step"] "_law_steps" (defScope s__law_steps) T.f__law_steps cdv A outer s H E) [0, 1, 2] (nthS (defBody s__law_steps) 2) st4__law_steps :=
  (cs_set 4 sc__law_steps.nd (ce_lst cl_nil trivial))
theorem os5__law_steps (T : Tx K mg) {cdv : Value} {A : Around} {outer : List Env} {s : Shared} {H : Hp} {E : XK} (hr : RoomG 1 (A.deeper (envOfC "_law_steps" (defScope s__law_steps) s.heap.objs.size T.f__law_steps cdv))) : CS T.ca (cxOf (L2.CX P w) P w K mg base ["_law_source_here", "_law_width", "_law_most", "_law_way", "_law_result_here", "_law_turn", "_law_step"] "_law_steps" (defScope s__law_steps) T.f__law_steps cdv A outer s H E) [0, 1, 2] (nthS (forB (nthS (defBody s__law_steps) 3)) 0) st5__law_steps :=
  (cs_set 6 sc__law_steps.nd (ce_bin op_addA os_add (co_v ce_int) (co_v (ce_callLG _ _ _ (ok__law_draw T) (hr.mono (by decide)) (by rfl) T.g__law_draw T.F__law_draw.kp cl_nil (pv 0) (cl_cons (ce_bin op_sub os_sub (es 1) (co_v ce_int)) cl_nil) rfl ⟨fun _ => rfl, ⟨fun _ => rfl, trivial⟩⟩))))
theorem os6__law_steps (T : Tx K mg) {cdv : Value} {A : Around} {outer : List Env} {s : Shared} {H : Hp} {E : XK} (hr : RoomG 1 (A.deeper (envOfC "_law_steps" (defScope s__law_steps) s.heap.objs.size T.f__law_steps cdv))) : CS T.ca (cxOf (L2.CX P w) P w K mg base ["_law_source_here", "_law_width", "_law_most", "_law_way", "_law_result_here", "_law_turn", "_law_step"] "_law_steps" (defScope s__law_steps) T.f__law_steps cdv A outer s H E) [0, 1, 2] (nthS (ifB (nthS (forB (nthS (defBody s__law_steps) 3)) 1)) 0) st6__law_steps :=
  (cs_set 6 sc__law_steps.nd (ce_callB (call_min2 rfl) (by rfl) T.z_min bt_min os_min2 (.cons (co_v (ce_bin op_sub os_sub (es 1) (co_v ce_int))) (.cons (co_v (ce_callB (call_max2 rfl) (by rfl) T.z_max bt_max os_max2 (.cons (co_v ce_int) (.cons (co_v (ce_bin op_addA os_add (co_v (ce_ix ix_A os_ix (es 4) (co_v (ce_un un_neg os_neg (co_v ce_int))) (fun _ _ => rfl))) (co_v (ce_ix ix_A os_ix (co_v (ce_lst (cl_cons ce_int (cl_cons ce_int (cl_cons (ce_un un_neg os_neg (co_v ce_int)) (cl_cons ce_int cl_nil)))) ⟨fun _ => rfl, ⟨fun _ => rfl, ⟨fun _ => rfl, ⟨fun _ => rfl, trivial⟩⟩⟩⟩)) (co_v (ce_callLG _ _ _ (ok__law_draw T) (hr.mono (by decide)) (by rfl) T.g__law_draw T.F__law_draw.kp cl_nil (pv 0) (cl_cons ce_int cl_nil) rfl ⟨fun _ => rfl, ⟨fun _ => rfl, trivial⟩⟩)) (fun _ _ => rfl))))) .nil)) (hst := ⟨fun _ => rfl, ⟨fun _ => rfl, trivial⟩⟩))) .nil)) (hst := ⟨fun _ => rfl, ⟨fun _ => rfl, trivial⟩⟩)))
theorem os7__law_steps (T : Tx K mg) {cdv : Value} {A : Around} {outer : List Env} {s : Shared} {H : Hp} {E : XK} (hr : RoomG 1 (A.deeper (envOfC "_law_steps" (defScope s__law_steps) s.heap.objs.size T.f__law_steps cdv))) : CS T.ca (cxOf (L2.CX P w) P w K mg base ["_law_source_here", "_law_width", "_law_most", "_law_way", "_law_result_here", "_law_turn", "_law_step"] "_law_steps" (defScope s__law_steps) T.f__law_steps cdv A outer s H E) [0, 1, 2] (nthS (forB (nthS (defBody s__law_steps) 3)) 1) st7__law_steps :=
  (cs_if (ct_w (cw_and (ct_cmp (ce_cmp (op_eqD hr.2.units) os_eq (es 3) (co_v ce_int) (nomark _))) (cw_and1 (ct_cmp (ce_cmp (op_neD hr.2.units) os_ne (es 4) (co_v (ce_lst cl_nil trivial)) (nomark _)))))) (css_one (os6__law_steps T hr)) css_nil)
theorem os8__law_steps (T : Tx K mg) {cdv : Value} {A : Around} {outer : List Env} {s : Shared} {H : Hp} {E : XK} (hr : RoomG 1 (A.deeper (envOfC "_law_steps" (defScope s__law_steps) s.heap.objs.size T.f__law_steps cdv))) : CS T.ca (cxOf (L2.CX P w) P w K mg base ["_law_source_here", "_law_width", "_law_most", "_law_way", "_law_result_here", "_law_turn", "_law_step"] "_law_steps" (defScope s__law_steps) T.f__law_steps cdv A outer s H E) [0, 1, 2] (nthS (ifB (nthS (forB (nthS (defBody s__law_steps) 3)) 2)) 0) st8__law_steps :=
  (cs_set 6 sc__law_steps.nd (ce_bin op_addA os_add (co_v ce_int) (co_v (ce_bin op_mod os_mod (es 5) (co_v (ce_bin op_sub os_sub (es 1) (co_v ce_int)))))))
theorem os9__law_steps (T : Tx K mg) {cdv : Value} {A : Around} {outer : List Env} {s : Shared} {H : Hp} {E : XK} (hr : RoomG 1 (A.deeper (envOfC "_law_steps" (defScope s__law_steps) s.heap.objs.size T.f__law_steps cdv))) : CS T.ca (cxOf (L2.CX P w) P w K mg base ["_law_source_here", "_law_width", "_law_most", "_law_way", "_law_result_here", "_law_turn", "_law_step"] "_law_steps" (defScope s__law_steps) T.f__law_steps cdv A outer s H E) [0, 1, 2] (nthS (forB (nthS (defBody s__law_steps) 3)) 2) st9__law_steps :=
  (cs_if (ct_cmp (ce_cmp (op_eqD hr.2.units) os_eq (es 3) (co_v ce_int) (nomark _))) (css_one (os8__law_steps T hr)) css_nil)
theorem os10__law_steps (T : Tx K mg) {cdv : Value} {A : Around} {outer : List Env} {s : Shared} {H : Hp} {E : XK} (hr : RoomG 1 (A.deeper (envOfC "_law_steps" (defScope s__law_steps) s.heap.objs.size T.f__law_steps cdv))) : CS T.ca (cxOf (L2.CX P w) P w K mg base ["_law_source_here", "_law_width", "_law_most", "_law_way", "_law_result_here", "_law_turn", "_law_step"] "_law_steps" (defScope s__law_steps) T.f__law_steps cdv A outer s H E) [0, 1, 2] (nthS (forB (nthS (defBody s__law_steps) 3)) 3) st10__law_steps :=
  (cs_expr (ce_app (pv 4) (en 6)))
theorem os12__law_steps (T : Tx K mg) {cdv : Value} {A : Around} {outer : List Env} {s : Shared} {H : Hp} {E : XK} (hr : RoomG 1 (A.deeper (envOfC "_law_steps" (defScope s__law_steps) s.heap.objs.size T.f__law_steps cdv))) : CS T.ca (cxOf (L2.CX P w) P w K mg base ["_law_source_here", "_law_width", "_law_most", "_law_way", "_law_result_here", "_law_turn", "_law_step"] "_law_steps" (defScope s__law_steps) T.f__law_steps cdv A outer s H E) [0, 1, 2] (nthS (defBody s__law_steps) 3) (sFor (iR1 (eCallL m__law_draw aNil 0 (aCons (eOp oAdd [.s 2, .v (eC (.int 1))]) aNil))) fg11__law_steps fb11__law_steps) :=
  (cs_for (ci_range1 (by rfl) T.z_range (ce_callLG _ _ _ (ok__law_draw T) (hr.mono (by decide)) (by rfl) T.g__law_draw T.F__law_draw.kp cl_nil (pv 0) (cl_cons (ce_bin op_addA os_add (es 2) (co_v ce_int)) cl_nil) rfl ⟨fun _ => rfl, ⟨fun _ => rfl, trivial⟩⟩)) (gn 5 sc__law_steps.nd) (css_cons (os5__law_steps T hr)
    (css_cons (os7__law_steps T hr)
    (css_cons (os9__law_steps T hr)
    (css_one (os10__law_steps T hr))))) (passes_of rfl) rfl)
theorem os13__law_steps (T : Tx K mg) {cdv : Value} {A : Around} {outer : List Env} {s : Shared} {H : Hp} {E : XK} (hr : RoomG 1 (A.deeper (envOfC "_law_steps" (defScope s__law_steps) s.heap.objs.size T.f__law_steps cdv))) : CS T.ca (cxOf (L2.CX P w) P w K mg base ["_law_source_here", "_law_width", "_law_most", "_law_way", "_law_result_here", "_law_turn", "_law_step"] "_law_steps" (defScope s__law_steps) T.f__law_steps cdv A outer s H E) [0, 1, 2] (nthS (defBody s__law_steps) 4) st13__law_steps :=
  (cs_ret (emv 4))
theorem ok__law_steps (T : Tx K mg) : FnG P w K mg base (L2.CX P w) 2 T.f__law_steps (spM T.ca K m__law_steps) := fn_okG (N := ["_law_source_here", "_law_width", "_law_most", "_law_way", "_law_result_here", "_law_turn", "_law_step"]) (n := 3) (L := [0, 1, 2]) (mb := b__law_steps) T.F__law_steps T.B__law_steps sc__law_steps rfl fun cdv A outer s H E hr =>
  show CSs _ _ _ _ b__law_steps from (css_cons (os2__law_steps T hr)
    (css_cons (os3__law_steps T hr)
    (css_cons (os4__law_steps T hr)
    (css_cons (os12__law_steps T hr)
    (css_one (os13__law_steps T hr))))))
theorem ok__law_sets (T : Tx K mg) : FnG P w K mg base (L2.CX P w) 1 T.f__law_sets (spM T.ca K m__law_sets) := fn_okG (N := ["_law_width", "_law_count", "_law_result_here", "_law_place", "_law_row"]) (n := 2) (L := [0, 1]) (mb := b__law_sets) T.F__law_sets T.B__law_sets sc__law_sets rfl fun cdv A outer s H E hr =>
  show CSs _ _ _ _ b__law_sets from (css_cons (cs_set 2 sc__law_sets.nd (ce_fz (ce_lst (cl_cons (ce_lst cl_nil trivial) cl_nil) ⟨fun _ => rfl, trivial⟩)))
    (css_cons (cs_for (ci_range2 (by rfl) T.z_range ce_int (ce_bin op_addA os_add (es 0) (co_v ce_int))) (gn 3 sc__law_sets.nd (hx := .inr rfl)) (css_one (cs_set 2 sc__law_sets.nd (ce_bin op_addA os_add (es 2) (co_v (ce_fz (ce_lcIf (own := [("_law_row", 4)]) rfl sc__law_sets.nd (ci_list (pi_list (we_pe _ _)) (en 2)) (blk_of rfl (by kernel_rfl)) (fun _ _ _ _ _ _ => (gb 4 sc__law_sets.nd)) (fun _ _ _ _ _ => (ct_cmp (ce_cmp op_lt os_lt (co_v (ce_callB call_len_seq (by rfl) T.z_len bt_len os_len (.cons (es 4) .nil) (hst := ⟨fun _ => rfl, trivial⟩))) (es 1) (nomark _)))) (fun _ _ _ _ _ => (ce_bin op_addA os_add (es 4) (co_v (ce_lst (cl_cons (en 3) cl_nil) ⟨fun _ => rfl, trivial⟩)))))))))) (passes_of rfl) rfl)
    (css_one (cs_ret (ce_lcIf (own := [("_law_row", 4)]) rfl sc__law_sets.nd (ci_list (pi_list (we_pe _ _)) (en 2)) (blk_of rfl (by kernel_rfl)) (fun _ _ _ _ _ _ => (gb 4 sc__law_sets.nd)) (fun _ _ _ _ _ => (ct_cmp (ce_cmp (op_eqD hr.2.units) os_eq (co_v (ce_callB call_len_seq (by rfl) T.z_len bt_len os_len (.cons (es 4) .nil) (hst := ⟨fun _ => rfl, trivial⟩))) (es 1) (nomark _)))) (fun _ _ _ _ _ => (en 4)))))))
theorem ok__law_result (T : Tx K mg) : FnG P w K mg base (L2.CX P w) 1 T.f__law_result (spM T.ca K m__law_result) := fn_okG (N := ["_law_steps_here", "_law_values_here", "_law_result_here", "_law_step", "_law_left", "_law_right"]) (n := 2) (L := [0, 1]) (mb := b__law_result) T.F__law_result T.B__law_result sc__law_result rfl fun cdv A outer s H E hr =>
  show CSs _ _ _ _ b__law_result from (css_cons (cs_set 2 sc__law_result.nd (ce_callTy call_list_of (by rfl) T.z_list bt_list os_list (.cons (es 1) .nil) (hst := ⟨fun _ => rfl, trivial⟩)))
    (css_cons (cs_for (ci_or (ci_list (pi_list (we_pe _ _)) (en 0)) (ci_tup (pi_tup (we_pe _ _)) (en 0)) (iEA_or _)) (gn 3 sc__law_result.nd) (css_cons (cs_par (i := 4) (j := 5) rfl sc__law_result.nd rfl rfl (by decide) rfl rfl (by decide) (by decide) (cl_cons (ce_ix ix_A os_ix (es 2) (co_v (ce_bin op_sub os_sub (es 3) (co_v ce_int))) (fun _ _ => rfl)) (cl_cons (ce_ix ix_A os_ix (es 2) (es 3) (fun _ _ => rfl)) cl_nil)) ⟨fun _ => rfl, ⟨fun _ => rfl, trivial⟩⟩ (by rfl))
    (css_one (cs_if (ct_cmp (ce_cmp op_gt os_gt (es 4) (es 5) (nomark _))) (css_cons (cs_asgT (en 5) (cg_ix (pv 2) (ce_bin op_sub os_sub (es 3) (co_v ce_int)) (fun _ => rfl)))
    (css_one (cs_asgT (en 4) (cg_ix (pv 2) (en 3) (fun _ => rfl))))) css_nil))) (passes_of rfl) rfl)
    (css_one (cs_ret (emv 2)))))
theorem ok__law_moves_in_front (T : Tx K mg) : FnG P w K mg base (L2.CX P w) 2 T.f__law_moves_in_front (spM T.ca K m__law_moves_in_front) := fn_okG (N := ["_law_steps_here", "_law_width", "_law_places_here", "_law_values_here", "_law_place"]) (n := 3) (L := [0, 1, 2]) (mb := b__law_moves_in_front) T.F__law_moves_in_front T.B__law_moves_in_front sc__law_moves_in_front rfl fun cdv A outer s H E hr =>
  show CSs _ _ _ _ b__law_moves_in_front from (css_cons (cs_setLc (own := [("_law_place", 4)]) (i := 3) rfl sc__law_moves_in_front.nd rfl rfl (by decide) (gn (ca := T.ca) (L := []) 3 sc__law_moves_in_front.nd).1 (by rfl) (ci_range2 (by rfl) T.z_range ce_int (ce_bin op_addA os_add (es 1) (co_v ce_int))) (blk_of rfl (by kernel_rfl)) (fun _ _ _ _ _ _ => (gb 4 sc__law_moves_in_front.nd)) (fun _ _ _ _ _ => (ce_callTy call_int1 (by rfl) T.z_int bt_int os_int (.cons (co_v (ce_cmp op_notIn_seq (os_in (neg := true)) (es 4) (es 2) (by rfl))) .nil) (hst := ⟨fun _ => rfl, trivial⟩))))
    (css_one (cs_ret (ce_cmp (op_eqD hr.2.units) os_eq (co_v (ce_callB (cr_sum rfl) (by rfl) T.z_sum bt_sum os_sum (.cons (co_v (ce_s01 (co_v (ce_callR (ok__law_result T) (hr.mono (by decide)) (by rfl) T.g__law_result T.F__law_result.kp (cl_cons (en 0) (cl_cons (en 3) cl_nil)) ⟨fun _ => rfl, ⟨fun _ => rfl, trivial⟩⟩)) (co_v (ce_callB call_len_seq (by rfl) T.z_len bt_len os_len (.cons (es 2) .nil) (hst := ⟨fun _ => rfl, trivial⟩))))) .nil) (hst := ⟨fun _ => rfl, trivial⟩))) (co_v ce_int) (nomark _)))))
theorem ok__law_is_nowhere_greater (T : Tx K mg) : FnG P w K mg base (L2.CX P w) 1 T.f__law_is_nowhere_greater (spM T.ca K m__law_is_nowhere_greater) := fn_okG (N := ["_law_places_here", "_law_bound", "_law_one", "_law_other"]) (n := 2) (L := [0, 1]) (mb := b__law_is_nowhere_greater) T.F__law_is_nowhere_greater T.B__law_is_nowhere_greater sc__law_is_nowhere_greater rfl fun cdv A outer s H E hr =>
  show CSs _ _ _ _ b__law_is_nowhere_greater from (css_one (cs_ret (ce_cmp (op_eqD hr.2.units) os_eq (co_v (ce_lcIf (own := [("_law_one", 2), ("_law_other", 3)]) rfl sc__law_is_nowhere_greater.nd (ci_zip (by rfl) T.z_zip (cl_cons (en 0) (cl_cons (en 1) cl_nil))) (blk_of rfl (by kernel_rfl)) (fun _ _ _ _ _ _ => (cg_tupB rfl (cgs_cons (gb 2 sc__law_is_nowhere_greater.nd) (cgs_cons (gb 3 sc__law_is_nowhere_greater.nd) cgs_nil (by rfl)) (by rfl)) rfl)) (fun _ _ _ _ _ => (ct_cmp (ce_cmp op_gt os_gt (es 2) (es 3) (nomark _)))) (fun _ _ _ _ _ => (en 2)))) (co_v (ce_lst cl_nil trivial)) (nomark _))))
theorem ok__law_limit (T : Tx K mg) : FnG P w K mg base (L2.CX P w) 3 T.f__law_limit (spM T.ca K m__law_limit) := fn_okG (N := ["_law_steps_here", "_law_width", "_law_count", "_law_good", "_law_bound", "_law_row"]) (n := 3) (L := [0, 1, 2]) (mb := b__law_limit) T.F__law_limit T.B__law_limit sc__law_limit rfl fun cdv A outer s H E hr =>
  show CSs _ _ _ _ b__law_limit from (css_cons (cs_setLcIf (own := [("_law_row", 5)]) (i := 3) rfl sc__law_limit.nd rfl rfl (by decide) (gn (ca := T.ca) (L := []) 3 sc__law_limit.nd).1 (by rfl) (ci_list (pi_list (we_pe _ _)) (ce_fz (ce_callR (ok__law_sets T) (hr.mono (by decide)) (by rfl) T.g__law_sets T.F__law_sets.kp (cl_cons (en 1) (cl_cons (en 2) cl_nil)) ⟨fun _ => rfl, ⟨fun _ => rfl, trivial⟩⟩))) (blk_of rfl (by kernel_rfl)) (fun _ _ _ _ _ _ => (gb 5 sc__law_limit.nd)) (fun _ _ _ _ _ => (ct_val (ce_callR (ok__law_moves_in_front T) (hr.mono (by decide)) (by rfl) T.g__law_moves_in_front T.F__law_moves_in_front.kp (cl_cons (en 0) (cl_cons (en 1) (cl_cons (en 5) cl_nil))) ⟨fun _ => rfl, ⟨fun _ => rfl, ⟨fun _ => rfl, trivial⟩⟩⟩))) (fun _ _ _ _ _ => (en 5)))
    (css_cons (cs_for (ci_list (pi_list (we_pe _ _)) (en 3)) (gn 4 sc__law_limit.nd (hx := .inr rfl)) (css_one (cs_if (ct_cmp (ce_cmp (op_eqD hr.2.units) os_eq (co_v (ce_lcIf (own := [("_law_row", 5)]) rfl sc__law_limit.nd (ci_list (pi_list (we_pe _ _)) (en 3)) (blk_of rfl (by kernel_rfl)) (fun _ _ _ _ _ _ => (gb 5 sc__law_limit.nd)) (fun _ _ _ _ _ => (ct_not (ct_val (ce_callR (ok__law_is_nowhere_greater T) (hr.mono (by decide)) (by rfl) T.g__law_is_nowhere_greater T.F__law_is_nowhere_greater.kp (cl_cons (en 5) (cl_cons (en 4) cl_nil)) ⟨fun _ => rfl, ⟨fun _ => rfl, trivial⟩⟩)))) (fun _ _ _ _ _ => (en 5)))) (co_v (ce_lst cl_nil trivial)) (nomark _))) (css_one (cs_ret (emv 4))) css_nil)) (passes_of rfl) rfl)
    (css_one (cs_ret ce_non))))
theorem ok_is_integer (T : Tx K mg) : FnG P w K mg base (L2.CX P w) 1 T.f_is_integer (spM T.ca K m_is_integer) := fn_okG (N := ["value", "low", "high"]) (n := 3) (L := [0, 1, 2]) (mb := b_is_integer) T.F_is_integer T.B_is_integer sc_is_integer rfl fun cdv A outer s H E hr =>
  show CSs _ _ _ _ b_is_integer from (css_one (cs_ret (ce_and' (ce_callB call_isi (by rfl) T.z_isinstance bt_isinstance (os_isiB (T := "int")) (.cons (es 0) (.cons (co_v (ce_ty (by rfl) T.z_int bt_int)) .nil)) (hst := ⟨fun _ => rfl, ⟨fun _ => rfl, trivial⟩⟩)) (ce_and (ce_not (ce_callB call_isi (by rfl) T.z_isinstance bt_isinstance (os_isiB (T := "bool")) (.cons (es 0) (.cons (co_v (ce_ty (by rfl) T.z_bool bt_bool)) .nil)) (hst := ⟨fun _ => rfl, ⟨fun _ => rfl, trivial⟩⟩))) (ce_chain op_le op_le os_le os_le (en 1) (en 0) (en 2))))))
theorem ok_check_width (T : Tx K mg) : FnG P w K mg base (L2.CX P w) 2 T.f_check_width (spM T.ca K m_check_width) := fn_okG (N := ["width"]) (n := 1) (L := [0]) (mb := b_check_width) T.F_check_width T.B_check_width sc_check_width rfl fun cdv A outer s H E hr =>
  show CSs _ _ _ _ b_check_width from (css_one (cs_if (ct_not (ct_val (ce_callR (ok_is_integer T) (hr.mono (by decide)) (by rfl) T.g_is_integer T.F_is_integer.kp (cl_cons (en 0) (cl_cons ce_int (cl_cons (ce_cval (by rfl) T.g_Network T.rd_Network T.cv_Network_MAX_WIDTH fun _ _ => .int) cl_nil))) ⟨fun _ => rfl, ⟨fun _ => rfl, ⟨fun _ => rfl, trivial⟩⟩⟩))) css_fail css_nil))
theorem ok_check_steps (T : Tx K mg) : FnG P w K mg base (L2.CX P w) 2 T.f_check_steps (spM T.ca K m_check_steps) := fn_okG (N := ["width", "steps", "index", "step"]) (n := 2) (L := [0, 1]) (mb := b_check_steps) T.F_check_steps T.B_check_steps sc_check_steps rfl fun cdv A outer s H E hr =>
  show CSs _ _ _ _ b_check_steps from (css_cons (cs_if (ct_w (cw_or (ct_not (ct_val (ce_callB call_isiT (by rfl) T.z_isinstance bt_isinstance os_isi2 (.cons (es 1) (.cons (co_v (ce_tup (cl_cons (ce_ty (by rfl) T.z_list bt_list) (cl_cons (ce_ty (by rfl) T.z_tuple bt_tuple) cl_nil)) ⟨fun _ => rfl, ⟨fun _ => rfl, trivial⟩⟩)) .nil)) (hst := ⟨fun _ => rfl, ⟨fun _ => rfl, trivial⟩⟩)))) (cw_or1 (ct_cmp (ce_cmp op_gt os_gt (co_v (ce_callB call_len_seq (by rfl) T.z_len bt_len os_len (.cons (es 1) .nil) (hst := ⟨fun _ => rfl, trivial⟩))) (co_v (ce_cval (by rfl) T.g_Network T.rd_Network T.cv_Network_MAX_STEPS fun _ _ => .int)) (nomark _)))))) css_fail css_nil)
    (css_one (cs_for (ci_or (ci_enum (by rfl) T.z_enumerate (en 1)) (ci_enumT (by rfl) T.z_enumerate (en 1)) (iEnA_or _)) (cg_tup rfl (cgs_cons (gn 2 sc_check_steps.nd) (cgs_cons (gn 3 sc_check_steps.nd) cgs_nil (by rfl)) (by rfl)) rfl) (css_one (cs_if (ct_not (ct_val (ce_callR (ok_is_integer T) (hr.mono (by decide)) (by rfl) T.g_is_integer T.F_is_integer.kp (cl_cons (en 3) (cl_cons ce_int (cl_cons (ce_bin op_sub os_sub (es 0) (co_v ce_int)) cl_nil))) ⟨fun _ => rfl, ⟨fun _ => rfl, ⟨fun _ => rfl, trivial⟩⟩⟩))) css_fail css_nil)) (passes_of rfl) rfl)))
theorem ok_Network___init__ (T : Tx K mg) : FnG P w K mg base (L2.CX P w) 3 T.f_Network___init__ (spM T.ca K m_Network___init__) := fn_okG (N := ["self", "width", "steps"]) (n := 3) (L := [0, 1, 2]) (mb := b_Network___init__) T.F_Network___init__ T.B_Network___init__ sc_Network___init__ rfl fun cdv A outer s H E hr =>
  show CSs _ _ _ _ b_Network___init__ from (css_cons (cs_expr (ce_callR (ok_check_width T) (hr.mono (by decide)) (by rfl) T.g_check_width T.F_check_width.kp (cl_cons (en 1) cl_nil) ⟨fun _ => rfl, trivial⟩))
    (css_cons (cs_expr (ce_callR (ok_check_steps T) (hr.mono (by decide)) (by rfl) T.g_check_steps T.F_check_steps.kp (cl_cons (en 1) (cl_cons (en 2) cl_nil)) ⟨fun _ => rfl, ⟨fun _ => rfl, trivial⟩⟩))
    (css_cons (cs_fld (C := 0) T.cl_Network T.na_Network_own_width (pv 0) (en 1))
    (css_one (cs_fld (C := 0) T.cl_Network T.na_Network_own_steps (pv 0) (ce_callTy call_tuple_of (by rfl) T.z_tuple bt_tuple os_tuple (.cons (es 2) .nil) (hst := ⟨fun _ => rfl, trivial⟩)))))))
theorem ok__law_values (T : Tx K mg) : FnG P w K mg base (L2.CX P w) 2 T.f__law_values (spM T.ca K m__law_values) := fn_okG (N := ["_law_source_here", "_law_width", "_law_size", "_law_place"]) (n := 2) (L := [0, 1]) (mb := b__law_values) T.F__law_values T.B__law_values sc__law_values rfl fun cdv A outer s H E hr =>
  show CSs _ _ _ _ b__law_values from (css_cons (cs_set 2 sc__law_values.nd (ce_ix ix_A os_ix (co_v (ce_lst (cl_cons ce_int (cl_cons ce_int (cl_cons (ce_bin op_addA os_add (es 1) (co_v ce_int)) (cl_cons (ce_bin op_pow os_pow (co_v ce_int) (co_v ce_int)) cl_nil)))) ⟨fun _ => rfl, ⟨fun _ => rfl, ⟨fun _ => rfl, ⟨fun _ => rfl, trivial⟩⟩⟩⟩)) (co_v (ce_callLG _ _ _ (ok__law_draw T) (hr.mono (by decide)) (by rfl) T.g__law_draw T.F__law_draw.kp cl_nil (pv 0) (cl_cons ce_int cl_nil) rfl ⟨fun _ => rfl, ⟨fun _ => rfl, trivial⟩⟩)) (fun _ _ => rfl)) (hs := by kernel_rfl) (hx := .inr rfl))
    (css_one (cs_ret (ce_lc (own := [("_law_place", 3)]) rfl sc__law_values.nd (ci_range1 (by rfl) T.z_range (en 1)) (blk_of rfl (by kernel_rfl)) (fun _ _ _ _ _ _ => (gb 3 sc__law_values.nd)) (fun _ _ _ _ _ => (ce_bin op_sub os_sub (co_v (ce_callLG _ _ _ (ok__law_draw T) (hr.mono (by decide)) (by rfl) T.g__law_draw T.F__law_draw.kp cl_nil (pv 0) (cl_cons (en 2) cl_nil) rfl ⟨fun _ => rfl, ⟨fun _ => rfl, trivial⟩⟩)) (co_v (ce_bin op_fdivW os_div (es 2) (co_v ce_int)))))))))
theorem ok__law_places (T : Tx K mg) : FnG P w K mg base (L2.CX P w) 1 T.f__law_places (spM T.ca K m__law_places) := fn_okG (N := ["_law_values_here", "_law_threshold", "_law_place", "_law_value"]) (n := 2) (L := [0, 1]) (mb := b__law_places) T.F__law_places T.B__law_places sc__law_places rfl fun cdv A outer s H E hr =>
  show CSs _ _ _ _ b__law_places from (css_one (cs_ret (ce_lcIf (own := [("_law_place", 2), ("_law_value", 3)]) rfl sc__law_places.nd (ci_enumK (by rfl) T.z_enumerate (cl_cons (en 0) (cl_cons ce_int cl_nil))) (blk_of rfl (by kernel_rfl)) (fun _ _ _ _ _ _ => (cg_tupB rfl (cgs_cons (gb 2 sc__law_places.nd) (cgs_cons (gb 3 sc__law_places.nd) cgs_nil (by rfl)) (by rfl)) rfl)) (fun _ _ _ _ _ => (ct_cmp (ce_cmp op_le os_le (es 3) (es 1) (nomark _)))) (fun _ _ _ _ _ => (en 2)))))
theorem ok__law_is_short (T : Tx K mg) : FnG P w K mg base (L2.CX P w) 1 T.f__law_is_short (spM T.ca K m__law_is_short) := fn_okG (N := ["_law_places_here", "_law_bound", "_law_place", "_law_one"]) (n := 3) (L := [0, 1, 2]) (mb := b__law_is_short) T.F__law_is_short T.B__law_is_short sc__law_is_short rfl fun cdv A outer s H E hr =>
  show CSs _ _ _ _ b__law_is_short from (css_one (cs_ret (ce_cmp op_lt os_lt (co_v (ce_callB call_len_seq (by rfl) T.z_len bt_len os_len (.cons (co_v (ce_lcIf (own := [("_law_one", 3)]) rfl sc__law_is_short.nd (ci_list (pi_list (we_pe _ _)) (en 0)) (blk_of rfl (by kernel_rfl)) (fun _ _ _ _ _ _ => (gb 3 sc__law_is_short.nd)) (fun _ _ _ _ _ => (ct_cmp (ce_cmp op_le os_le (es 3) (es 2) (nomark _)))) (fun _ _ _ _ _ => (en 3)))) .nil) (hst := ⟨fun _ => rfl, trivial⟩))) (co_v (ce_callB call_len_seq (by rfl) T.z_len bt_len os_len (.cons (co_v (ce_lcIf (own := [("_law_one", 3)]) rfl sc__law_is_short.nd (ci_list (pi_list (we_pe _ _)) (en 1)) (blk_of rfl (by kernel_rfl)) (fun _ _ _ _ _ _ => (gb 3 sc__law_is_short.nd)) (fun _ _ _ _ _ => (ct_cmp (ce_cmp op_le os_le (es 3) (es 2) (nomark _)))) (fun _ _ _ _ _ => (en 3)))) .nil) (hst := ⟨fun _ => rfl, trivial⟩))) (nomark _))))
theorem ok__law_obstacles (T : Tx K mg) : FnG P w K mg base (L2.CX P w) 2 T.f__law_obstacles (spM T.ca K m__law_obstacles) := fn_okG (N := ["_law_bounds", "_law_values_here", "_law_result_here", "_law_threshold", "_law_places_here", "_law_bound", "_law_found", "_law_place"]) (n := 2) (L := [0, 1]) (mb := b__law_obstacles) T.F__law_obstacles T.B__law_obstacles sc__law_obstacles rfl fun cdv A outer s H E hr =>
  show CSs _ _ _ _ b__law_obstacles from (css_cons (cs_set 2 sc__law_obstacles.nd (ce_lst cl_nil trivial))
    (css_cons (cs_for (ci_list (pi_list (we_pe _ _)) (ce_sortS rfl (by rfl) T.z_sorted (by rfl) T.z_set (es 1))) (gn 3 sc__law_obstacles.nd) (css_cons (cs_set 4 sc__law_obstacles.nd (ce_callR (ok__law_places T) (hr.mono (by decide)) (by rfl) T.g__law_places T.F__law_places.kp (cl_cons (en 1) (cl_cons (en 3) cl_nil)) ⟨fun _ => rfl, ⟨fun _ => rfl, trivial⟩⟩) (hx := .inr rfl))
    (css_one (cs_if (ct_cmp (ce_cmp op_lt os_lt (co_v (ce_callB call_len_seq (by rfl) T.z_len bt_len os_len (.cons (es 4) .nil) (hst := ⟨fun _ => rfl, trivial⟩))) (co_v (ce_callB call_len_seq (by rfl) T.z_len bt_len os_len (.cons (es 1) .nil) (hst := ⟨fun _ => rfl, trivial⟩))) (nomark _))) (css_cons (cs_set 5 sc__law_obstacles.nd (ce_ix ix_A os_ix (es 0) (co_v (ce_bin op_sub os_sub (co_v (ce_callB call_len_seq (by rfl) T.z_len bt_len os_len (.cons (es 4) .nil) (hst := ⟨fun _ => rfl, trivial⟩))) (co_v ce_int))) (fun _ _ => rfl)) (hx := .inr rfl))
    (css_cons (cs_setLcIf (own := [("_law_place", 7)]) (i := 6) rfl sc__law_obstacles.nd rfl rfl (by decide) (gn (ca := T.ca) (L := []) 6 sc__law_obstacles.nd).1 (by rfl) (ci_range2 (by rfl) T.z_range ce_int (ce_bin op_addA os_add (co_v (ce_callB call_len_seq (by rfl) T.z_len bt_len os_len (.cons (es 1) .nil) (hst := ⟨fun _ => rfl, trivial⟩))) (co_v ce_int))) (blk_of rfl (by kernel_rfl)) (fun _ _ _ _ _ _ => (gb 7 sc__law_obstacles.nd)) (fun _ _ _ _ _ => (ct_val (ce_callR (ok__law_is_short T) (hr.mono (by decide)) (by rfl) T.g__law_is_short T.F__law_is_short.kp (cl_cons (en 4) (cl_cons (en 5) (cl_cons (en 7) cl_nil))) ⟨fun _ => rfl, ⟨fun _ => rfl, ⟨fun _ => rfl, trivial⟩⟩⟩))) (fun _ _ _ _ _ => (en 7)))
    (css_one (cs_set 2 sc__law_obstacles.nd (ce_bin op_addA os_add (es 2) (co_v (ce_lc (own := [("_law_place", 7)]) rfl sc__law_obstacles.nd (ci_list (pi_list (we_pe _ _)) (en 6)) (blk_of rfl (by kernel_rfl)) (fun _ _ _ _ _ _ => (gb 7 sc__law_obstacles.nd)) (fun _ _ _ _ _ => (ce_tup (cl_cons (ce_callB call_len_seq (by rfl) T.z_len bt_len os_len (.cons (es 4) .nil) (hst := ⟨fun _ => rfl, trivial⟩)) (cl_cons (en 7) cl_nil)) ⟨fun _ => rfl, ⟨fun _ => rfl, trivial⟩⟩))))))))) css_nil))) (passes_of rfl) rfl)
    (css_one (cs_ret (emv 2)))))
theorem ok__law_candidates (T : Tx K mg) : FnG P w K mg base (L2.CX P w) 1 T.f__law_candidates (spM T.ca K m__law_candidates) := fn_okG (N := ["_law_width", "_law_found", "_law_result_here", "_law_count", "_law_place"]) (n := 2) (L := [0, 1]) (mb := b__law_candidates) T.F__law_candidates T.B__law_candidates sc__law_candidates rfl fun cdv A outer s H E hr =>
  show CSs _ _ _ _ b__law_candidates from (css_cons (cs_set 2 sc__law_candidates.nd (ce_fz (ce_lst (cl_cons ce_non (cl_cons (ce_tup cl_nil trivial) (cl_cons (ce_lst cl_nil trivial) (cl_cons ce_int (cl_cons ce_bl (cl_cons ce_str (cl_cons (ce_tup (cl_cons ce_int cl_nil) ⟨fun _ => rfl, trivial⟩) (cl_cons (ce_tup (cl_cons ce_int (cl_cons ce_int (cl_cons ce_int cl_nil))) ⟨fun _ => rfl, ⟨fun _ => rfl, ⟨fun _ => rfl, trivial⟩⟩⟩) (cl_cons (ce_lst (cl_cons ce_int (cl_cons ce_int cl_nil)) ⟨fun _ => rfl, ⟨fun _ => rfl, trivial⟩⟩) (cl_cons (ce_tup (cl_cons ce_non (cl_cons ce_int cl_nil)) ⟨fun _ => rfl, ⟨fun _ => rfl, trivial⟩⟩) (cl_cons (ce_tup (cl_cons ce_int (cl_cons ce_non cl_nil)) ⟨fun _ => rfl, ⟨fun _ => rfl, trivial⟩⟩) (cl_cons (ce_tup (cl_cons ce_str (cl_cons ce_int cl_nil)) ⟨fun _ => rfl, ⟨fun _ => rfl, trivial⟩⟩) (cl_cons (ce_tup (cl_cons ce_int (cl_cons ce_str cl_nil)) ⟨fun _ => rfl, ⟨fun _ => rfl, trivial⟩⟩) (cl_cons ce_dn cl_nil)))))))))))))) ⟨fun _ => rfl, ⟨fun _ => rfl, ⟨fun _ => rfl, ⟨fun _ => rfl, ⟨fun _ => rfl, ⟨fun _ => rfl, ⟨fun _ => rfl, ⟨fun _ => rfl, ⟨fun _ => rfl, ⟨fun _ => rfl, ⟨fun _ => rfl, ⟨fun _ => rfl, ⟨fun _ => rfl, ⟨fun _ => rfl, trivial⟩⟩⟩⟩⟩⟩⟩⟩⟩⟩⟩⟩⟩⟩)))
    (css_cons (cs_for (ci_list (pi_list (we_pe _ _)) (ce_s01 (es 1) (co_v ce_int))) (cg_tup rfl (cgs_cons (gn 3 sc__law_candidates.nd (hx := .inr rfl)) (cgs_cons (gn 4 sc__law_candidates.nd) cgs_nil (by rfl)) (by rfl)) rfl) (css_cons (cs_set 2 sc__law_candidates.nd (ce_bin op_addA os_add (es 2) (co_v (ce_fz (ce_lst (cl_cons (ce_lst (cl_cons (en 3) (cl_cons (en 4) cl_nil)) ⟨fun _ => rfl, ⟨fun _ => rfl, trivial⟩⟩) (cl_cons (ce_tup (cl_cons (en 3) (cl_cons (en 4) (cl_cons ce_int cl_nil))) ⟨fun _ => rfl, ⟨fun _ => rfl, ⟨fun _ => rfl, trivial⟩⟩⟩) (cl_cons (ce_tup (cl_cons (en 4) cl_nil) ⟨fun _ => rfl, trivial⟩) (cl_cons (ce_tup (cl_cons (ce_tup (cl_cons (en 3) (cl_cons (en 4) cl_nil)) ⟨fun _ => rfl, ⟨fun _ => rfl, trivial⟩⟩) cl_nil) ⟨fun _ => rfl, trivial⟩) (cl_cons (ce_tup (cl_cons (ce_callTy call_str_int (by rfl) T.z_str bt_str os_strI (.cons (es 3) .nil) (hst := ⟨fun _ => rfl, trivial⟩)) (cl_cons (en 4) cl_nil)) ⟨fun _ => rfl, ⟨fun _ => rfl, trivial⟩⟩) cl_nil))))) ⟨fun _ => rfl, ⟨fun _ => rfl, ⟨fun _ => rfl, ⟨fun _ => rfl, ⟨fun _ => rfl, trivial⟩⟩⟩⟩⟩)))))
    (css_one (cs_set 2 sc__law_candidates.nd (ce_bin op_addA os_add (es 2) (co_v (ce_lst (cl_cons (ce_tup (cl_cons (en 3) (cl_cons ce_bl cl_nil)) ⟨fun _ => rfl, ⟨fun _ => rfl, trivial⟩⟩) (cl_cons (ce_tup (cl_cons ce_bl (cl_cons (en 4) cl_nil)) ⟨fun _ => rfl, ⟨fun _ => rfl, trivial⟩⟩) (cl_cons (ce_tup (cl_cons (en 3) (cl_cons (ce_bin op_pow os_pow (co_v ce_int) (co_v ce_int)) cl_nil)) ⟨fun _ => rfl, ⟨fun _ => rfl, trivial⟩⟩) (cl_cons (ce_tup (cl_cons (en 3) (cl_cons (ce_un un_neg os_neg (es 4)) cl_nil)) ⟨fun _ => rfl, ⟨fun _ => rfl, trivial⟩⟩) cl_nil)))) ⟨fun _ => rfl, ⟨fun _ => rfl, ⟨fun _ => rfl, ⟨fun _ => rfl, trivial⟩⟩⟩⟩))) (hs := by kernel_rfl)))) (passes_of rfl) rfl)
    (css_cons (cs_for (ci_range2 (by rfl) T.z_range (ce_un un_neg os_neg (co_v ce_int)) (ce_bin op_addA os_add (es 0) (co_v ce_int))) (gn 3 sc__law_candidates.nd (hx := .inr rfl)) (css_one (cs_set 2 sc__law_candidates.nd (ce_bin op_addA os_add (es 2) (co_v (ce_lc (own := [("_law_place", 4)]) rfl sc__law_candidates.nd (ci_range2 (by rfl) T.z_range (ce_un un_neg os_neg (co_v ce_int)) (ce_bin op_addA os_add (es 0) (co_v ce_int))) (blk_of rfl (by kernel_rfl)) (fun _ _ _ _ _ _ => (gb 4 sc__law_candidates.nd)) (fun _ _ _ _ _ => (ce_tup (cl_cons (en 3) (cl_cons (en 4) cl_nil)) ⟨fun _ => rfl, ⟨fun _ => rfl, trivial⟩⟩))))))) (passes_of rfl) rfl)
    (css_one (cs_ret (emv 2))))))
theorem ok_is_any_integer (T : Tx K mg) : FnG P w K mg base (L2.CX P w) 1 T.f_is_any_integer (spM T.ca K m_is_any_integer) := fn_okG (N := ["value"]) (n := 1) (L := [0]) (mb := b_is_any_integer) T.F_is_any_integer T.B_is_any_integer sc_is_any_integer rfl fun cdv A outer s H E hr =>
  show CSs _ _ _ _ b_is_any_integer from (css_one (cs_ret (ce_and (ce_callB call_isi (by rfl) T.z_isinstance bt_isinstance (os_isiB (T := "int")) (.cons (es 0) (.cons (co_v (ce_ty (by rfl) T.z_int bt_int)) .nil)) (hst := ⟨fun _ => rfl, ⟨fun _ => rfl, trivial⟩⟩)) (ce_not (ce_callB call_isi (by rfl) T.z_isinstance bt_isinstance (os_isiB (T := "bool")) (.cons (es 0) (.cons (co_v (ce_ty (by rfl) T.z_bool bt_bool)) .nil)) (hst := ⟨fun _ => rfl, ⟨fun _ => rfl, trivial⟩⟩))))))
theorem ok_check_integers (T : Tx K mg) : FnG P w K mg base (L2.CX P w) 2 T.f_check_integers (spM T.ca K m_check_integers) := fn_okG (N := ["values", "index", "value"]) (n := 1) (L := [0]) (mb := b_check_integers) T.F_check_integers T.B_check_integers sc_check_integers rfl fun cdv A outer s H E hr =>
  show CSs _ _ _ _ b_check_integers from (css_one (cs_for (ci_enum (by rfl) T.z_enumerate (en 0)) (cg_tup rfl (cgs_cons (gn 1 sc_check_integers.nd) (cgs_cons (gn 2 sc_check_integers.nd) cgs_nil (by rfl)) (by rfl)) rfl) (css_one (cs_if (ct_not (ct_val (ce_callR (ok_is_any_integer T) (hr.mono (by decide)) (by rfl) T.g_is_any_integer T.F_is_any_integer.kp (cl_cons (en 2) cl_nil) ⟨fun _ => rfl, trivial⟩))) css_fail css_nil)) (passes_of rfl) rfl))
theorem ok_check_values (T : Tx K mg) : FnG P w K mg base (L2.CX P w) 3 T.f_check_values (spM T.ca K m_check_values) := fn_okG (N := ["width", "values"]) (n := 2) (L := [0, 1]) (mb := b_check_values) T.F_check_values T.B_check_values sc_check_values rfl fun cdv A outer s H E hr =>
  show CSs _ _ _ _ b_check_values from (css_cons (cs_if (ct_w (cw_or (ct_not (ct_val (ce_callB call_isi (by rfl) T.z_isinstance bt_isinstance (os_isiB (T := "list")) (.cons (es 1) (.cons (co_v (ce_ty (by rfl) T.z_list bt_list)) .nil)) (hst := ⟨fun _ => rfl, ⟨fun _ => rfl, trivial⟩⟩)))) (cw_or1 (ct_cmp (ce_cmp (op_neD hr.2.units) os_ne (co_v (ce_callB call_len_seq (by rfl) T.z_len bt_len os_len (.cons (es 1) .nil) (hst := ⟨fun _ => rfl, trivial⟩))) (es 0) (nomark _)))))) css_fail css_nil)
    (css_one (cs_expr (ce_callR (ok_check_integers T) (hr.mono (by decide)) (by rfl) T.g_check_integers T.F_check_integers.kp (cl_cons (en 1) cl_nil) ⟨fun _ => rfl, trivial⟩))))
theorem ok_places_up_to (T : Tx K mg) : FnG P w K mg base (L2.CX P w) 1 T.f_places_up_to (spM T.ca K m_places_up_to) := fn_okG (N := ["values", "threshold", "place", "value"]) (n := 2) (L := [0, 1]) (mb := b_places_up_to) T.F_places_up_to T.B_places_up_to sc_places_up_to rfl fun cdv A outer s H E hr =>
  show CSs _ _ _ _ b_places_up_to from (css_one (cs_ret (ce_lcIf (own := [("place", 2), ("value", 3)]) rfl sc_places_up_to.nd (ci_enumK (by rfl) T.z_enumerate (cl_cons (en 0) (cl_cons ce_int cl_nil))) (blk_of rfl (by kernel_rfl)) (fun _ _ _ _ _ _ => (cg_tupB rfl (cgs_cons (gb 2 sc_places_up_to.nd) (cgs_cons (gb 3 sc_places_up_to.nd) cgs_nil (by rfl)) (by rfl)) rfl)) (fun _ _ _ _ _ => (ct_cmp (ce_cmp op_le os_le (es 3) (es 1) (nomark _)))) (fun _ _ _ _ _ => (en 2)))))
theorem ok_Network_backwards (T : Tx K mg) : FnG P w K mg base (L2.CX P w) 5 T.f_Network_backwards (spM T.ca K m_Network_backwards) := fn_okG (N := ["self"]) (n := 1) (L := [0]) (mb := b_Network_backwards) T.F_Network_backwards T.B_Network_backwards sc_Network_backwards rfl fun cdv A outer s H E hr =>
  show CSs _ _ _ _ b_Network_backwards from (css_one (cs_ret (ce_makeG (C := 0) T.mk_Network (ok_Network___init__ T) (hr.mono (by decide)) (by rfl) T.g_Network (cl_cons (ce_fld (C := 0) T.cl_Network T.na_Network_own_width (es 0)) (cl_cons (ce_revA (co_v (ce_fld (C := 0) T.cl_Network T.na_Network_own_steps (es 0)))) cl_nil)) ⟨fun _ => rfl, ⟨fun _ => rfl, trivial⟩⟩)))
theorem ok_hardest (T : Tx K mg) : FnG P w K mg base (L2.CX P w) 6 T.f_hardest (spM T.ca K m_hardest) := fn_okG (N := ["network", "values", "step"]) (n := 1) (L := [0]) (mb := b_hardest) T.F_hardest T.B_hardest sc_hardest rfl fun cdv A outer s H E hr =>
  show CSs _ _ _ _ b_hardest from (css_cons (cs_set 1 sc_hardest.nd (ce_listRg rfl (by rfl) T.z_list (by rfl) T.z_range (co_v ce_int) (co_v (ce_bin op_addA os_add (co_v (ce_prop (C := 0) T.cl_Network T.pr_Network_width (ok_Network_width T) (hr.2.mono (by decide)) T.B_Network_width (es 0))) (co_v ce_int)))))
    (css_cons (cs_for (ci_tup (pi_tup (we_pe _ _)) (ce_prop (C := 0) T.cl_Network T.pr_Network_steps (ok_Network_steps T) (hr.2.mono (by decide)) T.B_Network_steps (co_v (ce_mth (C := 0) (pl := _) T.cl_Network T.me_Network_backwards (ok_Network_backwards T) (hr.mono (by decide)) (en 0) cl_nil trivial (hpl := fun e r h => by cases h))))) (gn 2 sc_hardest.nd) (css_one (cs_if (ct_cmp (ce_cmp op_lt os_lt (co_v (ce_ix ix_A os_ix (es 1) (co_v (ce_bin op_sub os_sub (es 2) (co_v ce_int))) (fun _ _ => rfl))) (co_v (ce_ix ix_A os_ix (es 1) (es 2) (fun _ _ => rfl))) (nomark _))) (css_one (cs_asgT (ce_tup (cl_cons (ce_ix ix_A os_ix (es 1) (es 2) (fun _ _ => rfl)) (cl_cons (ce_ix ix_A os_ix (es 1) (co_v (ce_bin op_sub os_sub (es 2) (co_v ce_int))) (fun _ _ => rfl)) cl_nil)) ⟨fun _ => rfl, ⟨fun _ => rfl, trivial⟩⟩) (cg_tup rfl (cgs_cons (cg_ix (pv 1) (ce_bin op_sub os_sub (es 2) (co_v ce_int)) (fun _ => rfl)) (cgs_cons (cg_ix (pv 1) (en 2) (fun _ => rfl)) cgs_nil (by rfl)) (by rfl)) rfl))) css_nil)) (passes_of rfl) rfl)
    (css_one (cs_ret (emv 1)))))
theorem ok_limits (T : Tx K mg) : FnG P w K mg base (L2.CX P w) 7 T.f_limits (spM T.ca K m_limits) := fn_okG (N := ["network", "values", "count"]) (n := 1) (L := [0]) (mb := b_limits) T.F_limits T.B_limits sc_limits rfl fun cdv A outer s H E hr =>
  show CSs _ _ _ _ b_limits from (css_cons (cs_set 1 sc_limits.nd (ce_callR (ok_hardest T) (hr.mono (by decide)) (by rfl) T.g_hardest T.F_hardest.kp (cl_cons (en 0) cl_nil) ⟨fun _ => rfl, trivial⟩) (hx := .inr rfl))
    (css_one (cs_ret (ce_lc (own := [("count", 2)]) rfl sc_limits.nd (ci_range2 (by rfl) T.z_range ce_int (ce_prop (C := 0) T.cl_Network T.pr_Network_width (ok_Network_width T) (hr.2.mono (by decide)) T.B_Network_width (es 0))) (blk_of rfl (by kernel_rfl)) (fun _ _ _ _ _ _ => (gb 2 sc_limits.nd)) (fun _ _ _ _ _ => (ce_callR (ok_places_up_to T) (hr.mono (by decide)) (by rfl) T.g_places_up_to T.F_places_up_to.kp (cl_cons (en 1) (cl_cons (en 2) cl_nil)) ⟨fun _ => rfl, ⟨fun _ => rfl, trivial⟩⟩))))))
theorem ok_is_obstacle (T : Tx K mg) : FnG P w K mg base (L2.CX P w) 8 T.f_is_obstacle (spM T.ca K m_is_obstacle) := fn_okG (N := ["network", "values", "value", "count", "place", "places", "limit", "one"]) (n := 3) (L := [0, 1, 2]) (mb := b_is_obstacle) T.F_is_obstacle T.B_is_obstacle sc_is_obstacle rfl fun cdv A outer s H E hr =>
  show CSs _ _ _ _ b_is_obstacle from (css_cons (cs_expr (ce_callR (ok_check_values T) (hr.mono (by decide)) (by rfl) T.g_check_values T.F_check_values.kp (cl_cons (ce_prop (C := 0) T.cl_Network T.pr_Network_width (ok_Network_width T) (hr.2.mono (by decide)) T.B_Network_width (es 0)) (cl_cons (en 1) cl_nil)) ⟨fun _ => rfl, ⟨fun _ => rfl, trivial⟩⟩))
    (css_cons (cs_if (ct_w (cw_or (ct_not (ct_val (ce_callB call_isi (by rfl) T.z_isinstance bt_isinstance (os_isiB (T := "tuple")) (.cons (es 2) (.cons (co_v (ce_ty (by rfl) T.z_tuple bt_tuple)) .nil)) (hst := ⟨fun _ => rfl, ⟨fun _ => rfl, trivial⟩⟩)))) (cw_or1 (ct_cmp (ce_cmp (op_neD hr.2.units) os_ne (co_v (ce_callB call_len_seq (by rfl) T.z_len bt_len os_len (.cons (es 2) .nil) (hst := ⟨fun _ => rfl, trivial⟩))) (co_v ce_int) (nomark _)))))) (css_one (cs_ret ce_bl)) css_nil)
    (css_cons (cs_asgT (en 2) (cg_tup rfl (cgs_cons (gn 3 sc_is_obstacle.nd) (cgs_cons (gn 4 sc_is_obstacle.nd (hx := .inr rfl)) cgs_nil (by rfl)) (by rfl)) rfl))
    (css_cons (cs_if (ct_w (cw_or (ct_not (ct_val (ce_callR (ok_is_integer T) (hr.mono (by decide)) (by rfl) T.g_is_integer T.F_is_integer.kp (cl_cons (en 3) (cl_cons ce_int (cl_cons (ce_bin op_sub os_sub (co_v (ce_prop (C := 0) T.cl_Network T.pr_Network_width (ok_Network_width T) (hr.2.mono (by decide)) T.B_Network_width (es 0))) (co_v ce_int)) cl_nil))) ⟨fun _ => rfl, ⟨fun _ => rfl, ⟨fun _ => rfl, trivial⟩⟩⟩))) (cw_or1 (ct_not (ct_val (ce_callR (ok_is_integer T) (hr.mono (by decide)) (by rfl) T.g_is_integer T.F_is_integer.kp (cl_cons (en 4) (cl_cons ce_int (cl_cons (ce_prop (C := 0) T.cl_Network T.pr_Network_width (ok_Network_width T) (hr.2.mono (by decide)) T.B_Network_width (es 0)) cl_nil))) ⟨fun _ => rfl, ⟨fun _ => rfl, ⟨fun _ => rfl, trivial⟩⟩⟩)))))) (css_one (cs_ret ce_bl)) css_nil)
    (css_cons (cs_set 5 sc_is_obstacle.nd (ce_callR (ok_places_up_to T) (hr.mono (by decide)) (by rfl) T.g_places_up_to T.F_places_up_to.kp (cl_cons (en 1) (cl_cons (ce_ix ix_A os_ix (co_v (ce_callB cr_sortedI (by rfl) T.z_sorted bt_sorted os_sorted (.cons (es 1) .nil) (hst := ⟨fun _ => rfl, trivial⟩))) (co_v (ce_bin op_sub os_sub (es 3) (co_v ce_int))) (fun _ _ => rfl)) cl_nil)) ⟨fun _ => rfl, ⟨fun _ => rfl, trivial⟩⟩))
    (css_cons (cs_set 6 sc_is_obstacle.nd (ce_ix ix_A os_ix (co_v (ce_fz (ce_callR (ok_limits T) (hr.mono (by decide)) (by rfl) T.g_limits T.F_limits.kp (cl_cons (en 0) cl_nil) ⟨fun _ => rfl, trivial⟩))) (co_v (ce_bin op_sub os_sub (es 3) (co_v ce_int))) (fun _ _ => rfl)))
    (css_one (cs_ret (ce_and (ce_cmp (op_eqD hr.2.units) os_eq (co_v (ce_callB call_len_seq (by rfl) T.z_len bt_len os_len (.cons (es 5) .nil) (hst := ⟨fun _ => rfl, trivial⟩))) (es 3) (nomark _)) (ce_cmp op_lt os_lt (co_v (ce_callB call_len_seq (by rfl) T.z_len bt_len os_len (.cons (co_v (ce_lcIf (own := [("one", 7)]) rfl sc_is_obstacle.nd (ci_list (pi_list (we_pe _ _)) (en 5)) (blk_of rfl (by kernel_rfl)) (fun _ _ _ _ _ _ => (gb 7 sc_is_obstacle.nd)) (fun _ _ _ _ _ => (ct_cmp (ce_cmp op_le os_le (es 7) (es 4) (nomark _)))) (fun _ _ _ _ _ => (en 7)))) .nil) (hst := ⟨fun _ => rfl, trivial⟩))) (co_v (ce_callB call_len_seq (by rfl) T.z_len bt_len os_len (.cons (co_v (ce_lcIf (own := [("one", 7)]) rfl sc_is_obstacle.nd (ci_list (pi_list (we_pe _ _)) (en 6)) (blk_of rfl (by kernel_rfl)) (fun _ _ _ _ _ _ => (gb 7 sc_is_obstacle.nd)) (fun _ _ _ _ _ => (ct_cmp (ce_cmp op_le os_le (es 7) (es 4) (nomark _)))) (fun _ _ _ _ _ => (en 7)))) .nil) (hst := ⟨fun _ => rfl, trivial⟩))) (nomark _)))))))))))
theorem os1_law (T : Tx K mg) {cdv : Value} {A : Around} {outer : List Env} {s : Shared} {H : Hp} {E : XK} (hr : RoomG 8 (A.deeper (envOfC "law" (defScope s_law) s.heap.objs.size T.f_law cdv))) : CS T.ca (cxOf (L2.CX P w) P w K mg base ["_law_script", "_law_k", "_law_source_here", "_law_width", "_law_steps_here", "_law_bounds", "_law_network", "_law_turn", "_law_values_here", "_law_found", "_law_texts", "_law_value", "_law_before", "_law_count", "_law_row"] "law" (defScope s_law) T.f_law cdv A outer s H E) [0] (nthS (forB (nthS (defBody s_law) 0)) 0) st1_law :=
  (cs_set 2 sc_law.nd (ce_callR (ok__law_source T) (hr.mono (by decide)) (by rfl) T.g__law_source T.F__law_source.kp (cl_cons (en 0) (cl_cons (en 1) cl_nil)) ⟨fun _ => rfl, ⟨fun _ => rfl, trivial⟩⟩))
theorem os2_law (T : Tx K mg) {cdv : Value} {A : Around} {outer : List Env} {s : Shared} {H : Hp} {E : XK} (hr : RoomG 8 (A.deeper (envOfC "law" (defScope s_law) s.heap.objs.size T.f_law cdv))) : CS T.ca (cxOf (L2.CX P w) P w K mg base ["_law_script", "_law_k", "_law_source_here", "_law_width", "_law_steps_here", "_law_bounds", "_law_network", "_law_turn", "_law_values_here", "_law_found", "_law_texts", "_law_value", "_law_before", "_law_count", "_law_row"] "law" (defScope s_law) T.f_law cdv A outer s H E) [0] (nthS (forB (nthS (defBody s_law) 0)) 1) st2_law :=
  (cs_set 3 sc_law.nd (ce_bin op_addA os_add (co_v ce_int) (co_v (ce_callLG _ _ _ (ok__law_draw T) (hr.mono (by decide)) (by rfl) T.g__law_draw T.F__law_draw.kp cl_nil (pv 2) (cl_cons ce_int cl_nil) rfl ⟨fun _ => rfl, ⟨fun _ => rfl, trivial⟩⟩))) (hx := .inr rfl))
theorem os3_law (T : Tx K mg) {cdv : Value} {A : Around} {outer : List Env} {s : Shared} {H : Hp} {E : XK} (hr : RoomG 8 (A.deeper (envOfC "law" (defScope s_law) s.heap.objs.size T.f_law cdv))) : CS T.ca (cxOf (L2.CX P w) P w K mg base ["_law_script", "_law_k", "_law_source_here", "_law_width", "_law_steps_here", "_law_bounds", "_law_network", "_law_turn", "_law_values_here", "_law_found", "_law_texts", "_law_value", "_law_before", "_law_count", "_law_row"] "law" (defScope s_law) T.f_law cdv A outer s H E) [0] (nthS (forB (nthS (defBody s_law) 0)) 2) st3_law :=
  (cs_set 4 sc_law.nd (ce_callLG _ _ _ (ok__law_steps T) (hr.mono (by decide)) (by rfl) T.g__law_steps T.F__law_steps.kp cl_nil (pv 2) (cl_cons (en 3) (cl_cons ce_int cl_nil)) rfl ⟨fun _ => rfl, ⟨fun _ => rfl, ⟨fun _ => rfl, trivial⟩⟩⟩) (hx := .inr rfl))
theorem os5_law (T : Tx K mg) {cdv : Value} {A : Around} {outer : List Env} {s : Shared} {H : Hp} {E : XK} (hr : RoomG 8 (A.deeper (envOfC "law" (defScope s_law) s.heap.objs.size T.f_law cdv))) : CS T.ca (cxOf (L2.CX P w) P w K mg base ["_law_script", "_law_k", "_law_source_here", "_law_width", "_law_steps_here", "_law_bounds", "_law_network", "_law_turn", "_law_values_here", "_law_found", "_law_texts", "_law_value", "_law_before", "_law_count", "_law_row"] "law" (defScope s_law) T.f_law cdv A outer s H E) [0] (nthS (forB (nthS (defBody s_law) 0)) 3) st5_law :=
  (cs_setLc (own := [("_law_count", 13)]) (i := 5) rfl sc_law.nd rfl rfl (by decide) (gn (ca := T.ca) (L := []) 5 sc_law.nd).1 (by rfl) (ci_range2 (by rfl) T.z_range ce_int (en 3)) (blk_of rfl (by kernel_rfl)) (fun _ _ _ _ _ _ => (gb 13 sc_law.nd)) (fun _ _ _ _ _ => (ce_fz (ce_callR (ok__law_limit T) (hr.mono (by decide)) (by rfl) T.g__law_limit T.F__law_limit.kp (cl_cons (en 4) (cl_cons (en 3) (cl_cons (en 13) cl_nil))) ⟨fun _ => rfl, ⟨fun _ => rfl, ⟨fun _ => rfl, trivial⟩⟩⟩))))
theorem os6_law (T : Tx K mg) {cdv : Value} {A : Around} {outer : List Env} {s : Shared} {H : Hp} {E : XK} (hr : RoomG 8 (A.deeper (envOfC "law" (defScope s_law) s.heap.objs.size T.f_law cdv))) : CS T.ca (cxOf (L2.CX P w) P w K mg base ["_law_script", "_law_k", "_law_source_here", "_law_width", "_law_steps_here", "_law_bounds", "_law_network", "_law_turn", "_law_values_here", "_law_found", "_law_texts", "_law_value", "_law_before", "_law_count", "_law_row"] "law" (defScope s_law) T.f_law cdv A outer s H E) [0] (nthS (forB (nthS (defBody s_law) 0)) 4) st6_law :=
  (cs_set 6 sc_law.nd (ce_makeG (C := 0) T.mk_Network (ok_Network___init__ T) (hr.mono (by decide)) (by rfl) T.g_Network (cl_cons (en 3) (cl_cons (en 4) cl_nil)) ⟨fun _ => rfl, ⟨fun _ => rfl, trivial⟩⟩))
theorem os7_law (T : Tx K mg) {cdv : Value} {A : Around} {outer : List Env} {s : Shared} {H : Hp} {E : XK} (hr : RoomG 8 (A.deeper (envOfC "law" (defScope s_law) s.heap.objs.size T.f_law cdv))) : CS T.ca (cxOf (L2.CX P w) P w K mg base ["_law_script", "_law_k", "_law_source_here", "_law_width", "_law_steps_here", "_law_bounds", "_law_network", "_law_turn", "_law_values_here", "_law_found", "_law_texts", "_law_value", "_law_before", "_law_count", "_law_row"] "law" (defScope s_law) T.f_law cdv A outer s H E) [0] (nthS (forB (nthS (forB (nthS (defBody s_law) 0)) 5)) 0) st7_law :=
  (cs_set 8 sc_law.nd (ce_callLG _ _ _ (ok__law_values T) (hr.mono (by decide)) (by rfl) T.g__law_values T.F__law_values.kp cl_nil (pv 2) (cl_cons (en 3) cl_nil) rfl ⟨fun _ => rfl, ⟨fun _ => rfl, trivial⟩⟩))
theorem os8_law (T : Tx K mg) {cdv : Value} {A : Around} {outer : List Env} {s : Shared} {H : Hp} {E : XK} (hr : RoomG 8 (A.deeper (envOfC "law" (defScope s_law) s.heap.objs.size T.f_law cdv))) : CS T.ca (cxOf (L2.CX P w) P w K mg base ["_law_script", "_law_k", "_law_source_here", "_law_width", "_law_steps_here", "_law_bounds", "_law_network", "_law_turn", "_law_values_here", "_law_found", "_law_texts", "_law_value", "_law_before", "_law_count", "_law_row"] "law" (defScope s_law) T.f_law cdv A outer s H E) [0] (nthS (forB (nthS (forB (nthS (defBody s_law) 0)) 5)) 1) st8_law :=
  (cs_set 9 sc_law.nd (ce_callR (ok__law_obstacles T) (hr.mono (by decide)) (by rfl) T.g__law_obstacles T.F__law_obstacles.kp (cl_cons (en 5) (cl_cons (en 8) cl_nil)) ⟨fun _ => rfl, ⟨fun _ => rfl, trivial⟩⟩))
theorem os10_law (T : Tx K mg) {cdv : Value} {A : Around} {outer : List Env} {s : Shared} {H : Hp} {E : XK} (hr : RoomG 8 (A.deeper (envOfC "law" (defScope s_law) s.heap.objs.size T.f_law cdv))) : CS T.ca (cxOf (L2.CX P w) P w K mg base ["_law_script", "_law_k", "_law_source_here", "_law_width", "_law_steps_here", "_law_bounds", "_law_network", "_law_turn", "_law_values_here", "_law_found", "_law_texts", "_law_value", "_law_before", "_law_count", "_law_row"] "law" (defScope s_law) T.f_law cdv A outer s H E) [0] (nthS (forB (nthS (forB (nthS (defBody s_law) 0)) 5)) 2) st10_law :=
  (cs_setLc (own := [("_law_row", 14)]) (i := 10) rfl sc_law.nd rfl rfl (by decide) (gn (ca := T.ca) (L := []) 10 sc_law.nd).1 (by rfl) (ci_list (pi_list (we_pe _ _)) (en 9)) (blk_of rfl (by kernel_rfl)) (fun _ _ _ _ _ _ => (gb 14 sc_law.nd)) (fun _ _ _ _ _ => (ce_callB (call_reprV hr) (by rfl) T.z_repr bt_repr os_reprV (.cons (es 14) .nil) (hst := ⟨fun _ => rfl, trivial⟩))))
theorem os11_law (T : Tx K mg) {cdv : Value} {A : Around} {outer : List Env} {s : Shared} {H : Hp} {E : XK} (hr : RoomG 8 (A.deeper (envOfC "law" (defScope s_law) s.heap.objs.size T.f_law cdv))) : CS T.ca (cxOf (L2.CX P w) P w K mg base ["_law_script", "_law_k", "_law_source_here", "_law_width", "_law_steps_here", "_law_bounds", "_law_network", "_law_turn", "_law_values_here", "_law_found", "_law_texts", "_law_value", "_law_before", "_law_count", "_law_row"] "law" (defScope s_law) T.f_law cdv A outer s H E) [0] (nthS (forB (nthS (forB (nthS (forB (nthS (defBody s_law) 0)) 5)) 3)) 0) st11_law :=
  (cs_set 12 sc_law.nd (ce_callB (call_reprV hr) (by rfl) T.z_repr bt_repr os_reprV (.cons (co_v (ce_lst (cl_cons (en 8) (cl_cons (en 11) cl_nil)) ⟨fun _ => rfl, ⟨fun _ => rfl, trivial⟩⟩)) .nil) (hst := ⟨fun _ => rfl, trivial⟩)))
theorem os12_law (T : Tx K mg) {cdv : Value} {A : Around} {outer : List Env} {s : Shared} {H : Hp} {E : XK} (hr : RoomG 8 (A.deeper (envOfC "law" (defScope s_law) s.heap.objs.size T.f_law cdv))) : CS T.ca (cxOf (L2.CX P w) P w K mg base ["_law_script", "_law_k", "_law_source_here", "_law_width", "_law_steps_here", "_law_bounds", "_law_network", "_law_turn", "_law_values_here", "_law_found", "_law_texts", "_law_value", "_law_before", "_law_count", "_law_row"] "law" (defScope s_law) T.f_law cdv A outer s H E) [0] (nthS (ifB (nthS (forB (nthS (forB (nthS (forB (nthS (defBody s_law) 0)) 5)) 3)) 1)) 0) st12_law :=
  (cs_ret ce_bl)
theorem os13_law (T : Tx K mg) {cdv : Value} {A : Around} {outer : List Env} {s : Shared} {H : Hp} {E : XK} (hr : RoomG 8 (A.deeper (envOfC "law" (defScope s_law) s.heap.objs.size T.f_law cdv))) : CS T.ca (cxOf (L2.CX P w) P w K mg base ["_law_script", "_law_k", "_law_source_here", "_law_width", "_law_steps_here", "_law_bounds", "_law_network", "_law_turn", "_law_values_here", "_law_found", "_law_texts", "_law_value", "_law_before", "_law_count", "_law_row"] "law" (defScope s_law) T.f_law cdv A outer s H E) [0] (nthS (forB (nthS (forB (nthS (forB (nthS (defBody s_law) 0)) 5)) 3)) 1) st13_law :=
  (cs_if (ct_cmp (ce_cmp (op_neD hr.2.units) os_ne (co_v (ce_callB (call_reprV hr) (by rfl) T.z_repr bt_repr os_reprV (.cons (co_v (ce_callR (ok_is_obstacle T) (hr.mono (by decide)) (by rfl) T.g_is_obstacle T.F_is_obstacle.kp (cl_cons (en 6) (cl_cons (en 8) (cl_cons (en 11) cl_nil))) ⟨fun _ => rfl, ⟨fun _ => rfl, ⟨fun _ => rfl, trivial⟩⟩⟩)) .nil) (hst := ⟨fun _ => rfl, trivial⟩))) (co_v (ce_callB (call_reprV hr) (by rfl) T.z_repr bt_repr os_reprV (.cons (co_v (ce_cmp op_in_seq (os_in (neg := false)) (co_v (ce_callB (call_reprV hr) (by rfl) T.z_repr bt_repr os_reprV (.cons (es 11) .nil) (hst := ⟨fun _ => rfl, trivial⟩))) (es 10) (by rfl))) .nil) (hst := ⟨fun _ => rfl, trivial⟩))) (nomark _))) (css_one (os12_law T hr)) css_nil)
theorem os14_law (T : Tx K mg) {cdv : Value} {A : Around} {outer : List Env} {s : Shared} {H : Hp} {E : XK} (hr : RoomG 8 (A.deeper (envOfC "law" (defScope s_law) s.heap.objs.size T.f_law cdv))) : CS T.ca (cxOf (L2.CX P w) P w K mg base ["_law_script", "_law_k", "_law_source_here", "_law_width", "_law_steps_here", "_law_bounds", "_law_network", "_law_turn", "_law_values_here", "_law_found", "_law_texts", "_law_value", "_law_before", "_law_count", "_law_row"] "law" (defScope s_law) T.f_law cdv A outer s H E) [0] (nthS (ifB (nthS (forB (nthS (forB (nthS (forB (nthS (defBody s_law) 0)) 5)) 3)) 2)) 0) st14_law :=
  (cs_ret ce_bl)
theorem os15_law (T : Tx K mg) {cdv : Value} {A : Around} {outer : List Env} {s : Shared} {H : Hp} {E : XK} (hr : RoomG 8 (A.deeper (envOfC "law" (defScope s_law) s.heap.objs.size T.f_law cdv))) : CS T.ca (cxOf (L2.CX P w) P w K mg base ["_law_script", "_law_k", "_law_source_here", "_law_width", "_law_steps_here", "_law_bounds", "_law_network", "_law_turn", "_law_values_here", "_law_found", "_law_texts", "_law_value", "_law_before", "_law_count", "_law_row"] "law" (defScope s_law) T.f_law cdv A outer s H E) [0] (nthS (forB (nthS (forB (nthS (forB (nthS (defBody s_law) 0)) 5)) 3)) 2) st15_law :=
  (cs_if (ct_cmp (ce_cmp (op_neD hr.2.units) os_ne (co_v (ce_callB (call_reprV hr) (by rfl) T.z_repr bt_repr os_reprV (.cons (co_v (ce_lst (cl_cons (en 8) (cl_cons (en 11) cl_nil)) ⟨fun _ => rfl, ⟨fun _ => rfl, trivial⟩⟩)) .nil) (hst := ⟨fun _ => rfl, trivial⟩))) (es 12) (nomark _))) (css_one (os14_law T hr)) css_nil)
theorem os17_law (T : Tx K mg) {cdv : Value} {A : Around} {outer : List Env} {s : Shared} {H : Hp} {E : XK} (hr : RoomG 8 (A.deeper (envOfC "law" (defScope s_law) s.heap.objs.size T.f_law cdv))) : CS T.ca (cxOf (L2.CX P w) P w K mg base ["_law_script", "_law_k", "_law_source_here", "_law_width", "_law_steps_here", "_law_bounds", "_law_network", "_law_turn", "_law_values_here", "_law_found", "_law_texts", "_law_value", "_law_before", "_law_count", "_law_row"] "law" (defScope s_law) T.f_law cdv A outer s H E) [0] (nthS (forB (nthS (forB (nthS (defBody s_law) 0)) 5)) 3) (sFor (iE (eFz (eCall m__law_candidates (aCons (eN 3) (aCons (eN 9) aNil)))) lstItems) fg16_law fb16_law) :=
  (cs_for (ci_list (pi_list (we_pe _ _)) (ce_fz (ce_callR (ok__law_candidates T) (hr.mono (by decide)) (by rfl) T.g__law_candidates T.F__law_candidates.kp (cl_cons (en 3) (cl_cons (en 9) cl_nil)) ⟨fun _ => rfl, ⟨fun _ => rfl, trivial⟩⟩))) (gn 11 sc_law.nd) (css_cons (os11_law T hr)
    (css_cons (os13_law T hr)
    (css_one (os15_law T hr)))) (passes_of rfl) rfl)
theorem os19_law (T : Tx K mg) {cdv : Value} {A : Around} {outer : List Env} {s : Shared} {H : Hp} {E : XK} (hr : RoomG 8 (A.deeper (envOfC "law" (defScope s_law) s.heap.objs.size T.f_law cdv))) : CS T.ca (cxOf (L2.CX P w) P w K mg base ["_law_script", "_law_k", "_law_source_here", "_law_width", "_law_steps_here", "_law_bounds", "_law_network", "_law_turn", "_law_values_here", "_law_found", "_law_texts", "_law_value", "_law_before", "_law_count", "_law_row"] "law" (defScope s_law) T.f_law cdv A outer s H E) [0] (nthS (forB (nthS (defBody s_law) 0)) 5) (sFor (iR1 (eC (.int 4))) fg18_law fb18_law) :=
  (cs_for (ci_range1 (by rfl) T.z_range ce_int) (gn 7 sc_law.nd) (css_cons (os7_law T hr)
    (css_cons (os8_law T hr)
    (css_cons (os10_law T hr)
    (css_one (os17_law T hr))))) (passes_of rfl) rfl)
theorem os21_law (T : Tx K mg) {cdv : Value} {A : Around} {outer : List Env} {s : Shared} {H : Hp} {E : XK} (hr : RoomG 8 (A.deeper (envOfC "law" (defScope s_law) s.heap.objs.size T.f_law cdv))) : CS T.ca (cxOf (L2.CX P w) P w K mg base ["_law_script", "_law_k", "_law_source_here", "_law_width", "_law_steps_here", "_law_bounds", "_law_network", "_law_turn", "_law_values_here", "_law_found", "_law_texts", "_law_value", "_law_before", "_law_count", "_law_row"] "law" (defScope s_law) T.f_law cdv A outer s H E) [0] (nthS (defBody s_law) 0) (sFor (iR1 (eOp oMax2 [.v (eC (.int 1)), .v (eOp oMin2 [.v (eOp oLen [.s 0]), .v (eC (.int 6))])])) fg20_law fb20_law) :=
  (cs_for (ci_range1 (by rfl) T.z_range (ce_callB (call_max2 rfl) (by rfl) T.z_max bt_max os_max2 (.cons (co_v ce_int) (.cons (co_v (ce_callB (call_min2 rfl) (by rfl) T.z_min bt_min os_min2 (.cons (co_v (ce_callB call_len_seq (by rfl) T.z_len bt_len os_len (.cons (es 0) .nil) (hst := ⟨fun _ => rfl, trivial⟩))) (.cons (co_v ce_int) .nil)) (hst := ⟨fun _ => rfl, ⟨fun _ => rfl, trivial⟩⟩))) .nil)) (hst := ⟨fun _ => rfl, ⟨fun _ => rfl, trivial⟩⟩))) (gn 1 sc_law.nd) (css_cons (os1_law T hr)
    (css_cons (os2_law T hr)
    (css_cons (os3_law T hr)
    (css_cons (os5_law T hr)
    (css_cons (os6_law T hr)
    (css_one (os19_law T hr))))))) (passes_of rfl) rfl)
theorem os22_law (T : Tx K mg) {cdv : Value} {A : Around} {outer : List Env} {s : Shared} {H : Hp} {E : XK} (hr : RoomG 8 (A.deeper (envOfC "law" (defScope s_law) s.heap.objs.size T.f_law cdv))) : CS T.ca (cxOf (L2.CX P w) P w K mg base ["_law_script", "_law_k", "_law_source_here", "_law_width", "_law_steps_here", "_law_bounds", "_law_network", "_law_turn", "_law_values_here", "_law_found", "_law_texts", "_law_value", "_law_before", "_law_count", "_law_row"] "law" (defScope s_law) T.f_law cdv A outer s H E) [0] (nthS (defBody s_law) 1) st22_law :=
  (cs_ret ce_bl)
theorem ok_law (T : Tx K mg) : FnG P w K mg base (L2.CX P w) 9 T.f_law (spM T.ca K m_law) := fn_okG (N := ["_law_script", "_law_k", "_law_source_here", "_law_width", "_law_steps_here", "_law_bounds", "_law_network", "_law_turn", "_law_values_here", "_law_found", "_law_texts", "_law_value", "_law_before", "_law_count", "_law_row"]) (n := 1) (L := [0]) (mb := b_law) T.F_law T.B_law sc_law rfl fun cdv A outer s H E hr =>
  show CSs _ _ _ _ b_law from (css_cons (os21_law T hr)
    (css_one (os22_law T hr)))
end
theorem all_mk {l : PySem.W.OpenLaw} {w : World} {K : PySem.W.Frag} {h : Heap} {mg : Str → Option Value} {fa : Addr} (X : K.In h) (G : h.Ns mainGlobals mg) (hfa : mg "law" = some (.ref fa))
    {c_Network : Addr} (a_Network : PySem.W.nsIn K mainGlobals "Network" = some (some (.ref c_Network)))
    {f__law_source : Addr} (a__law_source : PySem.W.nsIn K mainGlobals "_law_source" = some (some (.ref f__law_source)))
    {od__law_source an__law_source : Option Addr} {sl__law_source : Array (Option Value)} {oc__law_source kV__law_source dc__law_source pm__law_source cd__law_source ct__law_source : Value}
    (l__law_source : K.lookup f__law_source = some ⟨oc__law_source, od__law_source, .func (PySem.W.fnOf "_law_source" "_law_source" (defArgs s__law_source) (defBody s__law_source) (defScope s__law_source) .none kV__law_source dc__law_source pm__law_source an__law_source cd__law_source ct__law_source), sl__law_source⟩) (q__law_source : PySem.W.codeIn K cd__law_source "_law_source" = true) (k__law_source : PySem.W.keepIn K (.ref f__law_source) = true)
    {f__law_draw : Addr} (a__law_draw : PySem.W.nsIn K mainGlobals "_law_draw" = some (some (.ref f__law_draw)))
    {od__law_draw an__law_draw : Option Addr} {sl__law_draw : Array (Option Value)} {oc__law_draw kV__law_draw dc__law_draw pm__law_draw cd__law_draw ct__law_draw : Value}
    (l__law_draw : K.lookup f__law_draw = some ⟨oc__law_draw, od__law_draw, .func (PySem.W.fnOf "_law_draw" "_law_draw" (defArgs s__law_draw) (defBody s__law_draw) (defScope s__law_draw) .none kV__law_draw dc__law_draw pm__law_draw an__law_draw cd__law_draw ct__law_draw), sl__law_draw⟩) (q__law_draw : PySem.W.codeIn K cd__law_draw "_law_draw" = true) (k__law_draw : PySem.W.keepIn K (.ref f__law_draw) = true)
    {f__law_steps : Addr} (a__law_steps : PySem.W.nsIn K mainGlobals "_law_steps" = some (some (.ref f__law_steps)))
    {od__law_steps an__law_steps : Option Addr} {sl__law_steps : Array (Option Value)} {oc__law_steps kV__law_steps dc__law_steps pm__law_steps cd__law_steps ct__law_steps : Value}
    (l__law_steps : K.lookup f__law_steps = some ⟨oc__law_steps, od__law_steps, .func (PySem.W.fnOf "_law_steps" "_law_steps" (defArgs s__law_steps) (defBody s__law_steps) (defScope s__law_steps) .none kV__law_steps dc__law_steps pm__law_steps an__law_steps cd__law_steps ct__law_steps), sl__law_steps⟩) (q__law_steps : PySem.W.codeIn K cd__law_steps "_law_steps" = true) (k__law_steps : PySem.W.keepIn K (.ref f__law_steps) = true)
    {f__law_sets : Addr} (a__law_sets : PySem.W.nsIn K mainGlobals "_law_sets" = some (some (.ref f__law_sets)))
    {od__law_sets an__law_sets : Option Addr} {sl__law_sets : Array (Option Value)} {oc__law_sets kV__law_sets dc__law_sets pm__law_sets cd__law_sets ct__law_sets : Value}
    (l__law_sets : K.lookup f__law_sets = some ⟨oc__law_sets, od__law_sets, .func (PySem.W.fnOf "_law_sets" "_law_sets" (defArgs s__law_sets) (defBody s__law_sets) (defScope s__law_sets) .none kV__law_sets dc__law_sets pm__law_sets an__law_sets cd__law_sets ct__law_sets), sl__law_sets⟩) (q__law_sets : PySem.W.codeIn K cd__law_sets "_law_sets" = true) (k__law_sets : PySem.W.keepIn K (.ref f__law_sets) = true)
    {f__law_result : Addr} (a__law_result : PySem.W.nsIn K mainGlobals "_law_result" = some (some (.ref f__law_result)))
    {od__law_result an__law_result : Option Addr} {sl__law_result : Array (Option Value)} {oc__law_result kV__law_result dc__law_result pm__law_result cd__law_result ct__law_result : Value}
    (l__law_result : K.lookup f__law_result = some ⟨oc__law_result, od__law_result, .func (PySem.W.fnOf "_law_result" "_law_result" (defArgs s__law_result) (defBody s__law_result) (defScope s__law_result) .none kV__law_result dc__law_result pm__law_result an__law_result cd__law_result ct__law_result), sl__law_result⟩) (q__law_result : PySem.W.codeIn K cd__law_result "_law_result" = true) (k__law_result : PySem.W.keepIn K (.ref f__law_result) = true)
    {f__law_moves_in_front : Addr} (a__law_moves_in_front : PySem.W.nsIn K mainGlobals "_law_moves_in_front" = some (some (.ref f__law_moves_in_front)))
    {od__law_moves_in_front an__law_moves_in_front : Option Addr} {sl__law_moves_in_front : Array (Option Value)} {oc__law_moves_in_front kV__law_moves_in_front dc__law_moves_in_front pm__law_moves_in_front cd__law_moves_in_front ct__law_moves_in_front : Value}
    (l__law_moves_in_front : K.lookup f__law_moves_in_front = some ⟨oc__law_moves_in_front, od__law_moves_in_front, .func (PySem.W.fnOf "_law_moves_in_front" "_law_moves_in_front" (defArgs s__law_moves_in_front) (defBody s__law_moves_in_front) (defScope s__law_moves_in_front) .none kV__law_moves_in_front dc__law_moves_in_front pm__law_moves_in_front an__law_moves_in_front cd__law_moves_in_front ct__law_moves_in_front), sl__law_moves_in_front⟩) (q__law_moves_in_front : PySem.W.codeIn K cd__law_moves_in_front "_law_moves_in_front" = true) (k__law_moves_in_front : PySem.W.keepIn K (.ref f__law_moves_in_front) = true)
    {f__law_is_nowhere_greater : Addr} (a__law_is_nowhere_greater : PySem.W.nsIn K mainGlobals "_law_is_nowhere_greater" = some (some (.ref f__law_is_nowhere_greater)))
    {od__law_is_nowhere_greater an__law_is_nowhere_greater : Option Addr} {sl__law_is_nowhere_greater : Array (Option Value)} {oc__law_is_nowhere_greater kV__law_is_nowhere_greater dc__law_is_nowhere_greater pm__law_is_nowhere_greater cd__law_is_nowhere_greater ct__law_is_nowhere_greater : Value}
    (l__law_is_nowhere_greater : K.lookup f__law_is_nowhere_greater = some ⟨oc__law_is_nowhere_greater, od__law_is_nowhere_greater, .func (PySem.W.fnOf "_law_is_nowhere_greater" "_law_is_nowhere_greater" (defArgs s__law_is_nowhere_greater) (defBody s__law_is_nowhere_greater) (defScope s__law_is_nowhere_greater) .none kV__law_is_nowhere_greater dc__law_is_nowhere_greater pm__law_is_nowhere_greater an__law_is_nowhere_greater cd__law_is_nowhere_greater ct__law_is_nowhere_greater), sl__law_is_nowhere_greater⟩) (q__law_is_nowhere_greater : PySem.W.codeIn K cd__law_is_nowhere_greater "_law_is_nowhere_greater" = true) (k__law_is_nowhere_greater : PySem.W.keepIn K (.ref f__law_is_nowhere_greater) = true)
    {f__law_limit : Addr} (a__law_limit : PySem.W.nsIn K mainGlobals "_law_limit" = some (some (.ref f__law_limit)))
    {od__law_limit an__law_limit : Option Addr} {sl__law_limit : Array (Option Value)} {oc__law_limit kV__law_limit dc__law_limit pm__law_limit cd__law_limit ct__law_limit : Value}
    (l__law_limit : K.lookup f__law_limit = some ⟨oc__law_limit, od__law_limit, .func (PySem.W.fnOf "_law_limit" "_law_limit" (defArgs s__law_limit) (defBody s__law_limit) (defScope s__law_limit) .none kV__law_limit dc__law_limit pm__law_limit an__law_limit cd__law_limit ct__law_limit), sl__law_limit⟩) (q__law_limit : PySem.W.codeIn K cd__law_limit "_law_limit" = true) (k__law_limit : PySem.W.keepIn K (.ref f__law_limit) = true)
    {f_is_integer : Addr} (a_is_integer : PySem.W.nsIn K mainGlobals "is_integer" = some (some (.ref f_is_integer)))
    {od_is_integer an_is_integer : Option Addr} {sl_is_integer : Array (Option Value)} {oc_is_integer kV_is_integer dc_is_integer pm_is_integer cd_is_integer ct_is_integer : Value}
    (l_is_integer : K.lookup f_is_integer = some ⟨oc_is_integer, od_is_integer, .func (PySem.W.fnOf "is_integer" "is_integer" (defArgs s_is_integer) (defBody s_is_integer) (defScope s_is_integer) .none kV_is_integer dc_is_integer pm_is_integer an_is_integer cd_is_integer ct_is_integer), sl_is_integer⟩) (q_is_integer : PySem.W.codeIn K cd_is_integer "is_integer" = true) (k_is_integer : PySem.W.keepIn K (.ref f_is_integer) = true)
    {f_check_width : Addr} (a_check_width : PySem.W.nsIn K mainGlobals "check_width" = some (some (.ref f_check_width)))
    {od_check_width an_check_width : Option Addr} {sl_check_width : Array (Option Value)} {oc_check_width kV_check_width dc_check_width pm_check_width cd_check_width ct_check_width : Value}
    (l_check_width : K.lookup f_check_width = some ⟨oc_check_width, od_check_width, .func (PySem.W.fnOf "check_width" "check_width" (defArgs s_check_width) (defBody s_check_width) (defScope s_check_width) .none kV_check_width dc_check_width pm_check_width an_check_width cd_check_width ct_check_width), sl_check_width⟩) (q_check_width : PySem.W.codeIn K cd_check_width "check_width" = true) (k_check_width : PySem.W.keepIn K (.ref f_check_width) = true)
    {f_check_steps : Addr} (a_check_steps : PySem.W.nsIn K mainGlobals "check_steps" = some (some (.ref f_check_steps)))
    {od_check_steps an_check_steps : Option Addr} {sl_check_steps : Array (Option Value)} {oc_check_steps kV_check_steps dc_check_steps pm_check_steps cd_check_steps ct_check_steps : Value}
    (l_check_steps : K.lookup f_check_steps = some ⟨oc_check_steps, od_check_steps, .func (PySem.W.fnOf "check_steps" "check_steps" (defArgs s_check_steps) (defBody s_check_steps) (defScope s_check_steps) .none kV_check_steps dc_check_steps pm_check_steps an_check_steps cd_check_steps ct_check_steps), sl_check_steps⟩) (q_check_steps : PySem.W.codeIn K cd_check_steps "check_steps" = true) (k_check_steps : PySem.W.keepIn K (.ref f_check_steps) = true)
    {f_Network___init__ : Addr} (a_Network___init__ : PySem.W.findIn K (.ref c_Network) "__init__" = some (some (.ref f_Network___init__))) (i_Network___init__ : PySem.W.isFn K (.ref f_Network___init__) = true)
    {od_Network___init__ an_Network___init__ : Option Addr} {sl_Network___init__ : Array (Option Value)} {kV_Network___init__ dc_Network___init__ pm_Network___init__ cd_Network___init__ ct_Network___init__ : Value}
    (l_Network___init__ : K.lookup f_Network___init__ = some ⟨(.type "function"), od_Network___init__, .func (PySem.W.fnOf "__init__" "Network.__init__" (defArgs s_Network___init__) (defBody s_Network___init__) (defScope s_Network___init__) .none kV_Network___init__ dc_Network___init__ pm_Network___init__ an_Network___init__ cd_Network___init__ ct_Network___init__), sl_Network___init__⟩) (q_Network___init__ : PySem.W.codeIn K cd_Network___init__ "Network.__init__" = true) (k_Network___init__ : PySem.W.keepIn K (.ref f_Network___init__) = true)
    {f__law_values : Addr} (a__law_values : PySem.W.nsIn K mainGlobals "_law_values" = some (some (.ref f__law_values)))
    {od__law_values an__law_values : Option Addr} {sl__law_values : Array (Option Value)} {oc__law_values kV__law_values dc__law_values pm__law_values cd__law_values ct__law_values : Value}
    (l__law_values : K.lookup f__law_values = some ⟨oc__law_values, od__law_values, .func (PySem.W.fnOf "_law_values" "_law_values" (defArgs s__law_values) (defBody s__law_values) (defScope s__law_values) .none kV__law_values dc__law_values pm__law_values an__law_values cd__law_values ct__law_values), sl__law_values⟩) (q__law_values : PySem.W.codeIn K cd__law_values "_law_values" = true) (k__law_values : PySem.W.keepIn K (.ref f__law_values) = true)
    {f__law_places : Addr} (a__law_places : PySem.W.nsIn K mainGlobals "_law_places" = some (some (.ref f__law_places)))
    {od__law_places an__law_places : Option Addr} {sl__law_places : Array (Option Value)} {oc__law_places kV__law_places dc__law_places pm__law_places cd__law_places ct__law_places : Value}
    (l__law_places : K.lookup f__law_places = some ⟨oc__law_places, od__law_places, .func (PySem.W.fnOf "_law_places" "_law_places" (defArgs s__law_places) (defBody s__law_places) (defScope s__law_places) .none kV__law_places dc__law_places pm__law_places an__law_places cd__law_places ct__law_places), sl__law_places⟩) (q__law_places : PySem.W.codeIn K cd__law_places "_law_places" = true) (k__law_places : PySem.W.keepIn K (.ref f__law_places) = true)
    {f__law_is_short : Addr} (a__law_is_short : PySem.W.nsIn K mainGlobals "_law_is_short" = some (some (.ref f__law_is_short)))
    {od__law_is_short an__law_is_short : Option Addr} {sl__law_is_short : Array (Option Value)} {oc__law_is_short kV__law_is_short dc__law_is_short pm__law_is_short cd__law_is_short ct__law_is_short : Value}
    (l__law_is_short : K.lookup f__law_is_short = some ⟨oc__law_is_short, od__law_is_short, .func (PySem.W.fnOf "_law_is_short" "_law_is_short" (defArgs s__law_is_short) (defBody s__law_is_short) (defScope s__law_is_short) .none kV__law_is_short dc__law_is_short pm__law_is_short an__law_is_short cd__law_is_short ct__law_is_short), sl__law_is_short⟩) (q__law_is_short : PySem.W.codeIn K cd__law_is_short "_law_is_short" = true) (k__law_is_short : PySem.W.keepIn K (.ref f__law_is_short) = true)
    {f__law_obstacles : Addr} (a__law_obstacles : PySem.W.nsIn K mainGlobals "_law_obstacles" = some (some (.ref f__law_obstacles)))
    {od__law_obstacles an__law_obstacles : Option Addr} {sl__law_obstacles : Array (Option Value)} {oc__law_obstacles kV__law_obstacles dc__law_obstacles pm__law_obstacles cd__law_obstacles ct__law_obstacles : Value}
    (l__law_obstacles : K.lookup f__law_obstacles = some ⟨oc__law_obstacles, od__law_obstacles, .func (PySem.W.fnOf "_law_obstacles" "_law_obstacles" (defArgs s__law_obstacles) (defBody s__law_obstacles) (defScope s__law_obstacles) .none kV__law_obstacles dc__law_obstacles pm__law_obstacles an__law_obstacles cd__law_obstacles ct__law_obstacles), sl__law_obstacles⟩) (q__law_obstacles : PySem.W.codeIn K cd__law_obstacles "_law_obstacles" = true) (k__law_obstacles : PySem.W.keepIn K (.ref f__law_obstacles) = true)
    {f__law_candidates : Addr} (a__law_candidates : PySem.W.nsIn K mainGlobals "_law_candidates" = some (some (.ref f__law_candidates)))
    {od__law_candidates an__law_candidates : Option Addr} {sl__law_candidates : Array (Option Value)} {oc__law_candidates kV__law_candidates dc__law_candidates pm__law_candidates cd__law_candidates ct__law_candidates : Value}
    (l__law_candidates : K.lookup f__law_candidates = some ⟨oc__law_candidates, od__law_candidates, .func (PySem.W.fnOf "_law_candidates" "_law_candidates" (defArgs s__law_candidates) (defBody s__law_candidates) (defScope s__law_candidates) .none kV__law_candidates dc__law_candidates pm__law_candidates an__law_candidates cd__law_candidates ct__law_candidates), sl__law_candidates⟩) (q__law_candidates : PySem.W.codeIn K cd__law_candidates "_law_candidates" = true) (k__law_candidates : PySem.W.keepIn K (.ref f__law_candidates) = true)
    {f_is_any_integer : Addr} (a_is_any_integer : PySem.W.nsIn K mainGlobals "is_any_integer" = some (some (.ref f_is_any_integer)))
    {od_is_any_integer an_is_any_integer : Option Addr} {sl_is_any_integer : Array (Option Value)} {oc_is_any_integer kV_is_any_integer dc_is_any_integer pm_is_any_integer cd_is_any_integer ct_is_any_integer : Value}
    (l_is_any_integer : K.lookup f_is_any_integer = some ⟨oc_is_any_integer, od_is_any_integer, .func (PySem.W.fnOf "is_any_integer" "is_any_integer" (defArgs s_is_any_integer) (defBody s_is_any_integer) (defScope s_is_any_integer) .none kV_is_any_integer dc_is_any_integer pm_is_any_integer an_is_any_integer cd_is_any_integer ct_is_any_integer), sl_is_any_integer⟩) (q_is_any_integer : PySem.W.codeIn K cd_is_any_integer "is_any_integer" = true) (k_is_any_integer : PySem.W.keepIn K (.ref f_is_any_integer) = true)
    {f_check_integers : Addr} (a_check_integers : PySem.W.nsIn K mainGlobals "check_integers" = some (some (.ref f_check_integers)))
    {od_check_integers an_check_integers : Option Addr} {sl_check_integers : Array (Option Value)} {oc_check_integers kV_check_integers dc_check_integers pm_check_integers cd_check_integers ct_check_integers : Value}
    (l_check_integers : K.lookup f_check_integers = some ⟨oc_check_integers, od_check_integers, .func (PySem.W.fnOf "check_integers" "check_integers" (defArgs s_check_integers) (defBody s_check_integers) (defScope s_check_integers) .none kV_check_integers dc_check_integers pm_check_integers an_check_integers cd_check_integers ct_check_integers), sl_check_integers⟩) (q_check_integers : PySem.W.codeIn K cd_check_integers "check_integers" = true) (k_check_integers : PySem.W.keepIn K (.ref f_check_integers) = true)
    {f_check_values : Addr} (a_check_values : PySem.W.nsIn K mainGlobals "check_values" = some (some (.ref f_check_values)))
    {od_check_values an_check_values : Option Addr} {sl_check_values : Array (Option Value)} {oc_check_values kV_check_values dc_check_values pm_check_values cd_check_values ct_check_values : Value}
    (l_check_values : K.lookup f_check_values = some ⟨oc_check_values, od_check_values, .func (PySem.W.fnOf "check_values" "check_values" (defArgs s_check_values) (defBody s_check_values) (defScope s_check_values) .none kV_check_values dc_check_values pm_check_values an_check_values cd_check_values ct_check_values), sl_check_values⟩) (q_check_values : PySem.W.codeIn K cd_check_values "check_values" = true) (k_check_values : PySem.W.keepIn K (.ref f_check_values) = true)
    {f_places_up_to : Addr} (a_places_up_to : PySem.W.nsIn K mainGlobals "places_up_to" = some (some (.ref f_places_up_to)))
    {od_places_up_to an_places_up_to : Option Addr} {sl_places_up_to : Array (Option Value)} {oc_places_up_to kV_places_up_to dc_places_up_to pm_places_up_to cd_places_up_to ct_places_up_to : Value}
    (l_places_up_to : K.lookup f_places_up_to = some ⟨oc_places_up_to, od_places_up_to, .func (PySem.W.fnOf "places_up_to" "places_up_to" (defArgs s_places_up_to) (defBody s_places_up_to) (defScope s_places_up_to) .none kV_places_up_to dc_places_up_to pm_places_up_to an_places_up_to cd_places_up_to ct_places_up_to), sl_places_up_to⟩) (q_places_up_to : PySem.W.codeIn K cd_places_up_to "places_up_to" = true) (k_places_up_to : PySem.W.keepIn K (.ref f_places_up_to) = true)
    {f_Network_backwards : Addr} (a_Network_backwards : PySem.W.findIn K (.ref c_Network) "backwards" = some (some (.ref f_Network_backwards))) (i_Network_backwards : PySem.W.isFn K (.ref f_Network_backwards) = true)
    {od_Network_backwards an_Network_backwards : Option Addr} {sl_Network_backwards : Array (Option Value)} {kV_Network_backwards dc_Network_backwards pm_Network_backwards cd_Network_backwards ct_Network_backwards : Value}
    (l_Network_backwards : K.lookup f_Network_backwards = some ⟨(.type "function"), od_Network_backwards, .func (PySem.W.fnOf "backwards" "Network.backwards" (defArgs s_Network_backwards) (defBody s_Network_backwards) (defScope s_Network_backwards) .none kV_Network_backwards dc_Network_backwards pm_Network_backwards an_Network_backwards cd_Network_backwards ct_Network_backwards), sl_Network_backwards⟩) (q_Network_backwards : PySem.W.codeIn K cd_Network_backwards "Network.backwards" = true) (k_Network_backwards : PySem.W.keepIn K (.ref f_Network_backwards) = true)
    {f_hardest : Addr} (a_hardest : PySem.W.nsIn K mainGlobals "hardest" = some (some (.ref f_hardest)))
    {od_hardest an_hardest : Option Addr} {sl_hardest : Array (Option Value)} {oc_hardest kV_hardest dc_hardest pm_hardest cd_hardest ct_hardest : Value}
    (l_hardest : K.lookup f_hardest = some ⟨oc_hardest, od_hardest, .func (PySem.W.fnOf "hardest" "hardest" (defArgs s_hardest) (defBody s_hardest) (defScope s_hardest) .none kV_hardest dc_hardest pm_hardest an_hardest cd_hardest ct_hardest), sl_hardest⟩) (q_hardest : PySem.W.codeIn K cd_hardest "hardest" = true) (k_hardest : PySem.W.keepIn K (.ref f_hardest) = true)
    {f_limits : Addr} (a_limits : PySem.W.nsIn K mainGlobals "limits" = some (some (.ref f_limits)))
    {od_limits an_limits : Option Addr} {sl_limits : Array (Option Value)} {oc_limits kV_limits dc_limits pm_limits cd_limits ct_limits : Value}
    (l_limits : K.lookup f_limits = some ⟨oc_limits, od_limits, .func (PySem.W.fnOf "limits" "limits" (defArgs s_limits) (defBody s_limits) (defScope s_limits) .none kV_limits dc_limits pm_limits an_limits cd_limits ct_limits), sl_limits⟩) (q_limits : PySem.W.codeIn K cd_limits "limits" = true) (k_limits : PySem.W.keepIn K (.ref f_limits) = true)
    {f_is_obstacle : Addr} (a_is_obstacle : PySem.W.nsIn K mainGlobals "is_obstacle" = some (some (.ref f_is_obstacle)))
    {od_is_obstacle an_is_obstacle : Option Addr} {sl_is_obstacle : Array (Option Value)} {oc_is_obstacle kV_is_obstacle dc_is_obstacle pm_is_obstacle cd_is_obstacle ct_is_obstacle : Value}
    (l_is_obstacle : K.lookup f_is_obstacle = some ⟨oc_is_obstacle, od_is_obstacle, .func (PySem.W.fnOf "is_obstacle" "is_obstacle" (defArgs s_is_obstacle) (defBody s_is_obstacle) (defScope s_is_obstacle) .none kV_is_obstacle dc_is_obstacle pm_is_obstacle an_is_obstacle cd_is_obstacle ct_is_obstacle), sl_is_obstacle⟩) (q_is_obstacle : PySem.W.codeIn K cd_is_obstacle "is_obstacle" = true) (k_is_obstacle : PySem.W.keepIn K (.ref f_is_obstacle) = true)
    {f_law : Addr} (a_law : PySem.W.nsIn K mainGlobals "law" = some (some (.ref f_law)))
    {od_law an_law : Option Addr} {sl_law : Array (Option Value)} {oc_law kV_law dc_law pm_law cd_law ct_law : Value}
    (l_law : K.lookup f_law = some ⟨oc_law, od_law, .func (PySem.W.fnOf "law" "law" (defArgs s_law) (defBody s_law) (defScope s_law) .none kV_law dc_law pm_law an_law cd_law ct_law), sl_law⟩) (q_law : PySem.W.codeIn K cd_law "law" = true) (k_law : PySem.W.keepIn K (.ref f_law) = true)
    {p_Network_steps f_Network_steps : Addr} {rs_Network_steps : List Value} (a_Network_steps : PySem.W.findIn K (.ref c_Network) "steps" = some (some (.ref p_Network_steps))) (ge_Network_steps : PySem.W.specialIn K (.ref p_Network_steps) "__get__" = some (some (.builtin "property.__get__"))) (ta_Network_steps : PySem.W.takesIn K (.ref p_Network_steps) = some true) (rc_Network_steps : PySem.W.recIn K p_Network_steps "property" = some (.ref f_Network_steps :: rs_Network_steps))
    {od_Network_steps an_Network_steps : Option Addr} {sl_Network_steps : Array (Option Value)} {oc_Network_steps kV_Network_steps dc_Network_steps pm_Network_steps cd_Network_steps ct_Network_steps : Value}
    (l_Network_steps : K.lookup f_Network_steps = some ⟨oc_Network_steps, od_Network_steps, .func (PySem.W.fnOf "steps" "Network.steps" (defArgs s_Network_steps) (defBody s_Network_steps) (defScope s_Network_steps) .none kV_Network_steps dc_Network_steps pm_Network_steps an_Network_steps cd_Network_steps ct_Network_steps), sl_Network_steps⟩) (q_Network_steps : PySem.W.codeIn K cd_Network_steps "Network.steps" = true) (k_Network_steps : PySem.W.keepIn K (.ref f_Network_steps) = true)
    {p_Network_width f_Network_width : Addr} {rs_Network_width : List Value} (a_Network_width : PySem.W.findIn K (.ref c_Network) "width" = some (some (.ref p_Network_width))) (ge_Network_width : PySem.W.specialIn K (.ref p_Network_width) "__get__" = some (some (.builtin "property.__get__"))) (ta_Network_width : PySem.W.takesIn K (.ref p_Network_width) = some true) (rc_Network_width : PySem.W.recIn K p_Network_width "property" = some (.ref f_Network_width :: rs_Network_width))
    {od_Network_width an_Network_width : Option Addr} {sl_Network_width : Array (Option Value)} {oc_Network_width kV_Network_width dc_Network_width pm_Network_width cd_Network_width ct_Network_width : Value}
    (l_Network_width : K.lookup f_Network_width = some ⟨oc_Network_width, od_Network_width, .func (PySem.W.fnOf "width" "Network.width" (defArgs s_Network_width) (defBody s_Network_width) (defScope s_Network_width) .none kV_Network_width dc_Network_width pm_Network_width an_Network_width cd_Network_width ct_Network_width), sl_Network_width⟩) (q_Network_width : PySem.W.codeIn K cd_Network_width "Network.width" = true) (k_Network_width : PySem.W.keepIn K (.ref f_Network_width) = true)
    (pg_Network : PySem.W.plainGet K c_Network Str.empty = true) (hd_Network : PySem.W.hasDictIn K c_Network = true) (po_Network : PySem.W.plainOver K c_Network = true) (sa_Network : PySem.W.findIn K (.ref c_Network) "__setattr__" = some (some (.builtin "object.__setattr__"))) (mk_Network : PySem.W.makesIn K c_Network = true) (kc_Network : PySem.W.keepIn K (.ref c_Network) = true)
    (na_Network_own_steps : PySem.W.findIn K (.ref c_Network) "own_steps" = some none)
    (na_Network_own_width : PySem.W.findIn K (.ref c_Network) "own_width" = some none)
    (rd_Network : PySem.W.readsIn K c_Network (.type "type") = true) (ga_Network : PySem.W.specialIn K (.ref c_Network) "__getattribute__" = some (some (.builtin "type.__getattribute__")))
    {t_Network_MAX_STEPS : Tok} (cv_Network_MAX_STEPS : PySem.W.findCls K (.ref c_Network) (.type "type") "MAX_STEPS" = some (.val (.int 1000 t_Network_MAX_STEPS)))
    {t_Network_MAX_WIDTH : Tok} (cv_Network_MAX_WIDTH : PySem.W.findCls K (.ref c_Network) (.type "type") "MAX_WIDTH" = some (.val (.int 40 t_Network_MAX_WIDTH)))
    (z_abs : PySem.W.nsIn K mainGlobals "abs" = some none)
    (z_bool : PySem.W.nsIn K mainGlobals "bool" = some none)
    (z_enumerate : PySem.W.nsIn K mainGlobals "enumerate" = some none)
    (z_int : PySem.W.nsIn K mainGlobals "int" = some none)
    (z_isinstance : PySem.W.nsIn K mainGlobals "isinstance" = some none)
    (z_len : PySem.W.nsIn K mainGlobals "len" = some none)
    (z_list : PySem.W.nsIn K mainGlobals "list" = some none)
    (z_max : PySem.W.nsIn K mainGlobals "max" = some none)
    (z_min : PySem.W.nsIn K mainGlobals "min" = some none)
    (z_range : PySem.W.nsIn K mainGlobals "range" = some none)
    (z_repr : PySem.W.nsIn K mainGlobals "repr" = some none)
    (z_set : PySem.W.nsIn K mainGlobals "set" = some none)
    (z_sorted : PySem.W.nsIn K mainGlobals "sorted" = some none)
    (z_str : PySem.W.nsIn K mainGlobals "str" = some none)
    (z_sum : PySem.W.nsIn K mainGlobals "sum" = some none)
    (z_tuple : PySem.W.nsIn K mainGlobals "tuple" = some none)
    (z_zip : PySem.W.nsIn K mainGlobals "zip" = some none) :
    ∃ (T : Tx K mg), ∀ base : Heap, K.In base → base.Ns mainGlobals mg → FnG l.prog w K mg base (L2.CX l.prog w) 9 fa (spM T.ca K m_law) := by
  have e : fa = f_law := by
    have := hfa.symm.trans (PySem.W.mg_of X G a_law)
    cases this
    rfl
  rw [e]
  let T : Tx K mg := {
    c_Network := c_Network
    g_Network := PySem.W.mg_of X G a_Network
    f__law_source := f__law_source
    d__law_source := PySem.W.fnOf "_law_source" "_law_source" (defArgs s__law_source) (defBody s__law_source) (defScope s__law_source) .none kV__law_source dc__law_source pm__law_source an__law_source cd__law_source ct__law_source
    F__law_source := fun_mk (st := s__law_source) l__law_source q__law_source k__law_source
    B__law_source := (fun_mk (st := s__law_source) l__law_source q__law_source k__law_source).binds (ps := ["_law_script", "_law_k"]) fun _ _ _ _ _ _ us hl => match us, hl with | [_, _], _ => rfl
    g__law_source := PySem.W.mg_of X G a__law_source
    f__law_draw := f__law_draw
    d__law_draw := PySem.W.fnOf "_law_draw" "_law_draw" (defArgs s__law_draw) (defBody s__law_draw) (defScope s__law_draw) .none kV__law_draw dc__law_draw pm__law_draw an__law_draw cd__law_draw ct__law_draw
    F__law_draw := fun_mk (st := s__law_draw) l__law_draw q__law_draw k__law_draw
    B__law_draw := (fun_mk (st := s__law_draw) l__law_draw q__law_draw k__law_draw).binds (ps := ["_law_source_here", "_law_count"]) fun _ _ _ _ _ _ us hl => match us, hl with | [_, _], _ => rfl
    g__law_draw := PySem.W.mg_of X G a__law_draw
    f__law_steps := f__law_steps
    d__law_steps := PySem.W.fnOf "_law_steps" "_law_steps" (defArgs s__law_steps) (defBody s__law_steps) (defScope s__law_steps) .none kV__law_steps dc__law_steps pm__law_steps an__law_steps cd__law_steps ct__law_steps
    F__law_steps := fun_mk (st := s__law_steps) l__law_steps q__law_steps k__law_steps
    B__law_steps := (fun_mk (st := s__law_steps) l__law_steps q__law_steps k__law_steps).binds (ps := ["_law_source_here", "_law_width", "_law_most"]) fun _ _ _ _ _ _ us hl => match us, hl with | [_, _, _], _ => rfl
    g__law_steps := PySem.W.mg_of X G a__law_steps
    f__law_sets := f__law_sets
    d__law_sets := PySem.W.fnOf "_law_sets" "_law_sets" (defArgs s__law_sets) (defBody s__law_sets) (defScope s__law_sets) .none kV__law_sets dc__law_sets pm__law_sets an__law_sets cd__law_sets ct__law_sets
    F__law_sets := fun_mk (st := s__law_sets) l__law_sets q__law_sets k__law_sets
    B__law_sets := (fun_mk (st := s__law_sets) l__law_sets q__law_sets k__law_sets).binds (ps := ["_law_width", "_law_count"]) fun _ _ _ _ _ _ us hl => match us, hl with | [_, _], _ => rfl
    g__law_sets := PySem.W.mg_of X G a__law_sets
    f__law_result := f__law_result
    d__law_result := PySem.W.fnOf "_law_result" "_law_result" (defArgs s__law_result) (defBody s__law_result) (defScope s__law_result) .none kV__law_result dc__law_result pm__law_result an__law_result cd__law_result ct__law_result
    F__law_result := fun_mk (st := s__law_result) l__law_result q__law_result k__law_result
    B__law_result := (fun_mk (st := s__law_result) l__law_result q__law_result k__law_result).binds (ps := ["_law_steps_here", "_law_values_here"]) fun _ _ _ _ _ _ us hl => match us, hl with | [_, _], _ => rfl
    g__law_result := PySem.W.mg_of X G a__law_result
    f__law_moves_in_front := f__law_moves_in_front
    d__law_moves_in_front := PySem.W.fnOf "_law_moves_in_front" "_law_moves_in_front" (defArgs s__law_moves_in_front) (defBody s__law_moves_in_front) (defScope s__law_moves_in_front) .none kV__law_moves_in_front dc__law_moves_in_front pm__law_moves_in_front an__law_moves_in_front cd__law_moves_in_front ct__law_moves_in_front
    F__law_moves_in_front := fun_mk (st := s__law_moves_in_front) l__law_moves_in_front q__law_moves_in_front k__law_moves_in_front
    B__law_moves_in_front := (fun_mk (st := s__law_moves_in_front) l__law_moves_in_front q__law_moves_in_front k__law_moves_in_front).binds (ps := ["_law_steps_here", "_law_width", "_law_places_here"]) fun _ _ _ _ _ _ us hl => match us, hl with | [_, _, _], _ => rfl
    g__law_moves_in_front := PySem.W.mg_of X G a__law_moves_in_front
    f__law_is_nowhere_greater := f__law_is_nowhere_greater
    d__law_is_nowhere_greater := PySem.W.fnOf "_law_is_nowhere_greater" "_law_is_nowhere_greater" (defArgs s__law_is_nowhere_greater) (defBody s__law_is_nowhere_greater) (defScope s__law_is_nowhere_greater) .none kV__law_is_nowhere_greater dc__law_is_nowhere_greater pm__law_is_nowhere_greater an__law_is_nowhere_greater cd__law_is_nowhere_greater ct__law_is_nowhere_greater
    F__law_is_nowhere_greater := fun_mk (st := s__law_is_nowhere_greater) l__law_is_nowhere_greater q__law_is_nowhere_greater k__law_is_nowhere_greater
    B__law_is_nowhere_greater := (fun_mk (st := s__law_is_nowhere_greater) l__law_is_nowhere_greater q__law_is_nowhere_greater k__law_is_nowhere_greater).binds (ps := ["_law_places_here", "_law_bound"]) fun _ _ _ _ _ _ us hl => match us, hl with | [_, _], _ => rfl
    g__law_is_nowhere_greater := PySem.W.mg_of X G a__law_is_nowhere_greater
    f__law_limit := f__law_limit
    d__law_limit := PySem.W.fnOf "_law_limit" "_law_limit" (defArgs s__law_limit) (defBody s__law_limit) (defScope s__law_limit) .none kV__law_limit dc__law_limit pm__law_limit an__law_limit cd__law_limit ct__law_limit
    F__law_limit := fun_mk (st := s__law_limit) l__law_limit q__law_limit k__law_limit
    B__law_limit := (fun_mk (st := s__law_limit) l__law_limit q__law_limit k__law_limit).binds (ps := ["_law_steps_here", "_law_width", "_law_count"]) fun _ _ _ _ _ _ us hl => match us, hl with | [_, _, _], _ => rfl
    g__law_limit := PySem.W.mg_of X G a__law_limit
    f_is_integer := f_is_integer
    d_is_integer := PySem.W.fnOf "is_integer" "is_integer" (defArgs s_is_integer) (defBody s_is_integer) (defScope s_is_integer) .none kV_is_integer dc_is_integer pm_is_integer an_is_integer cd_is_integer ct_is_integer
    F_is_integer := fun_mk (st := s_is_integer) l_is_integer q_is_integer k_is_integer
    B_is_integer := (fun_mk (st := s_is_integer) l_is_integer q_is_integer k_is_integer).binds (ps := ["value", "low", "high"]) fun _ _ _ _ _ _ us hl => match us, hl with | [_, _, _], _ => rfl
    g_is_integer := PySem.W.mg_of X G a_is_integer
    f_check_width := f_check_width
    d_check_width := PySem.W.fnOf "check_width" "check_width" (defArgs s_check_width) (defBody s_check_width) (defScope s_check_width) .none kV_check_width dc_check_width pm_check_width an_check_width cd_check_width ct_check_width
    F_check_width := fun_mk (st := s_check_width) l_check_width q_check_width k_check_width
    B_check_width := (fun_mk (st := s_check_width) l_check_width q_check_width k_check_width).binds (ps := ["width"]) fun _ _ _ _ _ _ us hl => match us, hl with | [_], _ => rfl
    g_check_width := PySem.W.mg_of X G a_check_width
    f_check_steps := f_check_steps
    d_check_steps := PySem.W.fnOf "check_steps" "check_steps" (defArgs s_check_steps) (defBody s_check_steps) (defScope s_check_steps) .none kV_check_steps dc_check_steps pm_check_steps an_check_steps cd_check_steps ct_check_steps
    F_check_steps := fun_mk (st := s_check_steps) l_check_steps q_check_steps k_check_steps
    B_check_steps := (fun_mk (st := s_check_steps) l_check_steps q_check_steps k_check_steps).binds (ps := ["width", "steps"]) fun _ _ _ _ _ _ us hl => match us, hl with | [_, _], _ => rfl
    g_check_steps := PySem.W.mg_of X G a_check_steps
    f_Network___init__ := f_Network___init__
    d_Network___init__ := PySem.W.fnOf "__init__" "Network.__init__" (defArgs s_Network___init__) (defBody s_Network___init__) (defScope s_Network___init__) .none kV_Network___init__ dc_Network___init__ pm_Network___init__ an_Network___init__ cd_Network___init__ ct_Network___init__
    F_Network___init__ := fun_mk (st := s_Network___init__) l_Network___init__ q_Network___init__ k_Network___init__
    B_Network___init__ := (fun_mk (st := s_Network___init__) l_Network___init__ q_Network___init__ k_Network___init__).binds (ps := ["self", "width", "steps"]) fun _ _ _ _ _ _ us hl => match us, hl with | [_, _, _], _ => rfl
    f__law_values := f__law_values
    d__law_values := PySem.W.fnOf "_law_values" "_law_values" (defArgs s__law_values) (defBody s__law_values) (defScope s__law_values) .none kV__law_values dc__law_values pm__law_values an__law_values cd__law_values ct__law_values
    F__law_values := fun_mk (st := s__law_values) l__law_values q__law_values k__law_values
    B__law_values := (fun_mk (st := s__law_values) l__law_values q__law_values k__law_values).binds (ps := ["_law_source_here", "_law_width"]) fun _ _ _ _ _ _ us hl => match us, hl with | [_, _], _ => rfl
    g__law_values := PySem.W.mg_of X G a__law_values
    f__law_places := f__law_places
    d__law_places := PySem.W.fnOf "_law_places" "_law_places" (defArgs s__law_places) (defBody s__law_places) (defScope s__law_places) .none kV__law_places dc__law_places pm__law_places an__law_places cd__law_places ct__law_places
    F__law_places := fun_mk (st := s__law_places) l__law_places q__law_places k__law_places
    B__law_places := (fun_mk (st := s__law_places) l__law_places q__law_places k__law_places).binds (ps := ["_law_values_here", "_law_threshold"]) fun _ _ _ _ _ _ us hl => match us, hl with | [_, _], _ => rfl
    g__law_places := PySem.W.mg_of X G a__law_places
    f__law_is_short := f__law_is_short
    d__law_is_short := PySem.W.fnOf "_law_is_short" "_law_is_short" (defArgs s__law_is_short) (defBody s__law_is_short) (defScope s__law_is_short) .none kV__law_is_short dc__law_is_short pm__law_is_short an__law_is_short cd__law_is_short ct__law_is_short
    F__law_is_short := fun_mk (st := s__law_is_short) l__law_is_short q__law_is_short k__law_is_short
    B__law_is_short := (fun_mk (st := s__law_is_short) l__law_is_short q__law_is_short k__law_is_short).binds (ps := ["_law_places_here", "_law_bound", "_law_place"]) fun _ _ _ _ _ _ us hl => match us, hl with | [_, _, _], _ => rfl
    g__law_is_short := PySem.W.mg_of X G a__law_is_short
    f__law_obstacles := f__law_obstacles
    d__law_obstacles := PySem.W.fnOf "_law_obstacles" "_law_obstacles" (defArgs s__law_obstacles) (defBody s__law_obstacles) (defScope s__law_obstacles) .none kV__law_obstacles dc__law_obstacles pm__law_obstacles an__law_obstacles cd__law_obstacles ct__law_obstacles
    F__law_obstacles := fun_mk (st := s__law_obstacles) l__law_obstacles q__law_obstacles k__law_obstacles
    B__law_obstacles := (fun_mk (st := s__law_obstacles) l__law_obstacles q__law_obstacles k__law_obstacles).binds (ps := ["_law_bounds", "_law_values_here"]) fun _ _ _ _ _ _ us hl => match us, hl with | [_, _], _ => rfl
    g__law_obstacles := PySem.W.mg_of X G a__law_obstacles
    f__law_candidates := f__law_candidates
    d__law_candidates := PySem.W.fnOf "_law_candidates" "_law_candidates" (defArgs s__law_candidates) (defBody s__law_candidates) (defScope s__law_candidates) .none kV__law_candidates dc__law_candidates pm__law_candidates an__law_candidates cd__law_candidates ct__law_candidates
    F__law_candidates := fun_mk (st := s__law_candidates) l__law_candidates q__law_candidates k__law_candidates
    B__law_candidates := (fun_mk (st := s__law_candidates) l__law_candidates q__law_candidates k__law_candidates).binds (ps := ["_law_width", "_law_found"]) fun _ _ _ _ _ _ us hl => match us, hl with | [_, _], _ => rfl
    g__law_candidates := PySem.W.mg_of X G a__law_candidates
    f_is_any_integer := f_is_any_integer
    d_is_any_integer := PySem.W.fnOf "is_any_integer" "is_any_integer" (defArgs s_is_any_integer) (defBody s_is_any_integer) (defScope s_is_any_integer) .none kV_is_any_integer dc_is_any_integer pm_is_any_integer an_is_any_integer cd_is_any_integer ct_is_any_integer
    F_is_any_integer := fun_mk (st := s_is_any_integer) l_is_any_integer q_is_any_integer k_is_any_integer
    B_is_any_integer := (fun_mk (st := s_is_any_integer) l_is_any_integer q_is_any_integer k_is_any_integer).binds (ps := ["value"]) fun _ _ _ _ _ _ us hl => match us, hl with | [_], _ => rfl
    g_is_any_integer := PySem.W.mg_of X G a_is_any_integer
    f_check_integers := f_check_integers
    d_check_integers := PySem.W.fnOf "check_integers" "check_integers" (defArgs s_check_integers) (defBody s_check_integers) (defScope s_check_integers) .none kV_check_integers dc_check_integers pm_check_integers an_check_integers cd_check_integers ct_check_integers
    F_check_integers := fun_mk (st := s_check_integers) l_check_integers q_check_integers k_check_integers
    B_check_integers := (fun_mk (st := s_check_integers) l_check_integers q_check_integers k_check_integers).binds (ps := ["values"]) fun _ _ _ _ _ _ us hl => match us, hl with | [_], _ => rfl
    g_check_integers := PySem.W.mg_of X G a_check_integers
    f_check_values := f_check_values
    d_check_values := PySem.W.fnOf "check_values" "check_values" (defArgs s_check_values) (defBody s_check_values) (defScope s_check_values) .none kV_check_values dc_check_values pm_check_values an_check_values cd_check_values ct_check_values
    F_check_values := fun_mk (st := s_check_values) l_check_values q_check_values k_check_values
    B_check_values := (fun_mk (st := s_check_values) l_check_values q_check_values k_check_values).binds (ps := ["width", "values"]) fun _ _ _ _ _ _ us hl => match us, hl with | [_, _], _ => rfl
    g_check_values := PySem.W.mg_of X G a_check_values
    f_places_up_to := f_places_up_to
    d_places_up_to := PySem.W.fnOf "places_up_to" "places_up_to" (defArgs s_places_up_to) (defBody s_places_up_to) (defScope s_places_up_to) .none kV_places_up_to dc_places_up_to pm_places_up_to an_places_up_to cd_places_up_to ct_places_up_to
    F_places_up_to := fun_mk (st := s_places_up_to) l_places_up_to q_places_up_to k_places_up_to
    B_places_up_to := (fun_mk (st := s_places_up_to) l_places_up_to q_places_up_to k_places_up_to).binds (ps := ["values", "threshold"]) fun _ _ _ _ _ _ us hl => match us, hl with | [_, _], _ => rfl
    g_places_up_to := PySem.W.mg_of X G a_places_up_to
    f_Network_backwards := f_Network_backwards
    d_Network_backwards := PySem.W.fnOf "backwards" "Network.backwards" (defArgs s_Network_backwards) (defBody s_Network_backwards) (defScope s_Network_backwards) .none kV_Network_backwards dc_Network_backwards pm_Network_backwards an_Network_backwards cd_Network_backwards ct_Network_backwards
    F_Network_backwards := fun_mk (st := s_Network_backwards) l_Network_backwards q_Network_backwards k_Network_backwards
    B_Network_backwards := (fun_mk (st := s_Network_backwards) l_Network_backwards q_Network_backwards k_Network_backwards).binds (ps := ["self"]) fun _ _ _ _ _ _ us hl => match us, hl with | [_], _ => rfl
    me_Network_backwards := ⟨a_Network_backwards, i_Network_backwards, k_Network_backwards⟩
    f_hardest := f_hardest
    d_hardest := PySem.W.fnOf "hardest" "hardest" (defArgs s_hardest) (defBody s_hardest) (defScope s_hardest) .none kV_hardest dc_hardest pm_hardest an_hardest cd_hardest ct_hardest
    F_hardest := fun_mk (st := s_hardest) l_hardest q_hardest k_hardest
    B_hardest := (fun_mk (st := s_hardest) l_hardest q_hardest k_hardest).binds (ps := ["network"]) fun _ _ _ _ _ _ us hl => match us, hl with | [_], _ => rfl
    g_hardest := PySem.W.mg_of X G a_hardest
    f_limits := f_limits
    d_limits := PySem.W.fnOf "limits" "limits" (defArgs s_limits) (defBody s_limits) (defScope s_limits) .none kV_limits dc_limits pm_limits an_limits cd_limits ct_limits
    F_limits := fun_mk (st := s_limits) l_limits q_limits k_limits
    B_limits := (fun_mk (st := s_limits) l_limits q_limits k_limits).binds (ps := ["network"]) fun _ _ _ _ _ _ us hl => match us, hl with | [_], _ => rfl
    g_limits := PySem.W.mg_of X G a_limits
    f_is_obstacle := f_is_obstacle
    d_is_obstacle := PySem.W.fnOf "is_obstacle" "is_obstacle" (defArgs s_is_obstacle) (defBody s_is_obstacle) (defScope s_is_obstacle) .none kV_is_obstacle dc_is_obstacle pm_is_obstacle an_is_obstacle cd_is_obstacle ct_is_obstacle
    F_is_obstacle := fun_mk (st := s_is_obstacle) l_is_obstacle q_is_obstacle k_is_obstacle
    B_is_obstacle := (fun_mk (st := s_is_obstacle) l_is_obstacle q_is_obstacle k_is_obstacle).binds (ps := ["network", "values", "value"]) fun _ _ _ _ _ _ us hl => match us, hl with | [_, _, _], _ => rfl
    g_is_obstacle := PySem.W.mg_of X G a_is_obstacle
    f_law := f_law
    d_law := PySem.W.fnOf "law" "law" (defArgs s_law) (defBody s_law) (defScope s_law) .none kV_law dc_law pm_law an_law cd_law ct_law
    F_law := fun_mk (st := s_law) l_law q_law k_law
    B_law := (fun_mk (st := s_law) l_law q_law k_law).binds (ps := ["_law_script"]) fun _ _ _ _ _ _ us hl => match us, hl with | [_], _ => rfl
    g_law := PySem.W.mg_of X G a_law
    f_Network_steps := f_Network_steps
    d_Network_steps := PySem.W.fnOf "steps" "Network.steps" (defArgs s_Network_steps) (defBody s_Network_steps) (defScope s_Network_steps) .none kV_Network_steps dc_Network_steps pm_Network_steps an_Network_steps cd_Network_steps ct_Network_steps
    F_Network_steps := fun_mk (st := s_Network_steps) l_Network_steps q_Network_steps k_Network_steps
    B_Network_steps := (fun_mk (st := s_Network_steps) l_Network_steps q_Network_steps k_Network_steps).binds (ps := ["self"]) fun _ _ _ _ _ _ us hl => match us, hl with | [_], _ => rfl
    p_Network_steps := p_Network_steps
    pr_Network_steps := ⟨a_Network_steps, ge_Network_steps, ta_Network_steps, rs_Network_steps, rc_Network_steps⟩
    f_Network_width := f_Network_width
    d_Network_width := PySem.W.fnOf "width" "Network.width" (defArgs s_Network_width) (defBody s_Network_width) (defScope s_Network_width) .none kV_Network_width dc_Network_width pm_Network_width an_Network_width cd_Network_width ct_Network_width
    F_Network_width := fun_mk (st := s_Network_width) l_Network_width q_Network_width k_Network_width
    B_Network_width := (fun_mk (st := s_Network_width) l_Network_width q_Network_width k_Network_width).binds (ps := ["self"]) fun _ _ _ _ _ _ us hl => match us, hl with | [_], _ => rfl
    p_Network_width := p_Network_width
    pr_Network_width := ⟨a_Network_width, ge_Network_width, ta_Network_width, rs_Network_width, rc_Network_width⟩
    cl_Network := ⟨pg_Network, hd_Network, po_Network, sa_Network⟩
    mk_Network := ⟨mk_Network, a_Network___init__, i_Network___init__, kc_Network⟩
    na_Network_own_steps := na_Network_own_steps
    na_Network_own_width := na_Network_own_width
    mc_Network := .type "type"
    rd_Network := ⟨rd_Network, ga_Network⟩
    v_Network_MAX_STEPS := .int 1000 t_Network_MAX_STEPS
    cv_Network_MAX_STEPS := ⟨cv_Network_MAX_STEPS, _, rfl⟩
    v_Network_MAX_WIDTH := .int 40 t_Network_MAX_WIDTH
    cv_Network_MAX_WIDTH := ⟨cv_Network_MAX_WIDTH, _, rfl⟩
    z_abs := PySem.W.mg_none_of X G z_abs
    z_bool := PySem.W.mg_none_of X G z_bool
    z_enumerate := PySem.W.mg_none_of X G z_enumerate
    z_int := PySem.W.mg_none_of X G z_int
    z_isinstance := PySem.W.mg_none_of X G z_isinstance
    z_len := PySem.W.mg_none_of X G z_len
    z_list := PySem.W.mg_none_of X G z_list
    z_max := PySem.W.mg_none_of X G z_max
    z_min := PySem.W.mg_none_of X G z_min
    z_range := PySem.W.mg_none_of X G z_range
    z_repr := PySem.W.mg_none_of X G z_repr
    z_set := PySem.W.mg_none_of X G z_set
    z_sorted := PySem.W.mg_none_of X G z_sorted
    z_str := PySem.W.mg_none_of X G z_str
    z_sum := PySem.W.mg_none_of X G z_sum
    z_tuple := PySem.W.mg_none_of X G z_tuple
    z_zip := PySem.W.mg_none_of X G z_zip }
  exact ⟨T, fun base _ _ => ok_law T⟩
theorem walk_fact {P : Program} {w : World} {K : PySem.W.Frag} {mg : Str → Option Value} {fa : Addr} (h : ∃ (T : Tx K mg), ∀ base : Heap, K.In base → base.Ns mainGlobals mg → FnG P w K mg base (L2.CX P w) 9 fa (spM T.ca K m_law)) :
    ∃ (ca : Nat → Addr), ∀ base : Heap, K.In base → base.Ns mainGlobals mg → FnG P w K mg base (L2.CX P w) 9 fa (spM ca K m_law) :=
  let ⟨T, h1⟩ := h
  ⟨T.ca, h1⟩
end Lw29

namespace Lw29
open PySem (Str)
open DL Nw
local macro_rules | `(tactic| walk_at "g") => `(tactic| first | exact rfl | (with_reducible assumption))
local macro_rules | `(tactic| walk_at "s") => `(tactic| first | (with_reducible exact set_0) | ((with_reducible apply set_s); walk_at "s") | (with_reducible assumption) | exact rfl)
local macro_rules | `(tactic| walk_at "fl") => `(tactic| first | (with_reducible exact nums_frz _) | (with_reducible exact fzL_n) | ((with_reducible apply fzL_c); walk_at "f"; walk_at "fl") | (with_reducible assumption))
local macro_rules | `(tactic| walk_at "f") => `(tactic| first | (with_reducible exact fz_i) | (with_reducible exact fz_b) | (with_reducible exact fz_n) | (with_reducible exact fz_s) | (with_reducible exact fz_l) | (with_reducible exact fz_t) | ((with_reducible apply fz_lst); walk_at "fl") | ((with_reducible apply fz_tup); walk_at "fl") | (with_reducible assumption) | exact rfl)
local macro_rules | `(tactic| walk_at "k") => `(tactic| first | (with_reducible assumption) | (with_reducible exact rfl) | omega | (intro z; omega) | decide)
local macro_rules | `(tactic| walk_at "d") => `(tactic| first | (with_reducible exact od_val) | (with_reducible exact od_newL) | (with_reducible exact od_newT) | ((with_reducible apply od_eq); first | (with_reducible exact rfl) | ((with_reducible apply nbl_n); walk_at "k") | ((with_reducible apply bl_n); walk_at "k") | ((with_reducible apply bl_y); walk_at "k") | ((with_reducible apply nbl_y); walk_at "k")))
local macro_rules | `(tactic| walk_at "h") => `(tactic| first | (with_reducible assumption) | (simp only [List.nil_append, List.cons_append]; with_reducible assumption))
local macro_rules | `(tactic| walk_at "o") => `(tactic| first | (with_reducible assumption) | (with_reducible exact add_i) | (with_reducible exact sub_i) | (with_reducible exact lt_i) | (with_reducible exact le_i) | (with_reducible exact gt_i) | (with_reducible exact ge_i) | (with_reducible exact int_i) | (with_reducible exact int_b) | (with_reducible exact abs_i) | (with_reducible exact neg_i) | (with_reducible exact oLen_l) | (with_reducible exact oLen_scr _) | (with_reducible exact len_t) | (with_reducible exact tup_t) | (with_reducible exact oSorted_l) | (with_reducible exact oSum_nums _ _) | (with_reducible exact eq_of (pEq_int _ _)) | (with_reducible exact ne_of (pNe_int _ _)) | (with_reducible exact eq_of (pEq_lst _ _ _ _)) | (with_reducible exact ne_of (pNe_lst _ _ _ _)) | (with_reducible exact eq_of (pEq_tup _ _)) | (with_reducible exact ne_of (pNe_tup _ _)) | (with_reducible exact eq_of (pEq_bl _ _)) | (with_reducible exact ne_of (pNe_bl _ _)) | ((with_reducible apply lst_o); omega) | ((with_reducible apply lst_t); omega) | ((with_reducible apply tup_l); omega) | ((with_reducible apply oMod_v); omega) | ((with_reducible apply oDiv_v); omega; omega) | ((with_reducible apply oDiv_w); omega; omega) | ((with_reducible apply oMul_v); omega) | ((with_reducible apply oMul_l); omega) | ((with_reducible apply oIx_nums); omega; omega) | ((with_reducible apply oIx_tup); omega; omega))
local macro_rules | `(tactic| walk_at "a") => `(tactic| first | (with_reducible exact xANil) | ((with_reducible apply xACons); walk_at "e"; walk_at "a"))
local macro_rules | `(tactic| walk_at "it") => `(tactic| first | (with_reducible exact lst_it) | (with_reducible exact tup_it) | exact rfl)
local macro_rules | `(tactic| walk_at "cd") => `(tactic| first | (with_reducible exact nums_colds _) | (with_reducible exact colds_range _ _) | (with_reducible assumption) | exact rfl)
local macro_rules | `(tactic| walk_at "w") => `(tactic| first | ((with_reducible apply wE); walk_at "e"; walk_at "it"; walk_at "cd") | (with_reducible assumption))
local macro_rules | `(tactic| walk_at "e") => `(tactic| first | (with_reducible assumption) | (with_reducible exact xC) | ((with_reducible apply xN); walk_at "g"; exact rfl) | ((with_reducible apply xNf); walk_at "g"; exact rfl; walk_at "f"; walk_at "s") | ((with_reducible apply xMv); walk_at "g"; walk_at "s") | ((with_reducible apply xOvv); walk_at "e"; walk_at "e"; walk_at "o"; walk_at "d") | ((with_reducible apply xOvs); walk_at "e"; walk_at "g"; walk_at "o"; walk_at "d") | ((with_reducible apply xOsv); walk_at "g"; walk_at "e"; walk_at "g"; walk_at "o"; walk_at "d") | ((with_reducible apply xOss); walk_at "g"; walk_at "g"; walk_at "o"; walk_at "d") | ((with_reducible apply xOv); walk_at "e"; walk_at "o"; walk_at "d") | ((with_reducible apply xOs); walk_at "g"; walk_at "o"; walk_at "d") | ((with_reducible apply xCall); walk_at "a"; walk_at "h") | ((with_reducible apply xCallL); walk_at "a"; walk_at "g"; walk_at "a"; walk_at "g"; exact rfl; walk_at "h"; exact rfl; walk_at "s") | ((with_reducible apply xCallLc); walk_at "a"; walk_at "g"; walk_at "a"; walk_at "g"; exact rfl; walk_at "h") | ((with_reducible apply xMake); walk_at "a"; walk_at "h") | ((with_reducible apply xFz); walk_at "e"; walk_at "f") | ((with_reducible apply xMth); walk_at "e"; walk_at "m"; walk_at "a"; walk_at "h") | ((with_reducible apply xLst); walk_at "a"; exact rfl) | ((with_reducible apply xTup); walk_at "a"; exact rfl; walk_at "fl") | ((with_reducible apply xNot); walk_at "e") | ((with_reducible apply xAndB); walk_at "e"; walk_at "e") | ((with_reducible apply xOrB); walk_at "e"; walk_at "e") | ((with_reducible apply xIfT); walk_at "c"; walk_at "e") | ((with_reducible apply xIfF); walk_at "c"; walk_at "e") | ((with_reducible apply xApp); walk_at "g"; exact rfl; walk_at "e"; walk_at "g"; walk_at "n"; walk_at "s") | ((with_reducible apply xExt); walk_at "g"; exact rfl; walk_at "e"; walk_at "g"; walk_at "n"; walk_at "s") | ((with_reducible apply xExtT); walk_at "g"; exact rfl; walk_at "e"; walk_at "g"; walk_at "n"; walk_at "s") | ((with_reducible apply xMtS); walk_at "g"; exact rfl; walk_at "g"; walk_at "o"; walk_at "d") | ((with_reducible apply xEqI); walk_at "e"; walk_at "e"; exact rfl; exact rfl; walk_at "h"; walk_at "i") | ((with_reducible apply xLenI); walk_at "e"; exact rfl; walk_at "h"; walk_at "n"))
local macro_rules | `(tactic| walk_at "i") => `(tactic| first | exact rfl | (show D.bl (decide _) = _; apply bl_y; walk_at "k") | (show D.bl (!decide _) = _; apply nbl_n; walk_at "k"))
local macro_rules | `(tactic| walk_at "n") => `(tactic| first | (simp only [nums_len, List.length_append, List.length_cons, List.length_nil]; omega) | omega | exact rfl)
local macro_rules | `(tactic| walk_at "c") => `(tactic| first | ((with_reducible apply cE); walk_at "e") | ((with_reducible apply cNotF); walk_at "c") | ((with_reducible apply cNotT); walk_at "c") | ((with_reducible apply cOrT); walk_at "c") | ((with_reducible apply cAndF); walk_at "c") | ((with_reducible apply cOrF); walk_at "c"; walk_at "c") | ((with_reducible apply cAndT); walk_at "c"; walk_at "c"))
local macro_rules | `(tactic| walk_at "t") => `(tactic| first | ((with_reducible apply gN_r); walk_at "s") | ((with_reducible apply gIx_r); exact rfl; walk_at "g"; walk_at "e"; walk_at "g"; walk_at "j"; walk_at "s"))
local macro_rules | `(tactic| walk_at "j") => `(tactic| first | exact rfl | (simp only [nums_len]; apply ixN_nat <;> omega))
local macro_rules | `(tactic| walk_at "z") => `(tactic| first | ((with_reducible apply zAsg); walk_at "e"; walk_at "t") | ((with_reducible apply zExpr); walk_at "e") | ((with_reducible apply zRet); walk_at "e") | ((with_reducible apply zPar); walk_at "a"; walk_at "s"; walk_at "s") | ((with_reducible apply zAug); walk_at "g"; exact rfl; walk_at "e"; walk_at "o"; walk_at "s") | (with_reducible exact zSkip) | ((with_reducible apply zNo); walk_at "c"; walk_at "z") | ((with_reducible apply zYes); walk_at "c"; walk_at "z") | ((with_reducible apply zSeq); walk_at "z"; walk_at "z") | ((with_reducible apply zSeqR); walk_at "z"))
local macro_rules | `(tactic| walk_at "m") => `(tactic| first | (with_reducible assumption) | exact rfl)
theorem fw_ne : (("own_width" : Str) = "own_steps") = False := eq_false (by decide +kernel)
theorem fs_ne : (("own_steps" : Str) = "own_width") = False := eq_false (by decide +kernel)
theorem fs_beq : (("own_steps" : Str) == "own_width") = false := by decide +kernel
abbrev net (o : Bool) (w : Int) (ss : List Int) : D := .ins o 0 [("own_width", .int w), ("own_steps", .tup (nums ss))]
theorem is_integer_ok (a lo hi : Int) : m_is_integer [.int a, .int lo, .int hi] = .ok (.bl (decide (lo ≤ a ∧ a ≤ hi))) [some (.int a), some (.int lo), some (.int hi)] := by
  by_cases h1 : lo ≤ a <;> by_cases h2 : a ≤ hi <;> simp [m_is_integer, b_is_integer, h1, h2, fn, sSeq, SR.thn, sAsg, sExpr, sRet, sRetN, sIf, sNext, sFail, sBrk, sCont, Res.toS, Res.toN, Res.bind, tE, tNotM, tOrM, tAndM, tYesM, eC, eN, eMv, eOp, opds, eAnd, eOr, eNot, eIf, eChain, aNil, aCons, eLst, eTup, eCall, eCallL, eFz, eLc, eLc2, eApp, isLst, wipeS, eMake, eEqI, insC, keepL, getS, gN, gIx, gT, gTupM, sPar, sFor, iR1, iR2, iRD, iE, iEn, iEnT, iEnA, iEA, oIsiB, noScr, tyName, f2, pLe, pLt, pGe, pGt, oAdd, oSub, oMul, oMod, oDiv, oPow, oNeg, oAbs, oInt, oMax2, oMin2, oLen, items, lstItems, tupItems, hot, cold, Out.d, frz, frzL, frzF, List.range, List.range.loop, isN, oIsN, oNotN, oIsB, oNotB, pEq_int, pNe_int, pEq_bl, pNe_bl, pEq_lst, pNe_lst, pEq_tup, pNe_tup, kb_NoneType_int, kb_NoneType_bool, kb_NoneType_list, kb_NoneType_tuple, kb_NoneType_str, kb_bool_int, kb_bool_bool, kb_bool_list, kb_bool_tuple, kb_bool_str, kb_int_int, kb_int_bool, kb_int_list, kb_int_tuple, kb_int_str, kb_str_int, kb_str_bool, kb_str_list, kb_str_tuple, kb_str_str, kb_list_int, kb_list_bool, kb_list_list, kb_list_tuple, kb_list_str, kb_tuple_int, kb_tuple_bool, kb_tuple_list, kb_tuple_tuple, kb_tuple_str, kb_dict_int, kb_dict_bool, kb_dict_list, kb_dict_tuple, kb_dict_str]
theorem is_any_ok (a : Int) : m_is_any_integer [.int a] = .ok (.bl true) [some (.int a)] := by
  simp [m_is_any_integer, b_is_any_integer, fn, sSeq, SR.thn, sAsg, sExpr, sRet, sRetN, sIf, sNext, sFail, sBrk, sCont, Res.toS, Res.toN, Res.bind, tE, tNotM, tOrM, tAndM, tYesM, eC, eN, eMv, eOp, opds, eAnd, eOr, eNot, eIf, eChain, aNil, aCons, eLst, eTup, eCall, eCallL, eFz, eLc, eLc2, eApp, isLst, wipeS, eMake, eEqI, insC, keepL, getS, gN, gIx, gT, gTupM, sPar, sFor, iR1, iR2, iRD, iE, iEn, iEnT, iEnA, iEA, oIsiB, noScr, tyName, f2, pLe, pLt, pGe, pGt, oAdd, oSub, oMul, oMod, oDiv, oPow, oNeg, oAbs, oInt, oMax2, oMin2, oLen, items, lstItems, tupItems, hot, cold, Out.d, frz, frzL, frzF, List.range, List.range.loop, isN, oIsN, oNotN, oIsB, oNotB, pEq_int, pNe_int, pEq_bl, pNe_bl, pEq_lst, pNe_lst, pEq_tup, pNe_tup, kb_NoneType_int, kb_NoneType_bool, kb_NoneType_list, kb_NoneType_tuple, kb_NoneType_str, kb_bool_int, kb_bool_bool, kb_bool_list, kb_bool_tuple, kb_bool_str, kb_int_int, kb_int_bool, kb_int_list, kb_int_tuple, kb_int_str, kb_str_int, kb_str_bool, kb_str_list, kb_str_tuple, kb_str_str, kb_list_int, kb_list_bool, kb_list_list, kb_list_tuple, kb_list_str, kb_tuple_int, kb_tuple_bool, kb_tuple_list, kb_tuple_tuple, kb_tuple_str, kb_dict_int, kb_dict_bool, kb_dict_list, kb_dict_tuple, kb_dict_str]
theorem check_width_ok {w : Int} (h1 : 1 ≤ w) (h2 : w ≤ 40) : m_check_width [.int w] = .ok .non [some (.int w)] := by
  simp [m_check_width, b_check_width, is_integer_ok, h1, h2, fn, sSeq, SR.thn, sAsg, sExpr, sRet, sRetN, sIf, sNext, sFail, sBrk, sCont, Res.toS, Res.toN, Res.bind, tE, tNotM, tOrM, tAndM, tYesM, eC, eN, eMv, eOp, opds, eAnd, eOr, eNot, eIf, eChain, aNil, aCons, eLst, eTup, eCall, eCallL, eFz, eLc, eLc2, eApp, isLst, wipeS, eMake, eEqI, insC, keepL, getS, gN, gIx, gT, gTupM, sPar, sFor, iR1, iR2, iRD, iE, iEn, iEnT, iEnA, iEA, oIsiB, noScr, tyName, f2, pLe, pLt, pGe, pGt, oAdd, oSub, oMul, oMod, oDiv, oPow, oNeg, oAbs, oInt, oMax2, oMin2, oLen, items, lstItems, tupItems, hot, cold, Out.d, frz, frzL, frzF, List.range, List.range.loop, isN, oIsN, oNotN, oIsB, oNotB, pEq_int, pNe_int, pEq_bl, pNe_bl, pEq_lst, pNe_lst, pEq_tup, pNe_tup, kb_NoneType_int, kb_NoneType_bool, kb_NoneType_list, kb_NoneType_tuple, kb_NoneType_str, kb_bool_int, kb_bool_bool, kb_bool_list, kb_bool_tuple, kb_bool_str, kb_int_int, kb_int_bool, kb_int_list, kb_int_tuple, kb_int_str, kb_str_int, kb_str_bool, kb_str_list, kb_str_tuple, kb_str_str, kb_list_int, kb_list_bool, kb_list_list, kb_list_tuple, kb_list_str, kb_tuple_int, kb_tuple_bool, kb_tuple_list, kb_tuple_tuple, kb_tuple_str, kb_dict_int, kb_dict_bool, kb_dict_list, kb_dict_tuple, kb_dict_str]
theorem okS_at {w : Int} {ss : List Int} {i : Nat} {s : Int} (h : okS w ss) (e : ss[i]? = some s) : 1 ≤ s ∧ s ≤ w - 1 := h s (List.mem_of_getElem? e)
theorem check_steps_ok {w : Int} {ss : List Int} (h : okS w ss) (hl : ss.length ≤ 1000) : m_check_steps [.int w, .lst false (nums ss)] = .ok .non [some (.int w), some (.lst false (nums ss))] := by
  obtain ⟨st', e, x, y, hst⟩ := forD_ok (g := fg1_check_steps) (body := fb1_check_steps) (fun _ st => ∃ x y, st = [some (.int w), some (.lst false (nums ss)), x, y]) (enumD 0 (nums ss)) 0
    [some (.int w), some (.lst false (nums ss)), none, none] ⟨none, none, rfl⟩ (fun i d st e hI => by
      obtain ⟨x, y, rfl⟩ := hI
      obtain ⟨d', e1, rfl⟩ := enumD_get e
      obtain ⟨s, e2, rfl⟩ := nums_get e1
      obtain ⟨h1, h2⟩ := okS_at h e2
      refine ⟨_, [some (.int w), some (.lst false (nums ss)), some (.int ((0 + i : Nat) : Int)), some (.int s)], rfl, .inl ?_, _, _, rfl⟩
      have h3 : s ≤ w - 1 := h2
      simp [fb1_check_steps, is_integer_ok, h1, h3, fn, sSeq, SR.thn, sAsg, sExpr, sRet, sRetN, sIf, sNext, sFail, sBrk, sCont, Res.toS, Res.toN, Res.bind, tE, tNotM, tOrM, tAndM, tYesM, eC, eN, eMv, eOp, opds, eAnd, eOr, eNot, eIf, eChain, aNil, aCons, eLst, eTup, eCall, eCallL, eFz, eLc, eLc2, eApp, isLst, wipeS, eMake, eEqI, insC, keepL, getS, gN, gIx, gT, gTupM, sPar, sFor, iR1, iR2, iRD, iE, iEn, iEnT, iEnA, iEA, oIsiB, noScr, tyName, f2, pLe, pLt, pGe, pGt, oAdd, oSub, oMul, oMod, oDiv, oPow, oNeg, oAbs, oInt, oMax2, oMin2, oLen, items, lstItems, tupItems, hot, cold, Out.d, frz, frzL, frzF, List.range, List.range.loop, isN, oIsN, oNotN, oIsB, oNotB, pEq_int, pNe_int, pEq_bl, pNe_bl, pEq_lst, pNe_lst, pEq_tup, pNe_tup, kb_NoneType_int, kb_NoneType_bool, kb_NoneType_list, kb_NoneType_tuple, kb_NoneType_str, kb_bool_int, kb_bool_bool, kb_bool_list, kb_bool_tuple, kb_bool_str, kb_int_int, kb_int_bool, kb_int_list, kb_int_tuple, kb_int_str, kb_str_int, kb_str_bool, kb_str_list, kb_str_tuple, kb_str_str, kb_list_int, kb_list_bool, kb_list_list, kb_list_tuple, kb_list_str, kb_tuple_int, kb_tuple_bool, kb_tuple_list, kb_tuple_tuple, kb_tuple_str, kb_dict_int, kb_dict_bool, kb_dict_list, kb_dict_tuple, kb_dict_str])
  subst hst
  have h4 : ¬ (1000 < (ss.length : Int)) := by omega
  simp [m_check_steps, b_check_steps, oIsi2, nums_len, nums_colds, e, h4, fn, sSeq, SR.thn, sAsg, sExpr, sRet, sRetN, sIf, sNext, sFail, sBrk, sCont, Res.toS, Res.toN, Res.bind, tE, tNotM, tOrM, tAndM, tYesM, eC, eN, eMv, eOp, opds, eAnd, eOr, eNot, eIf, eChain, aNil, aCons, eLst, eTup, eCall, eCallL, eFz, eLc, eLc2, eApp, isLst, wipeS, eMake, eEqI, insC, keepL, getS, gN, gIx, gT, gTupM, sPar, sFor, iR1, iR2, iRD, iE, iEn, iEnT, iEnA, iEA, oIsiB, noScr, tyName, f2, pLe, pLt, pGe, pGt, oAdd, oSub, oMul, oMod, oDiv, oPow, oNeg, oAbs, oInt, oMax2, oMin2, oLen, items, lstItems, tupItems, hot, cold, Out.d, frz, frzL, frzF, List.range, List.range.loop, isN, oIsN, oNotN, oIsB, oNotB, pEq_int, pNe_int, pEq_bl, pNe_bl, pEq_lst, pNe_lst, pEq_tup, pNe_tup, kb_NoneType_int, kb_NoneType_bool, kb_NoneType_list, kb_NoneType_tuple, kb_NoneType_str, kb_bool_int, kb_bool_bool, kb_bool_list, kb_bool_tuple, kb_bool_str, kb_int_int, kb_int_bool, kb_int_list, kb_int_tuple, kb_int_str, kb_str_int, kb_str_bool, kb_str_list, kb_str_tuple, kb_str_str, kb_list_int, kb_list_bool, kb_list_list, kb_list_tuple, kb_list_str, kb_tuple_int, kb_tuple_bool, kb_tuple_list, kb_tuple_tuple, kb_tuple_str, kb_dict_int, kb_dict_bool, kb_dict_list, kb_dict_tuple, kb_dict_str]
theorem init_ok {w : Int} {ss : List Int} (h1 : 1 ≤ w) (h2 : w ≤ 40) (h : okS w ss) (hl : ss.length ≤ 1000) (o : Bool) : ∃ ps, m_Network___init__ [.ins true 0 [], .int w, .lst o (nums ss)] = .ok .non (some (net true w ss) :: ps) := by
  have h3 : ss.length ≤ 16777216 := by omega
  cases o <;> simp [m_Network___init__, b_Network___init__, check_width_ok h1 h2, check_steps_ok h hl, sFldM, oTuple, putD, fw_ne, fs_ne, nums_frz, nums_len, nums_colds, h3, net, fn, sSeq, SR.thn, sAsg, sExpr, sRet, sRetN, sIf, sNext, sFail, sBrk, sCont, Res.toS, Res.toN, Res.bind, tE, tNotM, tOrM, tAndM, tYesM, eC, eN, eMv, eOp, opds, eAnd, eOr, eNot, eIf, eChain, aNil, aCons, eLst, eTup, eCall, eCallL, eFz, eLc, eLc2, eApp, isLst, wipeS, eMake, eEqI, insC, keepL, getS, gN, gIx, gT, gTupM, sPar, sFor, iR1, iR2, iRD, iE, iEn, iEnT, iEnA, iEA, oIsiB, noScr, tyName, f2, pLe, pLt, pGe, pGt, oAdd, oSub, oMul, oMod, oDiv, oPow, oNeg, oAbs, oInt, oMax2, oMin2, oLen, items, lstItems, tupItems, hot, cold, Out.d, frz, frzL, frzF, List.range, List.range.loop, isN, oIsN, oNotN, oIsB, oNotB, pEq_int, pNe_int, pEq_bl, pNe_bl, pEq_lst, pNe_lst, pEq_tup, pNe_tup, kb_NoneType_int, kb_NoneType_bool, kb_NoneType_list, kb_NoneType_tuple, kb_NoneType_str, kb_bool_int, kb_bool_bool, kb_bool_list, kb_bool_tuple, kb_bool_str, kb_int_int, kb_int_bool, kb_int_list, kb_int_tuple, kb_int_str, kb_str_int, kb_str_bool, kb_str_list, kb_str_tuple, kb_str_str, kb_list_int, kb_list_bool, kb_list_list, kb_list_tuple, kb_list_str, kb_tuple_int, kb_tuple_bool, kb_tuple_list, kb_tuple_tuple, kb_tuple_str, kb_dict_int, kb_dict_bool, kb_dict_list, kb_dict_tuple, kb_dict_str]
theorem check_steps_tup {w : Int} {ss : List Int} (h : okS w ss) (hl : ss.length ≤ 1000) : m_check_steps [.int w, .tup (nums ss)] = .ok .non [some (.int w), some (.tup (nums ss))] := by
  obtain ⟨st', e, x, y, hst⟩ := forD_ok (g := fg1_check_steps) (body := fb1_check_steps) (fun _ st => ∃ x y, st = [some (.int w), some (.tup (nums ss)), x, y]) (enumD 0 (nums ss)) 0
    [some (.int w), some (.tup (nums ss)), none, none] ⟨none, none, rfl⟩ (fun i d st e hI => by
      obtain ⟨x, y, rfl⟩ := hI
      obtain ⟨d', e1, rfl⟩ := enumD_get e
      obtain ⟨s, e2, rfl⟩ := nums_get e1
      obtain ⟨h1, h2⟩ := okS_at h e2
      refine ⟨_, [some (.int w), some (.tup (nums ss)), some (.int ((0 + i : Nat) : Int)), some (.int s)], rfl, .inl ?_, _, _, rfl⟩
      have h3 : s ≤ w - 1 := h2
      simp [fb1_check_steps, is_integer_ok, h1, h3, fn, sSeq, SR.thn, sAsg, sExpr, sRet, sRetN, sIf, sNext, sFail, sBrk, sCont, Res.toS, Res.toN, Res.bind, tE, tNotM, tOrM, tAndM, tYesM, eC, eN, eMv, eOp, opds, eAnd, eOr, eNot, eIf, eChain, aNil, aCons, eLst, eTup, eCall, eCallL, eFz, eLc, eLc2, eApp, isLst, wipeS, eMake, eEqI, insC, keepL, getS, gN, gIx, gT, gTupM, sPar, sFor, iR1, iR2, iRD, iE, iEn, iEnT, iEnA, iEA, oIsiB, noScr, tyName, f2, pLe, pLt, pGe, pGt, oAdd, oSub, oMul, oMod, oDiv, oPow, oNeg, oAbs, oInt, oMax2, oMin2, oLen, items, lstItems, tupItems, hot, cold, Out.d, frz, frzL, frzF, List.range, List.range.loop, isN, oIsN, oNotN, oIsB, oNotB, pEq_int, pNe_int, pEq_bl, pNe_bl, pEq_lst, pNe_lst, pEq_tup, pNe_tup, kb_NoneType_int, kb_NoneType_bool, kb_NoneType_list, kb_NoneType_tuple, kb_NoneType_str, kb_bool_int, kb_bool_bool, kb_bool_list, kb_bool_tuple, kb_bool_str, kb_int_int, kb_int_bool, kb_int_list, kb_int_tuple, kb_int_str, kb_str_int, kb_str_bool, kb_str_list, kb_str_tuple, kb_str_str, kb_list_int, kb_list_bool, kb_list_list, kb_list_tuple, kb_list_str, kb_tuple_int, kb_tuple_bool, kb_tuple_list, kb_tuple_tuple, kb_tuple_str, kb_dict_int, kb_dict_bool, kb_dict_list, kb_dict_tuple, kb_dict_str])
  subst hst
  have h4 : ¬ (1000 < (ss.length : Int)) := by omega
  simp [m_check_steps, b_check_steps, oIsi2, nums_len, nums_colds, e, h4, fn, sSeq, SR.thn, sAsg, sExpr, sRet, sRetN, sIf, sNext, sFail, sBrk, sCont, Res.toS, Res.toN, Res.bind, tE, tNotM, tOrM, tAndM, tYesM, eC, eN, eMv, eOp, opds, eAnd, eOr, eNot, eIf, eChain, aNil, aCons, eLst, eTup, eCall, eCallL, eFz, eLc, eLc2, eApp, isLst, wipeS, eMake, eEqI, insC, keepL, getS, gN, gIx, gT, gTupM, sPar, sFor, iR1, iR2, iRD, iE, iEn, iEnT, iEnA, iEA, oIsiB, noScr, tyName, f2, pLe, pLt, pGe, pGt, oAdd, oSub, oMul, oMod, oDiv, oPow, oNeg, oAbs, oInt, oMax2, oMin2, oLen, items, lstItems, tupItems, hot, cold, Out.d, frz, frzL, frzF, List.range, List.range.loop, isN, oIsN, oNotN, oIsB, oNotB, pEq_int, pNe_int, pEq_bl, pNe_bl, pEq_lst, pNe_lst, pEq_tup, pNe_tup, kb_NoneType_int, kb_NoneType_bool, kb_NoneType_list, kb_NoneType_tuple, kb_NoneType_str, kb_bool_int, kb_bool_bool, kb_bool_list, kb_bool_tuple, kb_bool_str, kb_int_int, kb_int_bool, kb_int_list, kb_int_tuple, kb_int_str, kb_str_int, kb_str_bool, kb_str_list, kb_str_tuple, kb_str_str, kb_list_int, kb_list_bool, kb_list_list, kb_list_tuple, kb_list_str, kb_tuple_int, kb_tuple_bool, kb_tuple_list, kb_tuple_tuple, kb_tuple_str, kb_dict_int, kb_dict_bool, kb_dict_list, kb_dict_tuple, kb_dict_str]
theorem init_tup {w : Int} {ss : List Int} (h1 : 1 ≤ w) (h2 : w ≤ 40) (h : okS w ss) (hl : ss.length ≤ 1000) : ∃ ps, m_Network___init__ [.ins true 0 [], .int w, .tup (nums ss)] = .ok .non (some (net true w ss) :: ps) := by
  have h3 : ss.length ≤ 16777216 := by omega
  simp [m_Network___init__, b_Network___init__, check_width_ok h1 h2, check_steps_tup h hl, sFldM, oTuple, putD, fw_ne, fs_ne, nums_frz, nums_len, nums_colds, h3, net, fn, sSeq, SR.thn, sAsg, sExpr, sRet, sRetN, sIf, sNext, sFail, sBrk, sCont, Res.toS, Res.toN, Res.bind, tE, tNotM, tOrM, tAndM, tYesM, eC, eN, eMv, eOp, opds, eAnd, eOr, eNot, eIf, eChain, aNil, aCons, eLst, eTup, eCall, eCallL, eFz, eLc, eLc2, eApp, isLst, wipeS, eMake, eEqI, insC, keepL, getS, gN, gIx, gT, gTupM, sPar, sFor, iR1, iR2, iRD, iE, iEn, iEnT, iEnA, iEA, oIsiB, noScr, tyName, f2, pLe, pLt, pGe, pGt, oAdd, oSub, oMul, oMod, oDiv, oPow, oNeg, oAbs, oInt, oMax2, oMin2, oLen, items, lstItems, tupItems, hot, cold, Out.d, frz, frzL, frzF, List.range, List.range.loop, isN, oIsN, oNotN, oIsB, oNotB, pEq_int, pNe_int, pEq_bl, pNe_bl, pEq_lst, pNe_lst, pEq_tup, pNe_tup, kb_NoneType_int, kb_NoneType_bool, kb_NoneType_list, kb_NoneType_tuple, kb_NoneType_str, kb_bool_int, kb_bool_bool, kb_bool_list, kb_bool_tuple, kb_bool_str, kb_int_int, kb_int_bool, kb_int_list, kb_int_tuple, kb_int_str, kb_str_int, kb_str_bool, kb_str_list, kb_str_tuple, kb_str_str, kb_list_int, kb_list_bool, kb_list_list, kb_list_tuple, kb_list_str, kb_tuple_int, kb_tuple_bool, kb_tuple_list, kb_tuple_tuple, kb_tuple_str, kb_dict_int, kb_dict_bool, kb_dict_list, kb_dict_tuple, kb_dict_str]
theorem oFld_w {o : Bool} {w : Int} {ss : List Int} : oFld 0 "own_width" [net o w ss] = some (.val (.int w)) := by
  simp [oFld, cold, hot]
theorem oFld_s {o : Bool} {w : Int} {ss : List Int} : oFld 0 "own_steps" [net o w ss] = some (.val (.tup (nums ss))) := by
  simp [oFld, List.lookup, fs_beq, cold, hot]
theorem take_snoc {ss : List Int} {i : Nat} {s : Int} (e : ss[i]? = some s) : ss.take (i + 1) = ss.take i ++ [s] := by
  rw [List.take_succ, e]; rfl
theorem check_integers_ok (l : List Int) : m_check_integers [.lst false (nums l)] = .ok .non [some (.lst false (nums l))] := by
  obtain ⟨st', e, x, y, hst⟩ := forD_ok (g := fg1_check_integers) (body := fb1_check_integers) (fun _ st => ∃ x y, st = [some (.lst false (nums l)), x, y]) (enumD 0 (nums l)) 0
    [some (.lst false (nums l)), none, none] ⟨none, none, rfl⟩ (fun i d st e hI => by
      obtain ⟨x, y, rfl⟩ := hI
      obtain ⟨d', e1, rfl⟩ := enumD_get e
      obtain ⟨s, e2, rfl⟩ := nums_get e1
      refine ⟨_, [some (.lst false (nums l)), some (.int ((0 + i : Nat) : Int)), some (.int s)], rfl, .inl ?_, _, _, rfl⟩
      simp [fb1_check_integers, is_any_ok, fn, sSeq, SR.thn, sAsg, sExpr, sRet, sRetN, sIf, sNext, sFail, sBrk, sCont, Res.toS, Res.toN, Res.bind, tE, tNotM, tOrM, tAndM, tYesM, eC, eN, eMv, eOp, opds, eAnd, eOr, eNot, eIf, eChain, aNil, aCons, eLst, eTup, eCall, eCallL, eFz, eLc, eLc2, eApp, isLst, wipeS, eMake, eEqI, insC, keepL, getS, gN, gIx, gT, gTupM, sPar, sFor, iR1, iR2, iRD, iE, iEn, iEnT, iEnA, iEA, oIsiB, noScr, tyName, f2, pLe, pLt, pGe, pGt, oAdd, oSub, oMul, oMod, oDiv, oPow, oNeg, oAbs, oInt, oMax2, oMin2, oLen, items, lstItems, tupItems, hot, cold, Out.d, frz, frzL, frzF, List.range, List.range.loop, isN, oIsN, oNotN, oIsB, oNotB, pEq_int, pNe_int, pEq_bl, pNe_bl, pEq_lst, pNe_lst, pEq_tup, pNe_tup, kb_NoneType_int, kb_NoneType_bool, kb_NoneType_list, kb_NoneType_tuple, kb_NoneType_str, kb_bool_int, kb_bool_bool, kb_bool_list, kb_bool_tuple, kb_bool_str, kb_int_int, kb_int_bool, kb_int_list, kb_int_tuple, kb_int_str, kb_str_int, kb_str_bool, kb_str_list, kb_str_tuple, kb_str_str, kb_list_int, kb_list_bool, kb_list_list, kb_list_tuple, kb_list_str, kb_tuple_int, kb_tuple_bool, kb_tuple_list, kb_tuple_tuple, kb_tuple_str, kb_dict_int, kb_dict_bool, kb_dict_list, kb_dict_tuple, kb_dict_str])
  subst hst
  simp [m_check_integers, b_check_integers, nums_colds, e, fn, sSeq, SR.thn, sAsg, sExpr, sRet, sRetN, sIf, sNext, sFail, sBrk, sCont, Res.toS, Res.toN, Res.bind, tE, tNotM, tOrM, tAndM, tYesM, eC, eN, eMv, eOp, opds, eAnd, eOr, eNot, eIf, eChain, aNil, aCons, eLst, eTup, eCall, eCallL, eFz, eLc, eLc2, eApp, isLst, wipeS, eMake, eEqI, insC, keepL, getS, gN, gIx, gT, gTupM, sPar, sFor, iR1, iR2, iRD, iE, iEn, iEnT, iEnA, iEA, oIsiB, noScr, tyName, f2, pLe, pLt, pGe, pGt, oAdd, oSub, oMul, oMod, oDiv, oPow, oNeg, oAbs, oInt, oMax2, oMin2, oLen, items, lstItems, tupItems, hot, cold, Out.d, frz, frzL, frzF, List.range, List.range.loop, isN, oIsN, oNotN, oIsB, oNotB, pEq_int, pNe_int, pEq_bl, pNe_bl, pEq_lst, pNe_lst, pEq_tup, pNe_tup, kb_NoneType_int, kb_NoneType_bool, kb_NoneType_list, kb_NoneType_tuple, kb_NoneType_str, kb_bool_int, kb_bool_bool, kb_bool_list, kb_bool_tuple, kb_bool_str, kb_int_int, kb_int_bool, kb_int_list, kb_int_tuple, kb_int_str, kb_str_int, kb_str_bool, kb_str_list, kb_str_tuple, kb_str_str, kb_list_int, kb_list_bool, kb_list_list, kb_list_tuple, kb_list_str, kb_tuple_int, kb_tuple_bool, kb_tuple_list, kb_tuple_tuple, kb_tuple_str, kb_dict_int, kb_dict_bool, kb_dict_list, kb_dict_tuple, kb_dict_str]
theorem check_values_ok {w : Int} {l : List Int} (h : (l.length : Int) = w) : m_check_values [.int w, .lst false (nums l)] = .ok .non [some (.int w), some (.lst false (nums l))] := by
  subst h
  simp [m_check_values, b_check_values, check_integers_ok, nums_len, fn, sSeq, SR.thn, sAsg, sExpr, sRet, sRetN, sIf, sNext, sFail, sBrk, sCont, Res.toS, Res.toN, Res.bind, tE, tNotM, tOrM, tAndM, tYesM, eC, eN, eMv, eOp, opds, eAnd, eOr, eNot, eIf, eChain, aNil, aCons, eLst, eTup, eCall, eCallL, eFz, eLc, eLc2, eApp, isLst, wipeS, eMake, eEqI, insC, keepL, getS, gN, gIx, gT, gTupM, sPar, sFor, iR1, iR2, iRD, iE, iEn, iEnT, iEnA, iEA, oIsiB, noScr, tyName, f2, pLe, pLt, pGe, pGt, oAdd, oSub, oMul, oMod, oDiv, oPow, oNeg, oAbs, oInt, oMax2, oMin2, oLen, items, lstItems, tupItems, hot, cold, Out.d, frz, frzL, frzF, List.range, List.range.loop, isN, oIsN, oNotN, oIsB, oNotB, pEq_int, pNe_int, pEq_bl, pNe_bl, pEq_lst, pNe_lst, pEq_tup, pNe_tup, kb_NoneType_int, kb_NoneType_bool, kb_NoneType_list, kb_NoneType_tuple, kb_NoneType_str, kb_bool_int, kb_bool_bool, kb_bool_list, kb_bool_tuple, kb_bool_str, kb_int_int, kb_int_bool, kb_int_list, kb_int_tuple, kb_int_str, kb_str_int, kb_str_bool, kb_str_list, kb_str_tuple, kb_str_str, kb_list_int, kb_list_bool, kb_list_list, kb_list_tuple, kb_list_str, kb_tuple_int, kb_tuple_bool, kb_tuple_list, kb_tuple_tuple, kb_tuple_str, kb_dict_int, kb_dict_bool, kb_dict_list, kb_dict_tuple, kb_dict_str]
theorem small62_nat {n : Nat} (h : n ≤ 1000) : small62 (n : Int) = true := by
  unfold small62
  exact decide_eq_true (by
      omega)
theorem draw_ok (a b m : Int) (h1 : 0 < m) (h2 : m < 9000) : ∃ r a' b', 0 ≤ r ∧ r < m ∧ m__law_draw [.lst true [.int a, .int b], .int m] = .ok (.int r) [some (.lst true [.int a', .int b']), some (.int m)] := by
  by_cases ha : 0 < a
  · refine ⟨a % m, a / m, b, Int.emod_nonneg _ (by omega), Int.emod_lt_of_pos _ h1, ?_⟩
    simp [m__law_draw, b__law_draw, ix2_0, ix2_1, ixN2_0, ixN2_1, ha, oMod_v h1, oDiv_v h1 h2, fn, sSeq, SR.thn, sAsg, sExpr, sRet, sRetN, sIf, sNext, sFail, sBrk, sCont, Res.toS, Res.toN, Res.bind, tE, tNotM, tOrM, tAndM, tYesM, eC, eN, eMv, eOp, opds, eAnd, eOr, eNot, eIf, eChain, aNil, aCons, eLst, eTup, eCall, eCallL, eFz, eLc, eLc2, eApp, isLst, wipeS, eMake, eEqI, insC, keepL, getS, gN, gIx, gT, gTupM, sPar, sFor, iR1, iR2, iRD, iE, iEn, iEnT, iEnA, iEA, oIsiB, noScr, tyName, f2, pLe, pLt, pGe, pGt, oAdd, oSub, oNeg, oAbs, oInt, oMax2, oMin2, oLen, items, lstItems, tupItems, hot, cold, Out.d, frz, frzL, frzF, List.range, List.range.loop, isN, oIsN, oNotN, oIsB, oNotB, pEq_int, pNe_int, pEq_bl, pNe_bl, pEq_lst, pNe_lst, pEq_tup, pNe_tup, kb_NoneType_int, kb_NoneType_bool, kb_NoneType_list, kb_NoneType_tuple, kb_NoneType_str, kb_bool_int, kb_bool_bool, kb_bool_list, kb_bool_tuple, kb_bool_str, kb_int_int, kb_int_bool, kb_int_list, kb_int_tuple, kb_int_str, kb_str_int, kb_str_bool, kb_str_list, kb_str_tuple, kb_str_str, kb_list_int, kb_list_bool, kb_list_list, kb_list_tuple, kb_list_str, kb_tuple_int, kb_tuple_bool, kb_tuple_list, kb_tuple_tuple, kb_tuple_str, kb_dict_int, kb_dict_bool, kb_dict_list, kb_dict_tuple, kb_dict_str]
  · have m1 := oMul_v (i := b) (j := 48271) (by omega)
    have m2 := oMod_v (i := b * 48271 + 11) (j := 2147483647) (by omega)
    have n0 : 0 ≤ (b * 48271 + 11) % 2147483647 := Int.emod_nonneg _ (by omega)
    have n1 : (b * 48271 + 11) % 2147483647 < 2147483647 := Int.emod_lt_of_pos _ (by omega)
    generalize (b * 48271 + 11) % 2147483647 = c at *
    have m3 := oMul_v (i := c) (j := c) (by omega)
    have m4 := oMod_v (i := c * c) (j := 2147483629) (by omega)
    have m5 := oDiv_v (i := c * c % 2147483629) (j := 16) (by omega) (by omega)
    have m6 := oMod_v (i := c * c % 2147483629 / 16) h1
    refine ⟨c * c % 2147483629 / 16 % m, a, c, Int.emod_nonneg _ (by omega), Int.emod_lt_of_pos _ h1, ?_⟩
    simp [m__law_draw, b__law_draw, ix2_0, ix2_1, ixN2_0, ixN2_1, ha, m1, m2, m3, m4, m5, m6, fn, sSeq, SR.thn, sAsg, sExpr, sRet, sRetN, sIf, sNext, sFail, sBrk, sCont, Res.toS, Res.toN, Res.bind, tE, tNotM, tOrM, tAndM, tYesM, eC, eN, eMv, eOp, opds, eAnd, eOr, eNot, eIf, eChain, aNil, aCons, eLst, eTup, eCall, eCallL, eFz, eLc, eLc2, eApp, isLst, wipeS, eMake, eEqI, insC, keepL, getS, gN, gIx, gT, gTupM, sPar, sFor, iR1, iR2, iRD, iE, iEn, iEnT, iEnA, iEA, oIsiB, noScr, tyName, f2, pLe, pLt, pGe, pGt, oAdd, oSub, oNeg, oAbs, oInt, oMax2, oMin2, oLen, items, lstItems, tupItems, hot, cold, Out.d, frz, frzL, frzF, List.range, List.range.loop, isN, oIsN, oNotN, oIsB, oNotB, pEq_int, pNe_int, pEq_bl, pNe_bl, pEq_lst, pNe_lst, pEq_tup, pNe_tup, kb_NoneType_int, kb_NoneType_bool, kb_NoneType_list, kb_NoneType_tuple, kb_NoneType_str, kb_bool_int, kb_bool_bool, kb_bool_list, kb_bool_tuple, kb_bool_str, kb_int_int, kb_int_bool, kb_int_list, kb_int_tuple, kb_int_str, kb_str_int, kb_str_bool, kb_str_list, kb_str_tuple, kb_str_str, kb_list_int, kb_list_bool, kb_list_list, kb_list_tuple, kb_list_str, kb_tuple_int, kb_tuple_bool, kb_tuple_list, kb_tuple_tuple, kb_tuple_str, kb_dict_int, kb_dict_bool, kb_dict_list, kb_dict_tuple, kb_dict_str]
theorem source_ok (l : List Int) (k : Int) (h0 : 0 ≤ k) (hk : k < 100) (hl : l.length ≤ 63) : ∃ a b ps, m__law_source [.scr l, .int k] = .ok (.lst true [.int a, .int b]) ps := by
  obtain ⟨kk, e1⟩ := oS01_scr l 63 hl
  have e2 := oSum_nums true kk
  generalize kk.sum = S at *
  have e3 := oMul_l (i := 7) (j := S) (by omega)
  have step : ∀ cell : Int, ∃ a b st, (sSeq (sAsg (eOp oAbs [.s 2]) (gN 3)) (sSeq (sAsg (eOp oMod [.v (eOp oMul [.v (eOp oAdd [.v (eOp oAdd [.v (eOp oAdd [.v (eOp oMod [.s 3, .v (eC (.int 2147483629))]), .v (eOp oMul [.v (eOp oMul [.v (eC (.int 7919)), .s 1]), .s 1])]), .v (eOp oMul [.v (eC (.int 31)), .s 1])]), .v (eC (.int 17))]), .v (eC (.int 48271))]), .v (eC (.int 2147483647))]) (gN 4)) (sRet (eLst (aCons (eOp oMul [.s 3, .v (eOp oInt [.v (eOp (f2 pGe) [.s 3, .v (eOp oPow [.v (eC (.int 10)), .v (eC (.int 18))])])])]) (aCons (eOp oMod [.v (eOp oMul [.s 4, .s 4]), .v (eC (.int 2147483629))]) aNil)))))) [some (.scr l), some (.int k), some (.int cell), none, none] = .ret (.lst true [.int a, .int b]) st := fun cell => by
    generalize hz : (if cell < 0 then -cell else cell) = z
    have m1 := oMod_v (i := z) (j := 2147483629) (by omega)
    have m2 := oMul_l (i := 7919) (j := k) (by omega)
    have m3 := oMul_v (i := 7919 * k) (j := k) (by omega)
    have m4 := oMul_l (i := 31) (j := k) (by omega)
    have m5 := oMul_v (i := z % 2147483629 + 7919 * k * k + 31 * k + 17) (j := 48271) (by omega)
    have m6 := oMod_v (i := (z % 2147483629 + 7919 * k * k + 31 * k + 17) * 48271) (j := 2147483647) (by omega)
    have n0 : 0 ≤ (z % 2147483629 + 7919 * k * k + 31 * k + 17) * 48271 % 2147483647 := Int.emod_nonneg _ (by omega)
    have n1 : (z % 2147483629 + 7919 * k * k + 31 * k + 17) * 48271 % 2147483647 < 2147483647 := Int.emod_lt_of_pos _ (by omega)
    generalize (z % 2147483629 + 7919 * k * k + 31 * k + 17) * 48271 % 2147483647 = c at *
    have m7 := oMul_v (i := c) (j := c) (by omega)
    have m8 := oMod_v (i := c * c) (j := 2147483629) (by omega)
    have m9 := oPow_v (i := 10) (j := 18) (by omega) (by decide)
    generalize (10 : Int) ^ (18 : Int).toNat = t at *
    have m10 := oMul_v (i := z) (j := if t ≤ z then 1 else 0) (by split <;> omega)
    refine ⟨z * (if t ≤ z then 1 else 0), c * c % 2147483629, [some (.scr l), some (.int k), some (.int cell), some (.int z), some (.int c)], ?_⟩
    simp [hz, m1, m2, m3, m4, m5, m6, m7, m8, m9, m10, fn, sSeq, SR.thn, sAsg, sExpr, sRet, sRetN, sIf, sNext, sFail, sBrk, sCont, Res.toS, Res.toN, Res.bind, tE, tNotM, tOrM, tAndM, tYesM, eC, eN, eMv, eOp, opds, eAnd, eOr, eNot, eIf, eChain, aNil, aCons, eLst, eTup, eCall, eCallL, eFz, eLc, eLc2, eApp, isLst, wipeS, eMake, eEqI, insC, keepL, getS, gN, gIx, gT, gTupM, sPar, sFor, iR1, iR2, iRD, iE, iEn, iEnT, iEnA, iEA, oIsiB, noScr, tyName, f2, pLe, pLt, pGe, pGt, oAdd, oSub, oNeg, oAbs, oInt, oMax2, oMin2, oLen, items, lstItems, tupItems, hot, cold, Out.d, frz, frzL, frzF, List.range, List.range.loop, isN, oIsN, oNotN, oIsB, oNotB, pEq_int, pNe_int, pEq_bl, pNe_bl, pEq_lst, pNe_lst, pEq_tup, pNe_tup, kb_NoneType_int, kb_NoneType_bool, kb_NoneType_list, kb_NoneType_tuple, kb_NoneType_str, kb_bool_int, kb_bool_bool, kb_bool_list, kb_bool_tuple, kb_bool_str, kb_int_int, kb_int_bool, kb_int_list, kb_int_tuple, kb_int_str, kb_str_int, kb_str_bool, kb_str_list, kb_str_tuple, kb_str_str, kb_list_int, kb_list_bool, kb_list_list, kb_list_tuple, kb_list_str, kb_tuple_int, kb_tuple_bool, kb_tuple_list, kb_tuple_tuple, kb_tuple_str, kb_dict_int, kb_dict_bool, kb_dict_list, kb_dict_tuple, kb_dict_str]
  by_cases hkl : k < (l.length : Int)
  · have e4 := oIx_scr (l := l) (i := k) h0 hkl
    obtain ⟨a, b, st, e5⟩ := step (l.getD k.toNat 0)
    generalize l.getD k.toNat 0 = cell at *
    have q1 : (sAsg (eOp oAdd [.v (eOp oMul [.v (eC (.int 7)), .v (eOp oSum [.v (eOp oS01 [.s 0, .v (eC (.int 63))])])]), .s 1]) (gN 2)) [some (.scr l), some (.int k), none, none, none] = .next [some (.scr l), some (.int k), some (.int (7 * S + k)), none, none] := by
      simp [e1, e2, e3, fn, sSeq, SR.thn, sAsg, sExpr, sRet, sRetN, sIf, sNext, sFail, sBrk, sCont, Res.toS, Res.toN, Res.bind, tE, tNotM, tOrM, tAndM, tYesM, eC, eN, eMv, eOp, opds, eAnd, eOr, eNot, eIf, eChain, aNil, aCons, eLst, eTup, eCall, eCallL, eFz, eLc, eLc2, eApp, isLst, wipeS, eMake, eEqI, insC, keepL, getS, gN, gIx, gT, gTupM, sPar, sFor, iR1, iR2, iRD, iE, iEn, iEnT, iEnA, iEA, oIsiB, noScr, tyName, f2, pLe, pLt, pGe, pGt, oAdd, oSub, oNeg, oAbs, oInt, oMax2, oMin2, oLen, items, lstItems, tupItems, hot, cold, Out.d, frz, frzL, frzF, List.range, List.range.loop, isN, oIsN, oNotN, oIsB, oNotB, pEq_int, pNe_int, pEq_bl, pNe_bl, pEq_lst, pNe_lst, pEq_tup, pNe_tup, kb_NoneType_int, kb_NoneType_bool, kb_NoneType_list, kb_NoneType_tuple, kb_NoneType_str, kb_bool_int, kb_bool_bool, kb_bool_list, kb_bool_tuple, kb_bool_str, kb_int_int, kb_int_bool, kb_int_list, kb_int_tuple, kb_int_str, kb_str_int, kb_str_bool, kb_str_list, kb_str_tuple, kb_str_str, kb_list_int, kb_list_bool, kb_list_list, kb_list_tuple, kb_list_str, kb_tuple_int, kb_tuple_bool, kb_tuple_list, kb_tuple_tuple, kb_tuple_str, kb_dict_int, kb_dict_bool, kb_dict_list, kb_dict_tuple, kb_dict_str]
    have q2 : (sIf (tE (eOp (f2 pLt) [.s 1, .v (eOp oLen [.s 0])])) (sAsg (eOp oIx [.s 0, .s 1]) (gN 2)) sNext) [some (.scr l), some (.int k), some (.int (7 * S + k)), none, none] = .next [some (.scr l), some (.int k), some (.int cell), none, none] := by
      simp [e4, hkl, fn, sSeq, SR.thn, sAsg, sExpr, sRet, sRetN, sIf, sNext, sFail, sBrk, sCont, Res.toS, Res.toN, Res.bind, tE, tNotM, tOrM, tAndM, tYesM, eC, eN, eMv, eOp, opds, eAnd, eOr, eNot, eIf, eChain, aNil, aCons, eLst, eTup, eCall, eCallL, eFz, eLc, eLc2, eApp, isLst, wipeS, eMake, eEqI, insC, keepL, getS, gN, gIx, gT, gTupM, sPar, sFor, iR1, iR2, iRD, iE, iEn, iEnT, iEnA, iEA, oIsiB, noScr, tyName, f2, pLe, pLt, pGe, pGt, oAdd, oSub, oNeg, oAbs, oInt, oMax2, oMin2, oLen, items, lstItems, tupItems, hot, cold, Out.d, frz, frzL, frzF, List.range, List.range.loop, isN, oIsN, oNotN, oIsB, oNotB, pEq_int, pNe_int, pEq_bl, pNe_bl, pEq_lst, pNe_lst, pEq_tup, pNe_tup, kb_NoneType_int, kb_NoneType_bool, kb_NoneType_list, kb_NoneType_tuple, kb_NoneType_str, kb_bool_int, kb_bool_bool, kb_bool_list, kb_bool_tuple, kb_bool_str, kb_int_int, kb_int_bool, kb_int_list, kb_int_tuple, kb_int_str, kb_str_int, kb_str_bool, kb_str_list, kb_str_tuple, kb_str_str, kb_list_int, kb_list_bool, kb_list_list, kb_list_tuple, kb_list_str, kb_tuple_int, kb_tuple_bool, kb_tuple_list, kb_tuple_tuple, kb_tuple_str, kb_dict_int, kb_dict_bool, kb_dict_list, kb_dict_tuple, kb_dict_str]
    exact ⟨a, b, _, fn_ret rfl (sSeq_next q1 (sSeq_next q2 e5))⟩
  · obtain ⟨a, b, st, e5⟩ := step (7 * S + k)
    have q1 : (sAsg (eOp oAdd [.v (eOp oMul [.v (eC (.int 7)), .v (eOp oSum [.v (eOp oS01 [.s 0, .v (eC (.int 63))])])]), .s 1]) (gN 2)) [some (.scr l), some (.int k), none, none, none] = .next [some (.scr l), some (.int k), some (.int (7 * S + k)), none, none] := by
      simp [e1, e2, e3, fn, sSeq, SR.thn, sAsg, sExpr, sRet, sRetN, sIf, sNext, sFail, sBrk, sCont, Res.toS, Res.toN, Res.bind, tE, tNotM, tOrM, tAndM, tYesM, eC, eN, eMv, eOp, opds, eAnd, eOr, eNot, eIf, eChain, aNil, aCons, eLst, eTup, eCall, eCallL, eFz, eLc, eLc2, eApp, isLst, wipeS, eMake, eEqI, insC, keepL, getS, gN, gIx, gT, gTupM, sPar, sFor, iR1, iR2, iRD, iE, iEn, iEnT, iEnA, iEA, oIsiB, noScr, tyName, f2, pLe, pLt, pGe, pGt, oAdd, oSub, oNeg, oAbs, oInt, oMax2, oMin2, oLen, items, lstItems, tupItems, hot, cold, Out.d, frz, frzL, frzF, List.range, List.range.loop, isN, oIsN, oNotN, oIsB, oNotB, pEq_int, pNe_int, pEq_bl, pNe_bl, pEq_lst, pNe_lst, pEq_tup, pNe_tup, kb_NoneType_int, kb_NoneType_bool, kb_NoneType_list, kb_NoneType_tuple, kb_NoneType_str, kb_bool_int, kb_bool_bool, kb_bool_list, kb_bool_tuple, kb_bool_str, kb_int_int, kb_int_bool, kb_int_list, kb_int_tuple, kb_int_str, kb_str_int, kb_str_bool, kb_str_list, kb_str_tuple, kb_str_str, kb_list_int, kb_list_bool, kb_list_list, kb_list_tuple, kb_list_str, kb_tuple_int, kb_tuple_bool, kb_tuple_list, kb_tuple_tuple, kb_tuple_str, kb_dict_int, kb_dict_bool, kb_dict_list, kb_dict_tuple, kb_dict_str]
    have q2 : (sIf (tE (eOp (f2 pLt) [.s 1, .v (eOp oLen [.s 0])])) (sAsg (eOp oIx [.s 0, .s 1]) (gN 2)) sNext) [some (.scr l), some (.int k), some (.int (7 * S + k)), none, none] = .next [some (.scr l), some (.int k), some (.int (7 * S + k)), none, none] := by
      simp [hkl, fn, sSeq, SR.thn, sAsg, sExpr, sRet, sRetN, sIf, sNext, sFail, sBrk, sCont, Res.toS, Res.toN, Res.bind, tE, tNotM, tOrM, tAndM, tYesM, eC, eN, eMv, eOp, opds, eAnd, eOr, eNot, eIf, eChain, aNil, aCons, eLst, eTup, eCall, eCallL, eFz, eLc, eLc2, eApp, isLst, wipeS, eMake, eEqI, insC, keepL, getS, gN, gIx, gT, gTupM, sPar, sFor, iR1, iR2, iRD, iE, iEn, iEnT, iEnA, iEA, oIsiB, noScr, tyName, f2, pLe, pLt, pGe, pGt, oAdd, oSub, oNeg, oAbs, oInt, oMax2, oMin2, oLen, items, lstItems, tupItems, hot, cold, Out.d, frz, frzL, frzF, List.range, List.range.loop, isN, oIsN, oNotN, oIsB, oNotB, pEq_int, pNe_int, pEq_bl, pNe_bl, pEq_lst, pNe_lst, pEq_tup, pNe_tup, kb_NoneType_int, kb_NoneType_bool, kb_NoneType_list, kb_NoneType_tuple, kb_NoneType_str, kb_bool_int, kb_bool_bool, kb_bool_list, kb_bool_tuple, kb_bool_str, kb_int_int, kb_int_bool, kb_int_list, kb_int_tuple, kb_int_str, kb_str_int, kb_str_bool, kb_str_list, kb_str_tuple, kb_str_str, kb_list_int, kb_list_bool, kb_list_list, kb_list_tuple, kb_list_str, kb_tuple_int, kb_tuple_bool, kb_tuple_list, kb_tuple_tuple, kb_tuple_str, kb_dict_int, kb_dict_bool, kb_dict_list, kb_dict_tuple, kb_dict_str]
    exact ⟨a, b, _, fn_ret rfl (sSeq_next q1 (sSeq_next q2 e5))⟩
theorem draw_big (a b m : Int) (h1 : 0 < m) (h2 : m.natAbs < 2 ^ 80) : ∃ r a' b', 0 ≤ r ∧ r < m ∧ m__law_draw [.lst true [.int a, .int b], .int m] = .ok (.int r) [some (.lst true [.int a', .int b']), some (.int m)] := by
  by_cases ha : 0 < a
  · refine ⟨a % m, a / m, b, Int.emod_nonneg _ (by omega), Int.emod_lt_of_pos _ h1, ?_⟩
    simp [m__law_draw, b__law_draw, ix2_0, ix2_1, ixN2_0, ixN2_1, ha, oMod_v h1, oDiv_w h1 h2, fn, sSeq, SR.thn, sAsg, sExpr, sRet, sRetN, sIf, sNext, sFail, sBrk, sCont, Res.toS, Res.toN, Res.bind, tE, tNotM, tOrM, tAndM, tYesM, eC, eN, eMv, eOp, opds, eAnd, eOr, eNot, eIf, eChain, aNil, aCons, eLst, eTup, eCall, eCallL, eFz, eLc, eLc2, eApp, isLst, wipeS, eMake, eEqI, insC, keepL, getS, gN, gIx, gT, gTupM, sPar, sFor, iR1, iR2, iRD, iE, iEn, iEnT, iEnA, iEA, oIsiB, noScr, tyName, f2, pLe, pLt, pGe, pGt, oAdd, oSub, oNeg, oAbs, oInt, oMax2, oMin2, oLen, items, lstItems, tupItems, hot, cold, Out.d, frz, frzL, frzF, List.range, List.range.loop, isN, oIsN, oNotN, oIsB, oNotB, pEq_int, pNe_int, pEq_bl, pNe_bl, pEq_lst, pNe_lst, pEq_tup, pNe_tup, kb_NoneType_int, kb_NoneType_bool, kb_NoneType_list, kb_NoneType_tuple, kb_NoneType_str, kb_bool_int, kb_bool_bool, kb_bool_list, kb_bool_tuple, kb_bool_str, kb_int_int, kb_int_bool, kb_int_list, kb_int_tuple, kb_int_str, kb_str_int, kb_str_bool, kb_str_list, kb_str_tuple, kb_str_str, kb_list_int, kb_list_bool, kb_list_list, kb_list_tuple, kb_list_str, kb_tuple_int, kb_tuple_bool, kb_tuple_list, kb_tuple_tuple, kb_tuple_str, kb_dict_int, kb_dict_bool, kb_dict_list, kb_dict_tuple, kb_dict_str]
  · have m1 := oMul_v (i := b) (j := 48271) (by omega)
    have m2 := oMod_v (i := b * 48271 + 11) (j := 2147483647) (by omega)
    have n0 : 0 ≤ (b * 48271 + 11) % 2147483647 := Int.emod_nonneg _ (by omega)
    have n1 : (b * 48271 + 11) % 2147483647 < 2147483647 := Int.emod_lt_of_pos _ (by omega)
    generalize (b * 48271 + 11) % 2147483647 = c at *
    have m3 := oMul_v (i := c) (j := c) (by omega)
    have m4 := oMod_v (i := c * c) (j := 2147483629) (by omega)
    have m5 := oDiv_v (i := c * c % 2147483629) (j := 16) (by omega) (by omega)
    have m6 := oMod_v (i := c * c % 2147483629 / 16) h1
    refine ⟨c * c % 2147483629 / 16 % m, a, c, Int.emod_nonneg _ (by omega), Int.emod_lt_of_pos _ h1, ?_⟩
    simp [m__law_draw, b__law_draw, ix2_0, ix2_1, ixN2_0, ixN2_1, ha, m1, m2, m3, m4, m5, m6, fn, sSeq, SR.thn, sAsg, sExpr, sRet, sRetN, sIf, sNext, sFail, sBrk, sCont, Res.toS, Res.toN, Res.bind, tE, tNotM, tOrM, tAndM, tYesM, eC, eN, eMv, eOp, opds, eAnd, eOr, eNot, eIf, eChain, aNil, aCons, eLst, eTup, eCall, eCallL, eFz, eLc, eLc2, eApp, isLst, wipeS, eMake, eEqI, insC, keepL, getS, gN, gIx, gT, gTupM, sPar, sFor, iR1, iR2, iRD, iE, iEn, iEnT, iEnA, iEA, oIsiB, noScr, tyName, f2, pLe, pLt, pGe, pGt, oAdd, oSub, oNeg, oAbs, oInt, oMax2, oMin2, oLen, items, lstItems, tupItems, hot, cold, Out.d, frz, frzL, frzF, List.range, List.range.loop, isN, oIsN, oNotN, oIsB, oNotB, pEq_int, pNe_int, pEq_bl, pNe_bl, pEq_lst, pNe_lst, pEq_tup, pNe_tup, kb_NoneType_int, kb_NoneType_bool, kb_NoneType_list, kb_NoneType_tuple, kb_NoneType_str, kb_bool_int, kb_bool_bool, kb_bool_list, kb_bool_tuple, kb_bool_str, kb_int_int, kb_int_bool, kb_int_list, kb_int_tuple, kb_int_str, kb_str_int, kb_str_bool, kb_str_list, kb_str_tuple, kb_str_str, kb_list_int, kb_list_bool, kb_list_list, kb_list_tuple, kb_list_str, kb_tuple_int, kb_tuple_bool, kb_tuple_list, kb_tuple_tuple, kb_tuple_str, kb_dict_int, kb_dict_bool, kb_dict_list, kb_dict_tuple, kb_dict_str]
theorem frz_net {o : Bool} {w : Int} {ss : List Int} : frz (net o w ss) = net false w ss := by simp [frz, frzF, nums_frz]
theorem eqv {w : Nat} {a b l : List Int} (hw : 1 ≤ w) (ha : okS w a) (hb : okS w b) (h : runL a (desc w) = runL b (desc w)) (hl : l.length = w) : runL a l = runL b l := by
  obtain ⟨f, rfl, hf⟩ := up1_of ha
  obtain ⟨g, rfl, hg⟩ := up1_of hb
  rw [up1_run, up1_run] at h
  rw [up1_run, up1_run]
  exact decides hw (fun i hi => by have := hf i hi; omega) (fun i hi => by have := hg i hi; omega) h l hl
theorem count_ok (ns : List Int) (c : Int) (hc : 1 ≤ c) (hc2 : c ≤ 100) {st : Sl} (h : getS st 0 = some (.scr ns)) : ∃ N : Nat, N ≤ c ∧ iR1 (eOp oMax2 [.v (eC (.int 1)), .v (eOp oMin2 [.v (eOp oLen [.s 0]), .v (eC (.int c))])]) st = .ok (rangeD 0 N) st := by
  have q1 := eOp1_s (f := oLen) (i := 0) (st := st) h (oLen_scr ns)
  obtain ⟨z, hz⟩ : ∃ z : Int, z = ((ns.length : Nat) : Int) := ⟨_, rfl⟩
  have hz0 : 0 ≤ z := by omega
  rw [← hz] at q1
  have q2 := eOp2_v (f := oMin2) q1 (show eC (.int c) _ = .ok (.int c) _ from rfl) (show oMin2 [.int z, .int c] = some (.val (.int (if c < z then c else z))) from rfl)
  have q3 := eOp2_v (f := oMax2) (show eC (.int 1) st = .ok (.int 1) _ from rfl) q2 (show oMax2 [.int 1, .int (if c < z then c else z)] = some (.val (.int (if (if c < z then c else z) > 1 then (if c < z then c else z) else 1))) from rfl)
  generalize hy : (if (if c < z then c else z) > 1 then (if c < z then c else z) else 1) = y at q3
  have y1 : 1 ≤ y ∧ y ≤ c := by
    rw [← hy]
    split <;> split <;> omega
  exact ⟨y.toNat, by omega, iR1_v (j := y) (by omega) q3 (sm62 (by omega) (by omega))⟩
local macro_rules | `(tactic| walk_at "f") => `(tactic| with_reducible exact frz_net)
local macro_rules | `(tactic| walk_at "o") => `(tactic| first | (with_reducible exact oFld_w) | (with_reducible exact oFld_s))
theorem neg_ix {o : Bool} {l : List Int} (h : l ≠ []) : ∃ z, oIx [.lst o (nums l), .int (-1)] = some (.val (.int z)) := by
  have hl : 0 < l.length := List.length_pos_iff.mpr h
  refine ⟨l.getD (l.length - 1) 0, ?_⟩
  have e : L2.atI (nums l) (-1) = some (.int (l.getD (l.length - 1) 0)) := by
    unfold L2.atI L2.ixN
    rw [nums_len, if_neg (by decide), if_pos (by omega), Option.bind_some, show ((-1 : Int) + (l.length : Int)).toNat = l.length - 1 by omega]
    unfold nums
    rw [List.getElem?_map, List.getElem?_eq_getElem (by omega), Option.map_some, List.getD_eq_getElem?_getD, List.getElem?_eq_getElem (by omega), Option.getD_some]
  simp [oIx, items, e, cold, hot]
theorem max_i {i j : Int} : oMax2 [.int i, .int j] = some (.val (.int (if j > i then j else i))) := rfl
theorem min_i {i j : Int} : oMin2 [.int i, .int j] = some (.val (.int (if j < i then j else i))) := rfl
section
local macro_rules | `(tactic| walk_at "o") => `(tactic| first | (with_reducible exact max_i) | (with_reducible exact min_i))
theorem steps2_ok (a b : Int) {w : Int} {n : Nat} (h1 : 1 ≤ w) (h2 : w ≤ 40) (h4 : n ≤ 1000) : ∃ ss a' b', okS w ss ∧ ss.length ≤ n ∧ m__law_steps [.lst true [.int a, .int b], .int w, .int (n : Int)] = .ok (.lst true (nums ss)) [some (.lst true [.int a', .int b']), some (.int w), some (.int (n : Int))] := by
  by_cases hw : w = 1
  · subst hw
    refine ⟨[], a, b, (fun s hs => by cases hs), Nat.zero_le _, ?_⟩
    refine fn_go (body := b__law_steps) (L := [0, 1, 2]) (w := 7) (n := 3) (st := [some (.lst true [.int a, .int b]), some (.int 1), some (.int (n : Int)), none, none, none, none]) rfl ?_
    show b__law_steps [some (.lst true [.int a, .int b]), some (.int 1), some (.int (n : Int)), none, none, none, none] = SR.ret (.lst true []) _
    unfold b__law_steps
    apply zSeqR
    unfold st2__law_steps st1__law_steps
    walk_at "z"
  · obtain ⟨kd, a1, b1, k1, k2, e1⟩ := draw_ok a b 4 (by decide) (by decide)
    obtain ⟨m, a2, b2, m1, m2, e2⟩ := draw_ok a1 b1 ((n : Int) + 1) (by omega) (by omega)
    obtain ⟨M, hM⟩ : ∃ M : Nat, m = (M : Int) := ⟨m.toNat, by omega⟩
    subst hM
    obtain ⟨st', e, ss, a', b', y5, y6, g1, g2, rfl⟩ := forD_ok (g := fg11__law_steps) (body := fb11__law_steps) (fun i st => ∃ ss a' b' y5 y6, okS w ss ∧ ss.length = i ∧ st = [some (.lst true [.int a', .int b']), some (.int w), some (.int (n : Int)), some (.int kd), some (.lst true (nums ss)), y5, y6]) (rangeD 0 M) 0
      [some (.lst true [.int a2, .int b2]), some (.int w), some (.int (n : Int)), some (.int kd), some (.lst true (nums [])), none, none] ⟨[], a2, b2, none, none, (fun s hs => by cases hs), rfl, rfl⟩ (fun i d st e hI => by
        obtain ⟨ss, a', b', y5, y6, g1, g2, rfl⟩ := hI
        obtain ⟨hi, rfl⟩ := rangeD_get e
        obtain ⟨K, hK⟩ : ∃ K : Int, 0 + (i : Int) = K := ⟨_, rfl⟩
        have hK0 : 0 ≤ K := by omega
        rw [hK]
        obtain ⟨r, a3, b3, r1, r2, ed⟩ := draw_ok a' b' (w - 1) (by omega) (by omega)
        obtain ⟨s, hs⟩ : ∃ s : Int, 1 + r = s := ⟨_, rfl⟩
        have q5 : st5__law_steps [some (.lst true [.int a', .int b']), some (.int w), some (.int (n : Int)), some (.int kd), some (.lst true (nums ss)), some (.int K), y6] = .next [some (.lst true [.int a3, .int b3]), some (.int w), some (.int (n : Int)), some (.int kd), some (.lst true (nums ss)), some (.int K), some (.int s)] := by
          rw [← hs]
          unfold st5__law_steps
          walk_at "z"
        have q7 : ∃ s2 a4 b4, 1 ≤ s2 ∧ s2 ≤ w - 1 ∧ st7__law_steps [some (.lst true [.int a3, .int b3]), some (.int w), some (.int (n : Int)), some (.int kd), some (.lst true (nums ss)), some (.int K), some (.int s)] = .next [some (.lst true [.int a4, .int b4]), some (.int w), some (.int (n : Int)), some (.int kd), some (.lst true (nums ss)), some (.int K), some (.int s2)] := by
          by_cases hk : kd = 0
          · by_cases hss : ss = []
            · refine ⟨s, a3, b3, by omega, by omega, ?_⟩
              have z1 : ¬ ¬ (ss = []) := fun z => z hss
              have z2 : f2 pNe [.lst true (nums ss), .lst true []] = some (.val (.bl false)) := by
                show f2 pNe [.lst true (nums ss), .lst true (nums [])] = _
                rw [ne_of (pNe_lst true true ss []), decide_eq_true hss]
                rfl
              unfold st7__law_steps
              walk_at "z"
            · obtain ⟨z, hz⟩ := neg_ix (o := true) hss
              obtain ⟨x, a4, b4, x1, x2, ex⟩ := draw_ok a3 b3 4 (by decide) (by decide)
              have z2 : f2 pNe [.lst true (nums ss), .lst true []] = some (.val (.bl true)) := by
                show f2 pNe [.lst true (nums ss), .lst true (nums [])] = _
                rw [ne_of (pNe_lst true true ss []), decide_eq_false hss]
                rfl
              have hx : oIx [.lst true [.int 0, .int 1, .int (-1), .int 2], .int x] = some (.val (.int (([0, 1, -1, 2] : List Int).getD x.toNat 0))) := oIx_nums (l := [0, 1, -1, 2]) x1 (by show x < ((4 : Nat) : Int); omega)
              obtain ⟨y, hy⟩ : ∃ y : Int, ([0, 1, -1, 2] : List Int).getD x.toNat 0 = y := ⟨_, rfl⟩
              rw [hy] at hx
              obtain ⟨u, hu⟩ : ∃ u : Int, (if z + y > 1 then z + y else 1) = u := ⟨_, rfl⟩
              obtain ⟨v, hv⟩ : ∃ v : Int, (if u < w - 1 then u else w - 1) = v := ⟨_, rfl⟩
              have u1 : 1 ≤ u := by rw [← hu]; split <;> omega
              have v1 : 1 ≤ v := by rw [← hv]; split <;> omega
              have v2 : v ≤ w - 1 := by rw [← hv]; split <;> omega
              refine ⟨v, a4, b4, v1, v2, ?_⟩
              rw [← hv, ← hu]
              unfold st7__law_steps st6__law_steps
              walk_at "z"
          · refine ⟨s, a3, b3, by omega, by omega, ?_⟩
            unfold st7__law_steps
            walk_at "z"
        obtain ⟨s2, a4, b4, s21, s22, q7⟩ := q7
        have q9 : ∃ s3, 1 ≤ s3 ∧ s3 ≤ w - 1 ∧ st9__law_steps [some (.lst true [.int a4, .int b4]), some (.int w), some (.int (n : Int)), some (.int kd), some (.lst true (nums ss)), some (.int K), some (.int s2)] = .next [some (.lst true [.int a4, .int b4]), some (.int w), some (.int (n : Int)), some (.int kd), some (.lst true (nums ss)), some (.int K), some (.int s3)] := by
          by_cases hk : kd = 1
          · have t1 : 0 ≤ K % (w - 1) := Int.emod_nonneg _ (by omega)
            have t2 : K % (w - 1) < w - 1 := Int.emod_lt_of_pos _ (by omega)
            refine ⟨1 + K % (w - 1), by omega, by omega, ?_⟩
            unfold st9__law_steps st8__law_steps
            walk_at "z"
          · refine ⟨s2, s21, s22, ?_⟩
            unfold st9__law_steps
            walk_at "z"
        obtain ⟨s3, s31, s32, q9⟩ := q9
        refine ⟨_, [some (.lst true [.int a4, .int b4]), some (.int w), some (.int (n : Int)), some (.int kd), some (.lst true (nums (ss ++ [s3]))), some (.int K), some (.int s3)], rfl, .inl ?_, ss ++ [s3], a4, b4, some (.int K), some (.int s3), ?_, by rw [List.length_append, g2]; rfl, rfl⟩
        · unfold fb11__law_steps
          refine zSeq q5 (zSeq q7 (zSeq q9 ?_))
          unfold st10__law_steps
          rw [nums_app]
          have hn : (nums ss).length < 16777216 := by rw [nums_len]; omega
          walk_at "z"
        · intro x hx
          rcases List.mem_append.mp hx with hx | hx
          · exact g1 x hx
          · rw [List.mem_singleton.mp hx]
            exact ⟨s31, s32⟩)
    rw [Nat.zero_add, rangeD_len] at g2
    refine ⟨ss, a', b', g1, by omega, ?_⟩
    refine fn_go (body := b__law_steps) (L := [0, 1, 2]) (w := 7) (n := 3) (st := [some (.lst true [.int a', .int b']), some (.int w), some (.int (n : Int)), some (.int kd), none, y5, y6]) rfl ?_
    show b__law_steps [some (.lst true [.int a, .int b]), some (.int w), some (.int (n : Int)), none, none, none, none] = _
    unfold b__law_steps
    apply zSeq
    · unfold st2__law_steps
      walk_at "z"
    apply zSeq
    · unfold st3__law_steps
      walk_at "z"
    apply zSeq
    · unfold st4__law_steps
      walk_at "z"
    apply zSeq
    · apply zFor
      · apply wR1 (n := M) (z := (M : Int))
        · walk_at "e"
        · rfl
        · exact small62_nat (by omega)
      · exact e
    · unfold st13__law_steps
      walk_at "z"
end
theorem law_values2_ok (a b : Int) {w : Nat} (h1 : 1 ≤ w) (h2 : w ≤ 40) : ∃ vs a' b', vs.length = w ∧ (∀ v ∈ vs, v.natAbs < 10 ^ 25) ∧ m__law_values [.lst true [.int a, .int b], .int (w : Int)] = .ok (.lst true (nums vs)) [some (.lst true [.int a', .int b']), some (.int (w : Int))] := by
  obtain ⟨r, a1, b1, r1, r2, e1⟩ := draw_ok a b 4 (by decide) (by decide)
  obtain ⟨M, hM⟩ : ∃ M : Int, M = 10 ^ (20 : Int).toNat := ⟨_, rfl⟩
  have hMb : 0 < M ∧ M.natAbs < 2 ^ 80 := by rw [hM]; decide
  have q0 : oPow [.int 10, .int 20] = some (.val (.int M)) := by rw [hM]; exact oPow_v (by decide) (by decide)
  obtain ⟨m, hm, m1, m2⟩ : ∃ m : Int, oIx [.lst true [.int 2, .int 3, .int ((w : Int) + 1), .int M], .int r] = some (.val (.int m)) ∧ 0 < m ∧ m.natAbs < 2 ^ 80 := by
    refine ⟨_, oIx_nums (l := [2, 3, (w : Int) + 1, M]) r1 (by show r < ((4 : Nat) : Int); omega), ?_⟩
    rcases (show r = 0 ∨ r = 1 ∨ r = 2 ∨ r = 3 by omega) with h | h | h | h <;> subst h
    · exact (show (0 : Int) < 2 ∧ (2 : Int).natAbs < 2 ^ 80 from by decide)
    · exact (show (0 : Int) < 3 ∧ (3 : Int).natAbs < 2 ^ 80 from by decide)
    · exact (show (0 : Int) < (w : Int) + 1 ∧ ((w : Int) + 1).natAbs < 2 ^ 80 from by omega)
    · exact hMb
  have s1 : (sAsg (eOp oIx [.v (eLst (aCons (eC (.int 2)) (aCons (eC (.int 3)) (aCons (eOp oAdd [.s 1, .v (eC (.int 1))]) (aCons (eOp oPow [.v (eC (.int 10)), .v (eC (.int 20))]) aNil))))), .v (eCallL m__law_draw aNil 0 (aCons (eC (.int 4)) aNil))]) (gN 2)) [some (.lst true [.int a, .int b]), some (.int (w : Int)), none, none] = .next [some (.lst true [.int a1, .int b1]), some (.int (w : Int)), some (.int m), none] := by
    walk_at "z"
  obtain ⟨vs, st', e, ⟨a', b', rfl⟩, hl, hv⟩ := comp_draw (g := lg1__law_values) (e := le1__law_values) (vs := [3]) (src := iR1 (eN 1)) (fun st => ∃ a' b', st = [some (.lst true [.int a', .int b']), some (.int (w : Int)), some (.int m), none]) (fun v => v.natAbs < 10 ^ 25)
    (st := [some (.lst true [.int a1, .int b1]), some (.int (w : Int)), some (.int m), none]) (st1 := [some (.lst true [.int a1, .int b1]), some (.int (w : Int)), some (.int m), none]) (lo := 0) (n := w)
    (by
      apply wR1 (n := w) (z := (w : Int))
      · walk_at "e"
      · rfl
      · exact small62_nat (by omega)) (by omega) ⟨a1, b1, rfl⟩ (fun i st hi hI => by
      obtain ⟨a', b', rfl⟩ := hI
      obtain ⟨r', a2, b2, p1, p2, ed⟩ := draw_big a' b' m m1 m2
      obtain ⟨z, hz⟩ : ∃ z : Int, 0 + (i : Int) = z := ⟨_, rfl⟩
      rw [hz]
      refine ⟨[some (.lst true [.int a', .int b']), some (.int (w : Int)), some (.int m), some (.int z)], [some (.lst true [.int a2, .int b2]), some (.int (w : Int)), some (.int m), some (.int z)], r' - m / 2, rfl, ?_, ?_, a2, b2, rfl⟩
      · unfold le1__law_values
        walk_at "e"
      · have : (2 : Nat) ^ 80 < 10 ^ 25 := by decide
        omega)
  exact ⟨vs, a', b', hl, hv, fn_go rfl (zSeq s1 (zRet e))⟩
theorem rev_t {ss : List Int} (h : ss.length ≤ 1000) : oRevA [.tup (nums ss)] = some (.newT (nums ss.reverse)) := by
  show (if (nums ss).length ≤ 16777216 then some (Out.newT (nums ss).reverse) else none) = _
  rw [if_pos (by rw [nums_len]; omega), nums_rev]
theorem okS_rev {w : Int} {ss : List Int} (h : okS w ss) : okS w ss.reverse := fun s hs => h s (List.mem_reverse.mp hs)
theorem backwards_ok {w : Nat} {ss : List Int} (h1 : 1 ≤ w) (h2 : w ≤ 40) (h : okS w ss) (hs : ss.length ≤ 1000) : ∃ ps, m_Network_backwards [net false w ss] = .ok (net true w ss.reverse) ps := by
  obtain ⟨p1, e1⟩ := init_tup (w := (w : Int)) (ss := ss.reverse) (by omega) (by omega) (okS_rev h) (by rw [List.length_reverse]; exact hs)
  exact ⟨_, by simp [m_Network_backwards, b_Network_backwards, oFld_w, oFld_s, rev_t hs, nums_colds, nums_frz, e1, fn, sSeq, SR.thn, sAsg, sExpr, sRet, sRetN, sIf, sNext, sFail, sBrk, sCont, Res.toS, Res.toN, Res.bind, tE, tNotM, tOrM, tAndM, tYesM, eC, eN, eMv, eOp, opds, eAnd, eOr, eNot, eIf, eChain, aNil, aCons, eLst, eTup, eCall, eCallL, eFz, eLc, eLc2, eApp, isLst, wipeS, eMake, eEqI, insC, keepL, getS, gN, gIx, gT, gTupM, sPar, sFor, iR1, iR2, iRD, iE, iEn, iEnT, iEnA, iEA, oIsiB, noScr, tyName, f2, pLe, pLt, pGe, pGt, oAdd, oSub, oMul, oMod, oDiv, oPow, oNeg, oAbs, oInt, oMax2, oMin2, oLen, items, lstItems, tupItems, hot, cold, Out.d, frz, frzL, frzF, List.range, List.range.loop, isN, oIsN, oNotN, oIsB, oNotB, pEq_int, pNe_int, pEq_bl, pNe_bl, pEq_lst, pNe_lst, pEq_tup, pNe_tup, kb_NoneType_int, kb_NoneType_bool, kb_NoneType_list, kb_NoneType_tuple, kb_NoneType_str, kb_bool_int, kb_bool_bool, kb_bool_list, kb_bool_tuple, kb_bool_str, kb_int_int, kb_int_bool, kb_int_list, kb_int_tuple, kb_int_str, kb_str_int, kb_str_bool, kb_str_list, kb_str_tuple, kb_str_str, kb_list_int, kb_list_bool, kb_list_list, kb_list_tuple, kb_list_str, kb_tuple_int, kb_tuple_bool, kb_tuple_list, kb_tuple_tuple, kb_tuple_str, kb_dict_int, kb_dict_bool, kb_dict_list, kb_dict_tuple, kb_dict_str] <;> rfl⟩
theorem up_nums {w : Nat} (h : w ≤ 40) : oLRg [.int 1, .int ((w : Int) + 1)] = some (.newL (nums (asc w))) := by
  have c : rgOk 1 ((w : Int) + 1) = true := by unfold rgOk; exact decide_eq_true (by omega)
  show (if rgOk 1 ((w : Int) + 1) then some (Out.newL (rangeD 1 ((w : Int) + 1 - 1).toNat)) else none) = _
  rw [if_pos c, show ((w : Int) + 1 - 1).toNat = w by omega, range1_nums]
  rfl
theorem hardest_ok {w : Nat} {ss : List Int} (h1 : 1 ≤ w) (h2 : w ≤ 40) (h : okS w ss) (hs : ss.length ≤ 1000) : ∃ ps, m_hardest [net false w ss] = .ok (.lst true (nums (hard w ss))) ps := by
  obtain ⟨p1, e1⟩ := backwards_ok h1 h2 h hs
  have al := asc_len w
  obtain ⟨st', e, ⟨y, rfl⟩, _⟩ := forD_rel (g := fg1_hardest) (body := fb1_hardest) D.int (fun (k : List Int) st => (∃ y, st = [some (net false w ss), some (.lst true (nums k)), y]) ∧ k.length = w) stpU ss.reverse (asc w)
    [some (net false w ss), some (.lst true (nums (asc w))), none] ⟨⟨none, rfl⟩, al⟩ (fun k s st hs hI => by
      obtain ⟨⟨y, rfl⟩, hk⟩ := hI
      have h12 := okS_rev h s hs
      have a1 : oIx [.lst true (nums k), .int (s - 1)] = some (.val (.int (k.getD (s - 1).toNat 0))) := oIx_nums (by omega) (by omega)
      have a2 : oIx [.lst true (nums k), .int s] = some (.val (.int (k.getD s.toNat 0))) := oIx_nums (by omega) (by omega)
      have a3 : L2.ixN (nums k).length (s - 1) = some (s - 1).toNat := by rw [nums_len]; exact ixN_nat (by omega) (by omega)
      have a4 : L2.ixN (nums (k.set (s - 1).toNat (k.getD s.toNat 0))).length s = some s.toNat := by rw [nums_len, List.length_set]; exact ixN_nat (by omega) (by omega)
      have d1 : stpU k s = if decide (k.getD (s - 1).toNat 0 < k.getD s.toNat 0) then (k.set (s - 1).toNat (k.getD s.toNat 0)).set s.toNat (k.getD (s - 1).toNat 0) else k := rfl
      refine ⟨_, [some (net false w ss), some (.lst true (nums (stpU k s))), some (.int s)], rfl, ?_, ⟨_, rfl⟩, by rw [stpU_len]; exact hk⟩
      rw [d1]
      clear d1 h12
      generalize k.getD (s - 1).toNat 0 = p1 at *
      generalize k.getD s.toNat 0 = q1 at *
      generalize (s - 1).toNat = i1 at *
      generalize s.toNat = j1 at *
      by_cases hq : p1 < q1
      · simp [fb1_hardest, a1, a2, a3, a4, hq, nums_set, fn, sSeq, SR.thn, sAsg, sExpr, sRet, sRetN, sIf, sNext, sFail, sBrk, sCont, Res.toS, Res.toN, Res.bind, tE, tNotM, tOrM, tAndM, tYesM, eC, eN, eMv, eOp, opds, eAnd, eOr, eNot, eIf, eChain, aNil, aCons, eLst, eTup, eCall, eCallL, eFz, eLc, eLc2, eApp, isLst, wipeS, eMake, eEqI, insC, keepL, getS, gN, gIx, gT, gTupM, sPar, sFor, iR1, iR2, iRD, iE, iEn, iEnT, iEnA, iEA, oIsiB, noScr, tyName, f2, pLe, pLt, pGe, pGt, oAdd, oSub, oMul, oMod, oDiv, oPow, oNeg, oAbs, oInt, oMax2, oMin2, oLen, items, lstItems, tupItems, hot, cold, Out.d, frz, frzL, frzF, List.range, List.range.loop, isN, oIsN, oNotN, oIsB, oNotB, pEq_int, pNe_int, pEq_bl, pNe_bl, pEq_lst, pNe_lst, pEq_tup, pNe_tup, kb_NoneType_int, kb_NoneType_bool, kb_NoneType_list, kb_NoneType_tuple, kb_NoneType_str, kb_bool_int, kb_bool_bool, kb_bool_list, kb_bool_tuple, kb_bool_str, kb_int_int, kb_int_bool, kb_int_list, kb_int_tuple, kb_int_str, kb_str_int, kb_str_bool, kb_str_list, kb_str_tuple, kb_str_str, kb_list_int, kb_list_bool, kb_list_list, kb_list_tuple, kb_list_str, kb_tuple_int, kb_tuple_bool, kb_tuple_list, kb_tuple_tuple, kb_tuple_str, kb_dict_int, kb_dict_bool, kb_dict_list, kb_dict_tuple, kb_dict_str]
      · simp [fb1_hardest, a1, a2, hq, fn, sSeq, SR.thn, sAsg, sExpr, sRet, sRetN, sIf, sNext, sFail, sBrk, sCont, Res.toS, Res.toN, Res.bind, tE, tNotM, tOrM, tAndM, tYesM, eC, eN, eMv, eOp, opds, eAnd, eOr, eNot, eIf, eChain, aNil, aCons, eLst, eTup, eCall, eCallL, eFz, eLc, eLc2, eApp, isLst, wipeS, eMake, eEqI, insC, keepL, getS, gN, gIx, gT, gTupM, sPar, sFor, iR1, iR2, iRD, iE, iEn, iEnT, iEnA, iEA, oIsiB, noScr, tyName, f2, pLe, pLt, pGe, pGt, oAdd, oSub, oMul, oMod, oDiv, oPow, oNeg, oAbs, oInt, oMax2, oMin2, oLen, items, lstItems, tupItems, hot, cold, Out.d, frz, frzL, frzF, List.range, List.range.loop, isN, oIsN, oNotN, oIsB, oNotB, pEq_int, pNe_int, pEq_bl, pNe_bl, pEq_lst, pNe_lst, pEq_tup, pNe_tup, kb_NoneType_int, kb_NoneType_bool, kb_NoneType_list, kb_NoneType_tuple, kb_NoneType_str, kb_bool_int, kb_bool_bool, kb_bool_list, kb_bool_tuple, kb_bool_str, kb_int_int, kb_int_bool, kb_int_list, kb_int_tuple, kb_int_str, kb_str_int, kb_str_bool, kb_str_list, kb_str_tuple, kb_str_str, kb_list_int, kb_list_bool, kb_list_list, kb_list_tuple, kb_list_str, kb_tuple_int, kb_tuple_bool, kb_tuple_list, kb_tuple_tuple, kb_tuple_str, kb_dict_int, kb_dict_bool, kb_dict_list, kb_dict_tuple, kb_dict_str])
  have e' : forD fg1_hardest fb1_hardest (nums ss.reverse) [some (net false w ss), some (.lst true (nums (asc w))), none] = _ := e
  rw [hard_fold] at e'
  have q0 := up_nums h2
  refine ⟨_, fn_go rfl (?_ : b_hardest [some (net false w ss), none, none] = SR.ret _ [some (net false w ss), none, y])⟩
  unfold b_hardest
  apply zSeq
  · walk_at "z"
  · apply zSeq
    · apply zFor
      · walk_at "w"
      · exact e'
    · walk_at "z"
def lows (t : Int) (l : List Int) : List Int := ((l.zipIdx 1).filter fun p => decide (p.1 ≤ t)).map fun p => ((p.2 : Nat) : Int)
theorem enumD_idx (k : Nat) (l : List Int) : enumD k (nums l) = (l.zipIdx k).map fun p => D.tup [.int ((p.2 : Nat) : Int), .int p.1] := by
  induction l generalizing k with
  | nil => rfl
  | cons x l ih =>
    rw [nums_cons, List.zipIdx_cons, List.map_cons, ← ih (k + 1)]
    rfl
theorem places_ok {l : List Int} {t : Int} {o : Bool} (hl : l.length ≤ 1000) : ∃ ps, m_places_up_to [.lst o (nums l), .int t] = .ok (.lst true (nums (lows t l))) ps := by
  refine ⟨_, fn_go rfl (?_ : b_places_up_to [some (.lst o (nums l)), some (.int t), none, none] = SR.ret _ [some (.lst false (nums l)), some (.int t), none, none])⟩
  unfold b_places_up_to
  have q0 : aCons (eN 0) (aCons (eC (.int 1)) aNil) [some (.lst o (nums l)), some (.int t), none, none] = .ok [.lst false (nums l), .int ((1 : Nat) : Int)] [some (.lst false (nums l)), some (.int t), none, none] := by
    show _ = Res.ok [D.lst false (nums l), D.int 1] _
    cases o <;> walk_at "a"
  apply zRet
  apply xLc2n (fun p : Int × Nat => D.tup [.int ((p.2 : Nat) : Int), .int p.1]) (fun p => D.int ((p.2 : Nat) : Int)) (fun p => decide (p.1 ≤ t)) (l.zipIdx 1)
  · exact wEnK q0 (nums_colds l) (by decide)
  · exact enumD_idx 1 l
  · rw [List.length_zipIdx]; omega
  · rfl
  · intro p hp
    refine ⟨[some (.lst false (nums l)), some (.int t), some (.int ((p.2 : Nat) : Int)), some (.int p.1)], [some (.lst false (nums l)), some (.int t), some (.int ((p.2 : Nat) : Int)), some (.int p.1)], rfl, ?_, fun _ => rfl, fun _ => ⟨[some (.lst false (nums l)), some (.int t), some (.int ((p.2 : Nat) : Int)), some (.int p.1)], ?_, rfl⟩⟩
    · unfold lt1_places_up_to
      walk_at "c"
    · unfold le1_places_up_to
      walk_at "e"
  · unfold lows nums
    rw [List.map_map]
    rfl
def lims (w : Nat) (l : List Int) : List (List Int) := (List.range (w - 1)).map fun (i : Nat) => lows ((1 : Int) + i) l
theorem limits_ok {w : Nat} {ss : List Int} (h1 : 1 ≤ w) (h2 : w ≤ 40) (h : okS w ss) (hs : ss.length ≤ 1000) : ∃ ps, m_limits [net false w ss] = .ok (.lst true ((lims w (hard w ss)).map fun r => .lst true (nums r))) ps := by
  obtain ⟨p1, e1⟩ := hardest_ok h1 h2 h hs
  have hl := hard_len w ss
  have q0 : iR2 (eC (.int 1)) (eOp (oFld 0 "own_width") [.s 0]) [some (net false w ss), some (.lst true (nums (hard w ss))), none] = .ok (rangeD 1 (w - 1)) [some (net false w ss), some (.lst true (nums (hard w ss))), none] := by
    apply wR2 (i := 1) (j := (w : Int))
    · walk_at "e"
    · walk_at "e"
    · rfl
    · exact small62_nat (n := w) (by omega)
    · omega
  obtain ⟨acc, st', e, hst, hacc⟩ := compD_ok (g := lg1_limits) (t := tYesM) (e := le1_limits) (vs := [2]) (fun i st acc => (∃ o, st = [some (net false w ss), some (.lst o (nums (hard w ss))), none]) ∧ acc = ((List.range i).map fun (j : Nat) => D.lst true (nums (lows ((1 : Int) + j) (hard w ss))))) (rangeD 1 (w - 1)) 0
    [some (net false w ss), some (.lst true (nums (hard w ss))), none] [] ⟨⟨true, rfl⟩, rfl⟩ (fun i d st acc e hI => by
      obtain ⟨⟨o, rfl⟩, rfl⟩ := hI
      obtain ⟨hi, rfl⟩ := rangeD_get e
      rw [Nat.zero_add]
      obtain ⟨p2, e2⟩ := places_ok (l := hard w ss) (t := (1 : Int) + (i : Int)) (o := false) (by omega)
      refine ⟨[some (net false w ss), some (.lst o (nums (hard w ss))), some (.int ((1 : Int) + (i : Int)))], true, _, rfl, rfl, (fun h => by cases h), fun _ => ⟨?_, .lst true (nums (lows ((1 : Int) + (i : Int)) (hard w ss))), [some (net false w ss), some (.lst false (nums (hard w ss))), some (.int ((1 : Int) + (i : Int)))], ?_, ⟨false, rfl⟩, ?_⟩⟩
      · rw [List.length_map, List.length_range]; omega
      · unfold le1_limits
        cases o <;> walk_at "e"
      · rw [List.range_succ, List.map_append, List.map_singleton])
  obtain ⟨o, rfl⟩ := hst
  rw [Nat.zero_add, rangeD_len] at hacc
  have ha : acc = (lims w (hard w ss)).map fun r => .lst true (nums r) := by
    rw [hacc]
    unfold lims
    rw [List.map_map]
    rfl
  subst ha
  refine ⟨_, fn_go rfl (?_ : b_limits [some (net false w ss), none, none] = SR.ret _ [some (net false w ss), some (.lst o (nums (hard w ss))), none])⟩
  unfold b_limits
  apply zSeq
  · walk_at "z"
  · apply zRet
    exact eLc_v q0 e
theorem ix_at {o : Bool} {xs : List D} {i : Int} {d : D} (h0 : 0 ≤ i) (h1 : xs[i.toNat]? = some d) (hc : cold d = true) : oIx [.lst o xs, .int i] = some (.val d) := by
  have lt := (List.getElem?_eq_some_iff.mp h1).1
  have a : L2.atI xs i = some d := by
    unfold L2.atI
    rw [ixN_nat h0 (by omega)]
    exact h1
  show (match L2.atI xs i with | some d => if cold d then some (Out.val d) else none | none => none) = _
  rw [a]
  show (if cold d = true then _ else _) = _
  rw [hc]
  rfl
-- m_limits
theorem lows_R (t : Int) (l : List Int) : lows t l = lowR t 1 l := lowR_idx t 1 l
theorem law_resultL_ps {ss l : List Int} {o p : Bool} (h : okS l.length ss) (hl : l.length ≤ 1000) : m__law_result [.lst o (nums ss), .lst p (nums l)] = .ok (.lst true (nums (runL ss l))) [some (.lst false (nums ss)), some (.lst p (nums l))] := by
  obtain ⟨st', e, ⟨y3, y4, y5, rfl⟩, _⟩ := forD_rel (g := fg1__law_result) (body := fb1__law_result) D.int (fun (k : List Int) st => (∃ y3 y4 y5, st = [some (.lst false (nums ss)), some (.lst p (nums l)), some (.lst true (nums k)), y3, y4, y5]) ∧ k.length = l.length) stp ss l
    [some (.lst false (nums ss)), some (.lst p (nums l)), some (.lst true (nums l)), none, none, none] ⟨⟨none, none, none, rfl⟩, rfl⟩ (fun k s st hs hI => by
      obtain ⟨⟨y3, y4, y5, rfl⟩, hk⟩ := hI
      have h12 := h s hs
      have h1 : 1 ≤ s := h12.1
      have h2' : s < k.length := by omega
      have a1 : oIx [.lst true (nums k), .int (s - 1)] = some (.val (.int (k.getD (s - 1).toNat 0))) := oIx_nums (by omega) (by omega)
      have a2 : oIx [.lst true (nums k), .int s] = some (.val (.int (k.getD s.toNat 0))) := oIx_nums (by omega) h2'
      have a3 : L2.ixN (nums k).length (s - 1) = some (s - 1).toNat := by rw [nums_len]; exact ixN_nat (by omega) (by omega)
      have a4 : L2.ixN (nums (k.set (s - 1).toNat (k.getD s.toNat 0))).length s = some s.toNat := by rw [nums_len, List.length_set]; exact ixN_nat (by omega) h2'
      have d1 : stp k s = if hit k s then (k.set (s - 1).toNat (k.getD s.toNat 0)).set s.toNat (k.getD (s - 1).toNat 0) else k := rfl
      have d2 : hit k s = decide (k.getD s.toNat 0 < k.getD (s - 1).toNat 0) := rfl
      have d3 := stp_len k s
      refine ⟨_, [some (.lst false (nums ss)), some (.lst p (nums l)), some (.lst true (nums (stp k s))), some (.int s), some (.int (k.getD (s - 1).toNat 0)), some (.int (k.getD s.toNat 0))], rfl, ?_, ⟨_, _, _, rfl⟩, by omega⟩
      rw [d1, d2]
      clear d1 d2 d3 h12
      generalize k.getD (s - 1).toNat 0 = p1 at *
      generalize k.getD s.toNat 0 = q1 at *
      generalize (s - 1).toNat = i1 at *
      generalize s.toNat = j1 at *
      by_cases hq : q1 < p1
      · simp [fb1__law_result, a1, a2, a3, a4, hq, nums_set, fn, sSeq, SR.thn, sAsg, sExpr, sRet, sRetN, sIf, sNext, sFail, sBrk, sCont, Res.toS, Res.toN, Res.bind, tE, tNotM, tOrM, tAndM, tYesM, eC, eN, eMv, eOp, opds, eAnd, eOr, eNot, eIf, eChain, aNil, aCons, eLst, eTup, eCall, eCallL, eFz, eLc, eLc2, eApp, isLst, wipeS, eMake, eEqI, insC, keepL, getS, gN, gIx, gT, gTupM, sPar, sFor, iR1, iR2, iRD, iE, iEn, iEnT, iEnA, iEA, oIsiB, noScr, tyName, f2, pLe, pLt, pGe, pGt, oAdd, oSub, oMul, oMod, oDiv, oPow, oNeg, oAbs, oInt, oMax2, oMin2, oLen, items, lstItems, tupItems, hot, cold, Out.d, frz, frzL, frzF, List.range, List.range.loop, isN, oIsN, oNotN, oIsB, oNotB, pEq_int, pNe_int, pEq_bl, pNe_bl, pEq_lst, pNe_lst, pEq_tup, pNe_tup, kb_NoneType_int, kb_NoneType_bool, kb_NoneType_list, kb_NoneType_tuple, kb_NoneType_str, kb_bool_int, kb_bool_bool, kb_bool_list, kb_bool_tuple, kb_bool_str, kb_int_int, kb_int_bool, kb_int_list, kb_int_tuple, kb_int_str, kb_str_int, kb_str_bool, kb_str_list, kb_str_tuple, kb_str_str, kb_list_int, kb_list_bool, kb_list_list, kb_list_tuple, kb_list_str, kb_tuple_int, kb_tuple_bool, kb_tuple_list, kb_tuple_tuple, kb_tuple_str, kb_dict_int, kb_dict_bool, kb_dict_list, kb_dict_tuple, kb_dict_str]
      · simp [fb1__law_result, a1, a2, hq, fn, sSeq, SR.thn, sAsg, sExpr, sRet, sRetN, sIf, sNext, sFail, sBrk, sCont, Res.toS, Res.toN, Res.bind, tE, tNotM, tOrM, tAndM, tYesM, eC, eN, eMv, eOp, opds, eAnd, eOr, eNot, eIf, eChain, aNil, aCons, eLst, eTup, eCall, eCallL, eFz, eLc, eLc2, eApp, isLst, wipeS, eMake, eEqI, insC, keepL, getS, gN, gIx, gT, gTupM, sPar, sFor, iR1, iR2, iRD, iE, iEn, iEnT, iEnA, iEA, oIsiB, noScr, tyName, f2, pLe, pLt, pGe, pGt, oAdd, oSub, oMul, oMod, oDiv, oPow, oNeg, oAbs, oInt, oMax2, oMin2, oLen, items, lstItems, tupItems, hot, cold, Out.d, frz, frzL, frzF, List.range, List.range.loop, isN, oIsN, oNotN, oIsB, oNotB, pEq_int, pNe_int, pEq_bl, pNe_bl, pEq_lst, pNe_lst, pEq_tup, pNe_tup, kb_NoneType_int, kb_NoneType_bool, kb_NoneType_list, kb_NoneType_tuple, kb_NoneType_str, kb_bool_int, kb_bool_bool, kb_bool_list, kb_bool_tuple, kb_bool_str, kb_int_int, kb_int_bool, kb_int_list, kb_int_tuple, kb_int_str, kb_str_int, kb_str_bool, kb_str_list, kb_str_tuple, kb_str_str, kb_list_int, kb_list_bool, kb_list_list, kb_list_tuple, kb_list_str, kb_tuple_int, kb_tuple_bool, kb_tuple_list, kb_tuple_tuple, kb_tuple_str, kb_dict_int, kb_dict_bool, kb_dict_list, kb_dict_tuple, kb_dict_str])
  have e' : forD fg1__law_result fb1__law_result (nums ss) [some (.lst false (nums ss)), some (.lst p (nums l)), some (.lst true (nums l)), none, none, none] = _ := e
  refine fn_go (body := b__law_result) (L := [0, 1]) (w := 6) (n := 2) (st := [some (.lst false (nums ss)), some (.lst p (nums l)), none, y3, y4, y5]) rfl ?_
  show b__law_result [some (.lst o (nums ss)), some (.lst p (nums l)), none, none, none, none] = SR.ret (.lst true (nums (ss.foldl stp l))) _
  unfold b__law_result
  apply zSeq
  · walk_at "z"
  · apply zSeq
    · apply zFor
      · cases o
        · exact wEL (xN rfl rfl) (nums_colds _)
        · exact wEL (xNf rfl rfl (fz_lst (nums_frz _)) rfl) (nums_colds _)
      · exact e'
    · walk_at "z"
theorem law_resultL_ok {ss l : List Int} {o p : Bool} (h : okS l.length ss) (hl : l.length ≤ 1000) : ∃ ps, m__law_result [.lst o (nums ss), .lst p (nums l)] = .ok (.lst true (nums (runL ss l))) ps := ⟨_, law_resultL_ps h hl⟩
theorem law_places_lo {l : List Int} {t : Int} {o : Bool} (hl : l.length ≤ 1000) : ∃ ps, m__law_places [.lst o (nums l), .int t] = .ok (.lst true (nums (lows t l))) ps := by
  refine ⟨_, fn_go rfl (?_ : b__law_places [some (.lst o (nums l)), some (.int t), none, none] = SR.ret _ [some (.lst false (nums l)), some (.int t), none, none])⟩
  unfold b__law_places
  have q0 : aCons (eN 0) (aCons (eC (.int 1)) aNil) [some (.lst o (nums l)), some (.int t), none, none] = .ok [.lst false (nums l), .int ((1 : Nat) : Int)] [some (.lst false (nums l)), some (.int t), none, none] := by
    show _ = Res.ok [D.lst false (nums l), D.int 1] _
    cases o <;> walk_at "a"
  apply zRet
  apply xLc2n (fun p : Int × Nat => D.tup [.int ((p.2 : Nat) : Int), .int p.1]) (fun p => D.int ((p.2 : Nat) : Int)) (fun p => decide (p.1 ≤ t)) (l.zipIdx 1)
  · exact wEnK q0 (nums_colds l) (by decide)
  · exact enumD_idx 1 l
  · rw [List.length_zipIdx]; omega
  · rfl
  · intro p hp
    refine ⟨[some (.lst false (nums l)), some (.int t), some (.int ((p.2 : Nat) : Int)), some (.int p.1)], [some (.lst false (nums l)), some (.int t), some (.int ((p.2 : Nat) : Int)), some (.int p.1)], rfl, ?_, fun _ => rfl, fun _ => ⟨[some (.lst false (nums l)), some (.int t), some (.int ((p.2 : Nat) : Int)), some (.int p.1)], ?_, rfl⟩⟩
    · unfold lt1__law_places
      walk_at "c"
    · unfold le1__law_places
      walk_at "e"
  · unfold lows nums
    rw [List.map_map]
    rfl
theorem law_places_ok {l : List Int} {t : Int} {o : Bool} (hl : l.length ≤ 1000) : ∃ ps, m__law_places [.lst o (nums l), .int t] = .ok (.lst true (nums (lowR t 1 l))) ps := by
  obtain ⟨ps, e⟩ := law_places_lo (l := l) (t := t) (o := o) hl
  rw [lows_R] at e
  exact ⟨ps, e⟩
def cntP (P : List Int) (x : Int) : Nat := (P.filter fun y => decide (y ≤ x)).length
theorem law_short_ok {P L : List Int} {x : Int} {o1 o2 : Bool} (lP : P.length ≤ 1000) (lL : L.length ≤ 1000) : ∃ ps, m__law_is_short [.lst o1 (nums P), .lst o2 (nums L), .int x] = .ok (.bl (decide (cntP P x < cntP L x))) ps := by
  have c1 : eLc (iE (eN 0) lstItems) lg1__law_is_short lt1__law_is_short le1__law_is_short [3] [some (.lst o1 (nums P)), some (.lst o2 (nums L)), some (.int x), none] = .ok (.lst true (nums (P.filter fun y => decide (y ≤ x)))) [some (.lst false (nums P)), some (.lst o2 (nums L)), some (.int x), none] := by
    refine xLc D.int D.int (fun y => decide (y ≤ x)) P (st1 := [some (.lst false (nums P)), some (.lst o2 (nums L)), some (.int x), none]) (ds := nums P) ?_ rfl (by omega) (by show 3 < 4; decide) rfl (fun y _ => rfl) (fun y _ => ?_) (fun y _ _ => xN rfl rfl) rfl
    · apply wE
      · cases o1 <;> walk_at "e"
      · exact lst_it
      · exact nums_colds _
    · show lt1__law_is_short [some (.lst false (nums P)), some (.lst o2 (nums L)), some (.int x), some (.int y)] = .ok (decide (y ≤ x)) [some (.lst false (nums P)), some (.lst o2 (nums L)), some (.int x), some (.int y)]
      unfold lt1__law_is_short
      apply cE
      exact xOss rfl rfl le_i od_val
  have c2 : eLc (iE (eN 1) lstItems) lg2__law_is_short lt2__law_is_short le2__law_is_short [3] [some (.lst false (nums P)), some (.lst o2 (nums L)), some (.int x), none] = .ok (.lst true (nums (L.filter fun y => decide (y ≤ x)))) [some (.lst false (nums P)), some (.lst false (nums L)), some (.int x), none] := by
    refine xLc D.int D.int (fun y => decide (y ≤ x)) L (st1 := [some (.lst false (nums P)), some (.lst false (nums L)), some (.int x), none]) (ds := nums L) ?_ rfl (by omega) (by show 3 < 4; decide) rfl (fun y _ => rfl) (fun y _ => ?_) (fun y _ _ => xN rfl rfl) rfl
    · apply wE
      · cases o2 <;> walk_at "e"
      · exact lst_it
      · exact nums_colds _
    · show lt2__law_is_short [some (.lst false (nums P)), some (.lst false (nums L)), some (.int x), some (.int y)] = .ok (decide (y ≤ x)) [some (.lst false (nums P)), some (.lst false (nums L)), some (.int x), some (.int y)]
      unfold lt2__law_is_short
      apply cE
      exact xOss rfl rfl le_i od_val
  have l3 : f2 pLt [.int ((cntP P x : Nat) : Int), .int ((cntP L x : Nat) : Int)] = some (.val (.bl (decide (cntP P x < cntP L x)))) := by
    have : decide (((cntP P x : Nat) : Int) < ((cntP L x : Nat) : Int)) = decide (cntP P x < cntP L x) := decide_eq_decide.mpr (by omega)
    rw [lt_i, this]
  refine ⟨_, fn_go rfl (?_ : b__law_is_short [some (.lst o1 (nums P)), some (.lst o2 (nums L)), some (.int x), none] = SR.ret (.bl (decide (cntP P x < cntP L x))) [some (.lst false (nums P)), some (.lst false (nums L)), some (.int x), none])⟩
  unfold b__law_is_short
  apply zRet
  apply xOvv
  · exact xOv c1 oLen_l od_val
  · exact xOv c2 oLen_l od_val
  · exact l3
  · exact od_val
section
local macro_rules | `(tactic| walk_at "f") => `(tactic| with_reducible exact frz_net)
local macro_rules | `(tactic| walk_at "o") => `(tactic| first | (with_reducible exact oFld_w) | (with_reducible exact oFld_s))
def cntQ (P : List Int) (x : Int) : Nat := (P.filter fun y => decide (y ≤ x)).length
def isObs (w : Nat) (H v : List Int) (c x : Int) : Bool :=
  decide (1 ≤ c ∧ c ≤ (w : Int) - 1) && (decide (1 ≤ x ∧ x ≤ (w : Int)) && (decide (((lowR ((srt v).getD (c - 1).toNat 0) 1 v).length : Int) = c) && decide (cntQ (lowR ((srt v).getD (c - 1).toNat 0) 1 v) x < cntQ (lowR c 1 H) x)))
theorem is_obstacle_ok {w : Nat} {ss v : List Int} {c x : Int} (h1 : 1 ≤ w) (h2 : w ≤ 40) (h : okS w ss) (hs : ss.length ≤ 1000) (hv : v.length = w) (q o : Bool) : ∃ ps, m_is_obstacle [net q w ss, .lst o (nums v), .tup [.int c, .int x]] = .ok (.bl (isObs w (hard w ss) v c x)) ps := by
  have cv := check_values_ok (w := (w : Int)) (l := v) (by omega)
  obtain ⟨p1, e1⟩ := limits_ok h1 h2 h hs
  have hl := hard_len w ss
  have fz : frz (.lst true ((lims w (hard w ss)).map fun r => .lst true (nums r))) = .lst false ((lims w (hard w ss)).map fun r => .lst false (nums r)) := by
    refine fz_lst ?_
    have key : ∀ L : List (List Int), frzL (L.map fun r => D.lst true (nums r)) = L.map fun r => D.lst false (nums r) := fun L => by
      induction L with
      | nil => exact fzL_n
      | cons r L ih => exact fzL_c (fz_lst (nums_frz r)) ih
    exact key _
  have i1 := is_integer_ok c 1 ((w : Int) - 1)
  have i2 := is_integer_ok x 1 (w : Int)
  have t1 : oIsiB "tuple" [.tup [.int c, .int x], .ty "tuple"] = some (.val (.bl true)) := rfl
  have t2 : oLen [.tup [.int c, .int x]] = some (.val (.int 2)) := rfl
  have t3 : f2 pNe [.int 2, .int 2] = some (.val (.bl false)) := by kernel_rfl
  have front : ∀ (R : SR), (sSeq (sIf (tOrM (tNotM (tE (eCall m_is_integer (aCons (eN 3) (aCons (eC (.int 1)) (aCons (eOp oSub [.v (eOp (oFld 0 "own_width") [.s 0]), .v (eC (.int 1))]) aNil)))))) (tNotM (tE (eCall m_is_integer (aCons (eN 4) (aCons (eC (.int 1)) (aCons (eOp (oFld 0 "own_width") [.s 0]) aNil))))))) (sRet (eC (.bl false))) sNext) (sSeq (sAsg (eCall m_places_up_to (aCons (eN 1) (aCons (eOp oIx [.v (eOp oSorted [.s 1]), .v (eOp oSub [.s 3, .v (eC (.int 1))])]) aNil))) (gN 5)) (sSeq (sAsg (eOp oIx [.v (eFz (eCall m_limits (aCons (eN 0) aNil))), .v (eOp oSub [.s 3, .v (eC (.int 1))])]) (gN 6)) (sRet (eAnd (eOp (f2 pEq) [.v (eOp oLen [.s 5]), .s 3]) (eOp (f2 pLt) [.v (eOp oLen [.v (eLc (iE (eN 5) lstItems) lg1_is_obstacle lt1_is_obstacle le1_is_obstacle [7])]), .v (eOp oLen [.v (eLc (iE (eN 6) lstItems) lg2_is_obstacle lt2_is_obstacle le2_is_obstacle [7])])])))))) [some (net q w ss), some (.lst false (nums v)), some (.tup [.int c, .int x]), some (.int c), some (.int x), none, none, none] = R →
      b_is_obstacle [some (net q w ss), some (.lst o (nums v)), some (.tup [.int c, .int x]), none, none, none, none, none] = R := fun R hR => by
    unfold b_is_obstacle
    apply zSeq (st1 := [some (net q w ss), some (.lst false (nums v)), some (.tup [.int c, .int x]), none, none, none, none, none])
    · cases o <;> walk_at "z"
    apply zSeq (st1 := [some (net q w ss), some (.lst false (nums v)), some (.tup [.int c, .int x]), none, none, none, none, none])
    · walk_at "z"
    apply zSeq (st1 := [some (net q w ss), some (.lst false (nums v)), some (.tup [.int c, .int x]), some (.int c), some (.int x), none, none, none])
    · exact zAsg (xN rfl rfl) rfl
    exact hR
  by_cases a1 : 1 ≤ c ∧ c ≤ (w : Int) - 1
  · rw [decide_eq_true a1] at i1
    by_cases a2 : 1 ≤ x ∧ x ≤ (w : Int)
    · rw [decide_eq_true a2] at i2
      obtain ⟨k, hk⟩ : ∃ k : Nat, c = (k : Int) := ⟨c.toNat, by omega⟩
      have so := oSorted_l (o := false) (l := v)
      have ls : (srt v).length = w := by rw [(srt_perm v).length_eq, hv]
      have ix1 : oIx [.lst true (nums (srt v)), .int (c - 1)] = some (.val (.int ((srt v).getD (c - 1).toNat 0))) := oIx_nums (by omega) (by omega)
      obtain ⟨t, ht⟩ : ∃ t, (srt v).getD (c - 1).toNat 0 = t := ⟨_, rfl⟩
      obtain ⟨p2, e2⟩ := places_ok (l := v) (t := t) (o := false) (by omega)
      rw [lows_R] at e2
      have row : ((lims w (hard w ss)).map fun r => D.lst false (nums r))[(c - 1).toNat]? = some (.lst false (nums (lowR c 1 (hard w ss)))) := by
        unfold lims
        rw [List.getElem?_map, List.getElem?_map, List.getElem?_range (by omega)]
        show some (D.lst false (nums (lows ((1 : Int) + (((c - 1).toNat : Nat) : Int)) (hard w ss)))) = _
        rw [show (1 : Int) + (((c - 1).toNat : Nat) : Int) = c by omega, lows_R]
      have ix2 := ix_at (o := false) (i := c - 1) (by omega) row rfl
      have lP : (lowR t 1 v).length ≤ 1000 := by rw [lowR_len]; exact Nat.le_trans (cp_lep _ _ _) (by omega)
      have lL : (lowR c 1 (hard w ss)).length ≤ 1000 := by rw [lowR_len]; exact Nat.le_trans (cp_lep _ _ _) (by omega)
      have io : isObs w (hard w ss) v c x = (decide (((lowR t 1 v).length : Int) = c) && decide (cntQ (lowR t 1 v) x < cntQ (lowR c 1 (hard w ss)) x)) := by
        unfold isObs
        rw [decide_eq_true a1, decide_eq_true a2, ht, Bool.true_and, Bool.true_and]
      rw [ht] at ix1
      rw [io]
      generalize (lims w (hard w ss)).map (fun r => D.lst false (nums r)) = BB at *
      generalize lowR c 1 (hard w ss) = L at *
      generalize lowR t 1 v = P at *
      have c1 : eLc (iE (eN 5) lstItems) lg1_is_obstacle lt1_is_obstacle le1_is_obstacle [7] [some (net false w ss), some (.lst false (nums v)), some (.tup [.int c, .int x]), some (.int c), some (.int x), some (.lst true (nums P)), some (.lst false (nums L)), none] = .ok (.lst true (nums (P.filter fun y => decide (y ≤ x)))) [some (net false w ss), some (.lst false (nums v)), some (.tup [.int c, .int x]), some (.int c), some (.int x), some (.lst false (nums P)), some (.lst false (nums L)), none] := by
        refine xLc D.int D.int (fun y => decide (y ≤ x)) P (st1 := [some (net false w ss), some (.lst false (nums v)), some (.tup [.int c, .int x]), some (.int c), some (.int x), some (.lst false (nums P)), some (.lst false (nums L)), none]) (ds := nums P) ?_ rfl (by omega) (by show 7 < 8; decide) rfl (fun y _ => rfl) (fun y _ => ?_) (fun y _ _ => xN rfl rfl) rfl
        · apply wE
          · walk_at "e"
          · exact lst_it
          · exact nums_colds _
        · show lt1_is_obstacle [some (net false w ss), some (.lst false (nums v)), some (.tup [.int c, .int x]), some (.int c), some (.int x), some (.lst false (nums P)), some (.lst false (nums L)), some (.int y)] = .ok (decide (y ≤ x)) [some (net false w ss), some (.lst false (nums v)), some (.tup [.int c, .int x]), some (.int c), some (.int x), some (.lst false (nums P)), some (.lst false (nums L)), some (.int y)]
          unfold lt1_is_obstacle
          apply cE
          exact xOss rfl rfl le_i od_val
      have c2 : eLc (iE (eN 6) lstItems) lg2_is_obstacle lt2_is_obstacle le2_is_obstacle [7] [some (net false w ss), some (.lst false (nums v)), some (.tup [.int c, .int x]), some (.int c), some (.int x), some (.lst false (nums P)), some (.lst false (nums L)), none] = .ok (.lst true (nums (L.filter fun y => decide (y ≤ x)))) [some (net false w ss), some (.lst false (nums v)), some (.tup [.int c, .int x]), some (.int c), some (.int x), some (.lst false (nums P)), some (.lst false (nums L)), none] := by
        refine xLc D.int D.int (fun y => decide (y ≤ x)) L (st1 := [some (net false w ss), some (.lst false (nums v)), some (.tup [.int c, .int x]), some (.int c), some (.int x), some (.lst false (nums P)), some (.lst false (nums L)), none]) (ds := nums L) ?_ rfl (by omega) (by show 7 < 8; decide) rfl (fun y _ => rfl) (fun y _ => ?_) (fun y _ _ => xN rfl rfl) rfl
        · apply wE
          · walk_at "e"
          · exact lst_it
          · exact nums_colds _
        · show lt2_is_obstacle [some (net false w ss), some (.lst false (nums v)), some (.tup [.int c, .int x]), some (.int c), some (.int x), some (.lst false (nums P)), some (.lst false (nums L)), some (.int y)] = .ok (decide (y ≤ x)) [some (net false w ss), some (.lst false (nums v)), some (.tup [.int c, .int x]), some (.int c), some (.int x), some (.lst false (nums P)), some (.lst false (nums L)), some (.int y)]
          unfold lt2_is_obstacle
          apply cE
          exact xOss rfl rfl le_i od_val
      have l3 : f2 pLt [.int ((cntQ P x : Nat) : Int), .int ((cntQ L x : Nat) : Int)] = some (.val (.bl (decide (cntQ P x < cntQ L x)))) := by
        have : decide (((cntQ P x : Nat) : Int) < ((cntQ L x : Nat) : Int)) = decide (cntQ P x < cntQ L x) := decide_eq_decide.mpr (by omega)
        rw [lt_i, this]
      have o5 : oLen [.lst true (nums P)] = some (.val (.int (P.length : Int))) := oLen_l
      by_cases a3 : (P.length : Int) = c
      · have q3 : f2 pEq [.int (P.length : Int), .int c] = some (.val (.bl true)) := by rw [eq_of (pEq_int _ _), decide_eq_true a3]
        rw [decide_eq_true a3, Bool.true_and]
        refine ⟨_, fn_go rfl (front (SR.ret (.bl (decide (cntQ P x < cntQ L x))) [some (net false w ss), some (.lst false (nums v)), some (.tup [.int c, .int x]), some (.int c), some (.int x), some (.lst false (nums P)), some (.lst false (nums L)), none]) ?_)⟩
        apply zSeq (st1 := [some (net q w ss), some (.lst false (nums v)), some (.tup [.int c, .int x]), some (.int c), some (.int x), none, none, none])
        · walk_at "z"
        apply zSeq (st1 := [some (net q w ss), some (.lst false (nums v)), some (.tup [.int c, .int x]), some (.int c), some (.int x), some (.lst true (nums P)), none, none])
        · walk_at "z"
        apply zSeq (st1 := [some (net false w ss), some (.lst false (nums v)), some (.tup [.int c, .int x]), some (.int c), some (.int x), some (.lst true (nums P)), some (.lst false (nums L)), none])
        · cases q <;> walk_at "z"
        · apply zRet
          apply xAndT
          · walk_at "e"
          · apply xOvv
            · exact xOv c1 oLen_l od_val
            · exact xOv c2 oLen_l od_val
            · exact l3
            · exact od_val
      · have q3 : f2 pEq [.int (P.length : Int), .int c] = some (.val (.bl false)) := by rw [eq_of (pEq_int _ _), decide_eq_false a3]
        rw [decide_eq_false a3, Bool.false_and]
        refine ⟨_, fn_go rfl (front (SR.ret (.bl false) [some (net false w ss), some (.lst false (nums v)), some (.tup [.int c, .int x]), some (.int c), some (.int x), some (.lst true (nums P)), some (.lst false (nums L)), none]) ?_)⟩
        apply zSeq (st1 := [some (net q w ss), some (.lst false (nums v)), some (.tup [.int c, .int x]), some (.int c), some (.int x), none, none, none])
        · walk_at "z"
        apply zSeq (st1 := [some (net q w ss), some (.lst false (nums v)), some (.tup [.int c, .int x]), some (.int c), some (.int x), some (.lst true (nums P)), none, none])
        · walk_at "z"
        apply zSeq (st1 := [some (net false w ss), some (.lst false (nums v)), some (.tup [.int c, .int x]), some (.int c), some (.int x), some (.lst true (nums P)), some (.lst false (nums L)), none])
        · cases q <;> walk_at "z"
        · apply zRet
          apply xAndF
          walk_at "e"
    · rw [decide_eq_false a2] at i2
      have io : isObs w (hard w ss) v c x = false := by
        unfold isObs
        rw [decide_eq_false a2, Bool.false_and, Bool.and_false]
      rw [io]
      refine ⟨_, fn_go rfl (front (SR.ret (.bl false) [some (net q w ss), some (.lst false (nums v)), some (.tup [.int c, .int x]), some (.int c), some (.int x), none, none, none]) ?_)⟩
      apply zSeqR
      walk_at "z"
  · rw [decide_eq_false a1] at i1
    have io : isObs w (hard w ss) v c x = false := by
      unfold isObs
      rw [decide_eq_false a1, Bool.false_and]
    rw [io]
    refine ⟨_, fn_go rfl (front (SR.ret (.bl false) [some (net q w ss), some (.lst false (nums v)), some (.tup [.int c, .int x]), some (.int c), some (.int x), none, none, none]) ?_)⟩
    apply zSeqR
    walk_at "z"
end
theorem is_any {d : D} (h : It d) (lo hi : Int) : ∃ ps, m_is_integer [d, .int lo, .int hi] = .ok (.bl (isInt d lo hi)) ps := by
  have q1 := isi_int h
  have q2 := isi_bool h
  by_cases e : ∃ n, d = .int n
  · obtain ⟨n, rfl⟩ := e
    exact ⟨_, is_integer_ok n lo hi⟩
  have ef : isInt d lo hi = false := by
    cases h with
    | int i => exact absurd ⟨i, rfl⟩ e
    | _ => rfl
  rw [ef]
  refine ⟨_, fn_go rfl (?_ : b_is_integer [some d, some (.int lo), some (.int hi)] = SR.ret (.bl false) [some d, some (.int lo), some (.int hi)])⟩
  unfold b_is_integer
  apply zRet
  by_cases hi : isI d = true
  · have b : isB d = true := by
      cases h with
      | int n => exact absurd ⟨n, rfl⟩ e
      | bl b => rfl
      | _ => cases hi
    rw [hi] at q1
    rw [b] at q2
    apply xAndT
    · exact xOsv rfl xC rfl q1 rfl
    · apply xAndF
      exact xNot (p := true) (xOsv rfl xC rfl q2 rfl)
  · have hi : isI d = false := by simpa using hi
    rw [hi] at q1
    apply xAndF
    exact xOsv rfl xC rfl q1 rfl
def rowF (L : List (List Int)) : List D := L.map fun r => D.lst false (nums r)
theorem rowF_cold (L : List (List Int)) : colds (rowF L) = true := by
  unfold colds rowF
  rw [List.all_map]
  exact List.all_eq_true.mpr fun _ _ => rfl
theorem add_c {o p : Bool} {xs ys : List D} (hx : colds xs = true) (hy : colds ys = true) (hl : xs.length + ys.length ≤ 16777216) : oAdd [.lst o xs, .lst p ys] = some (.newL (xs ++ ys)) := by
  show newLc (xs ++ ys) = _
  unfold newLc
  have c : colds (xs ++ ys) = true := by
    unfold colds at *
    rw [List.all_append, hx, hy]
    rfl
  rw [c, List.length_append]
  exact if_pos (by simp; omega)
theorem py_rowF {o : Bool} (L : List (List Int)) : toPy (.lst o (rowF L)) = Py.py L := py_rows L
theorem iR2_w {w : Nat} {m : ME} {st st1 : Sl} (h : m st = .ok (.int ((w : Int) + 1)) st1) (hw : w ≤ 1000) : iR2 (eC (.int 1)) m st = .ok (nums (asc w)) st1 := by
  have e : rangeD 1 w = nums (asc w) := by rw [range1_nums]; rfl
  rw [← e]
  exact wR2 (i := 1) (j := (w : Int) + 1) xC h rfl (by unfold small62; exact decide_eq_true (by omega)) (by omega)
theorem sets_ok {w c : Nat} (h2 : w ≤ 10) : ∃ ps, m__law_sets [.int (w : Int), .int (c : Int)] = .ok (.lst true (rowF (setsR w c))) ps := by
  have gl : ∀ i, i ≤ w → (gsets c i).length ≤ 1024 := fun i hi => Nat.le_trans (gsets_len c i) (Nat.pow_le_pow_right (by decide) (by omega : i ≤ 10))
  obtain ⟨st', L, o, y3, y4, rfl⟩ := forD_ok (g := fg2__law_sets) (body := fb2__law_sets) (fun i st => ∃ (o : Bool) (y3 y4 : Option D), st = [some (.int (w : Int)), some (.int (c : Int)), some (.lst o (rowF (gsets c i))), y3, y4])
    (nums (asc w)) 0 [some (.int (w : Int)), some (.int (c : Int)), some (.lst false (rowF (gsets c 0))), none, none] ⟨false, none, none, rfl⟩ (fun i d st e hI => by
      obtain ⟨o, y3, y4, rfl⟩ := hI
      obtain ⟨x, ex, rfl⟩ := nums_get e
      rw [Nat.zero_add]
      have hi := (List.getElem?_eq_some_iff.mp ex).1
      rw [asc_len] at hi
      have ex2 : x = 1 + (i : Int) := by
        unfold asc at ex
        rw [List.getElem?_map, List.getElem?_range hi] at ex
        exact (Option.some.inj ex).symm
      subst ex2
      have g1 := gl i (by omega)
      have fl := List.length_filter_le (fun r : List Int => decide (r.length < c)) (gsets c i)
      have gr : rowF (gsets c (i + 1)) = rowF (gsets c i) ++ rowF (((gsets c i).filter fun r => decide (r.length < c)).map fun r => r ++ [(1 : Int) + (i : Int)]) := by
        unfold rowF
        rw [gsets, List.map_append]
      have bound : ∀ r ∈ gsets c i, r.length ≤ 1000 := fun r hr => by
        have := gsets_mem.mp hr
        have k := this.1
        have hs : r.length ≤ i := by
          have sub : r.Sublist (asc i) ∨ True := .inr trivial
          have nd : r.Nodup := k.imp fun h => by omega
          have ss : r ⊆ asc i := fun x hx => asc_mem.mpr (this.2.1 x hx)
          have := (List.Nodup.length_le_of_subset nd ss)
          rw [asc_len] at this
          exact this
        omega
      generalize ((1 : Int) + (i : Int)) = z at *
      have c1 : eLc (iE (eN 2) lstItems) lg1__law_sets lt1__law_sets le1__law_sets [4] [some (.int (w : Int)), some (.int (c : Int)), some (.lst o (rowF (gsets c i))), some (.int z), y4] = .ok (.lst true (((gsets c i).filter fun r => decide (r.length < c)).map fun r => D.lst true (nums (r ++ [z])))) [some (.int (w : Int)), some (.int (c : Int)), some (.lst false (rowF (gsets c i))), some (.int z), none] := by
        refine xLc (fun r => D.lst false (nums r)) (fun r => D.lst true (nums (r ++ [z]))) (fun r => decide (r.length < c)) (gsets c i) (st1 := [some (.int (w : Int)), some (.int (c : Int)), some (.lst false (rowF (gsets c i))), some (.int z), y4]) (ds := rowF (gsets c i)) ?_ rfl (by omega) (by show 4 < 5; decide) rfl (fun r _ => rfl) (fun r hr => ?_) (fun r hr _ => ?_) rfl
        · apply wE
          · cases o
            · exact xN rfl rfl
            · exact xNf rfl rfl (fz_lst (by
                have key : ∀ L : List (List Int), frzL (rowF L) = rowF L := fun L => by
                  unfold rowF
                  induction L with
                  | nil => exact fzL_n
                  | cons r L ih => exact fzL_c (fz_lst (nums_frz r)) ih
                exact key _)) rfl
          · exact lst_it
          · exact rowF_cold _
        · show lt1__law_sets [some (.int (w : Int)), some (.int (c : Int)), some (.lst false (rowF (gsets c i))), some (.int z), some (.lst false (nums r))] = Res.ok (decide (r.length < c)) [some (.int (w : Int)), some (.int (c : Int)), some (.lst false (rowF (gsets c i))), some (.int z), some (.lst false (nums r))]
          have l3 : f2 pLt [.int ((r.length : Nat) : Int), .int (c : Int)] = some (.val (.bl (decide (r.length < c)))) := by
            have : decide (((r.length : Nat) : Int) < (c : Int)) = decide (r.length < c) := decide_eq_decide.mpr (by omega)
            rw [lt_i, this]
          unfold lt1__law_sets
          exact cE (xOvs (xOs rfl oLen_l rfl) rfl l3 rfl)
        · show le1__law_sets [some (.int (w : Int)), some (.int (c : Int)), some (.lst false (rowF (gsets c i))), some (.int z), some (.lst false (nums r))] = Res.ok (D.lst true (nums (r ++ [z]))) [some (.int (w : Int)), some (.int (c : Int)), some (.lst false (rowF (gsets c i))), some (.int z), some (.lst false (nums r))]
          have q : oAdd [.lst false (nums r), .lst true [.int z]] = some (.newL (nums (r ++ [z]))) := add_l (q := [z]) (by have := bound r hr; rw [List.length_singleton]; omega)
          unfold le1__law_sets
          walk_at "e"
      have hf : frz (.lst true (((gsets c i).filter fun r => decide (r.length < c)).map fun r => D.lst true (nums (r ++ [z])))) = .lst false (rowF (((gsets c i).filter fun r => decide (r.length < c)).map fun r => r ++ [z])) := by
        refine fz_lst ?_
        unfold rowF
        have key : ∀ L : List (List Int), frzL (L.map fun r => D.lst true (nums (r ++ [z]))) = (L.map fun r => r ++ [z]).map fun r => D.lst false (nums r) := fun L => by
          induction L with
          | nil => exact fzL_n
          | cons r L ih => exact fzL_c (fz_lst (nums_frz (r ++ [z]))) ih
        exact key _
      have q : oAdd [.lst false (rowF (gsets c i)), .lst false (rowF (((gsets c i).filter fun r => decide (r.length < c)).map fun r => r ++ [z]))] = some (.newL (rowF (gsets c (i + 1)))) := by
        rw [gr]
        refine add_c (rowF_cold _) (rowF_cold _) ?_
        unfold rowF
        rw [List.length_map, List.length_map, List.length_map]
        omega
      refine ⟨[some (.int (w : Int)), some (.int (c : Int)), some (.lst o (rowF (gsets c i))), some (.int z), y4], [some (.int (w : Int)), some (.int (c : Int)), some (.lst true (rowF (gsets c (i + 1)))), some (.int z), none], rfl, .inl ?_, true, some (.int z), none, rfl⟩
      unfold fb2__law_sets
      exact zAsg (xOsv rfl (xFz c1 hf) rfl q rfl) rfl)
  rw [Nat.zero_add, nums_len, asc_len] at L
  have sr : iR2 (eC (.int 1)) (eOp oAdd [.s 0, .v (eC (.int 1))]) [some (.int (w : Int)), some (.int (c : Int)), some (.lst false (rowF (gsets c 0))), none, none] = .ok (nums (asc w)) [some (.int (w : Int)), some (.int (c : Int)), some (.lst false (rowF (gsets c 0))), none, none] := iR2_w (xOsv rfl xC rfl add_i rfl) (by omega)
  have gw := gl w (by omega)
  have c3 : eLc (iE (eN 2) lstItems) lg3__law_sets lt3__law_sets le3__law_sets [4] [some (.int (w : Int)), some (.int (c : Int)), some (.lst o (rowF (gsets c w))), y3, y4] = .ok (.lst true (rowF (setsR w c))) [some (.int (w : Int)), some (.int (c : Int)), some (.lst false (rowF (gsets c w))), y3, none] := by
    refine xLc (fun r => D.lst false (nums r)) (fun r => D.lst false (nums r)) (fun r => decide (r.length = c)) (gsets c w) (st1 := [some (.int (w : Int)), some (.int (c : Int)), some (.lst false (rowF (gsets c w))), y3, y4]) (ds := rowF (gsets c w)) ?_ rfl (by omega) (by show 4 < 5; decide) rfl (fun r _ => rfl) (fun r hr => ?_) (fun r hr _ => xN rfl rfl) rfl
    · apply wE
      · cases o
        · exact xN rfl rfl
        · exact xNf rfl rfl (fz_lst (by
            have key : ∀ L : List (List Int), frzL (rowF L) = rowF L := fun L => by
              unfold rowF
              induction L with
              | nil => exact fzL_n
              | cons r L ih => exact fzL_c (fz_lst (nums_frz r)) ih
            exact key _)) rfl
      · exact lst_it
      · exact rowF_cold _
    · show lt3__law_sets [some (.int (w : Int)), some (.int (c : Int)), some (.lst false (rowF (gsets c w))), y3, some (.lst false (nums r))] = Res.ok (decide (r.length = c)) [some (.int (w : Int)), some (.int (c : Int)), some (.lst false (rowF (gsets c w))), y3, some (.lst false (nums r))]
      have l3 : f2 pEq [.int ((r.length : Nat) : Int), .int (c : Int)] = some (.val (.bl (decide (r.length = c)))) := by
        have : decide (((r.length : Nat) : Int) = (c : Int)) = decide (r.length = c) := decide_eq_decide.mpr (by omega)
        rw [eq_of (pEq_int _ _), this]
      unfold lt3__law_sets
      exact cE (xOvs (xOs rfl oLen_l rfl) rfl l3 rfl)
  refine ⟨_, fn_go rfl (?_ : b__law_sets [some (.int (w : Int)), some (.int (c : Int)), none, none, none] = SR.ret (.lst true (rowF (setsR w c))) [some (.int (w : Int)), some (.int (c : Int)), some (.lst false (rowF (gsets c w))), y3, none])⟩
  unfold b__law_sets
  apply zSeq (st1 := [some (.int (w : Int)), some (.int (c : Int)), some (.lst false (rowF (gsets c 0))), none, none])
  · show _ = SR.next [some (.int (w : Int)), some (.int (c : Int)), some (.lst false [.lst false []]), none, none]
    walk_at "z"
  apply zSeq
  · exact zFor sr L
  · exact zRet c3
theorem mif_ok {w : Nat} {A S : List Int} (h2 : w ≤ 40) (h : okS w A) (lS : S.length ≤ 1000) (o1 o2 : Bool) : ∃ ps, m__law_moves_in_front [.lst o1 (nums A), .int (w : Int), .lst o2 (nums S)] = .ok (.bl (front w A S)) ps := by
  have sr : iR2 (eC (.int 1)) (eOp oAdd [.s 1, .v (eC (.int 1))]) [some (.lst o1 (nums A)), some (.int (w : Int)), some (.lst o2 (nums S)), none, none] = .ok (nums (asc w)) [some (.lst o1 (nums A)), some (.int (w : Int)), some (.lst o2 (nums S)), none, none] := iR2_w (xOsv rfl xC rfl add_i rfl) (by omega)
  have c1 : eLc (iR2 (eC (.int 1)) (eOp oAdd [.s 1, .v (eC (.int 1))])) lg1__law_moves_in_front tYesM le1__law_moves_in_front [4] [some (.lst o1 (nums A)), some (.int (w : Int)), some (.lst o2 (nums S)), none, none] = .ok (.lst true (nums (bitsOf w S))) [some (.lst o1 (nums A)), some (.int (w : Int)), some (.lst o2 (nums S)), none, none] := by
    refine xLcA D.int (fun p => D.int (if p ∈ S then 0 else 1)) (asc w) (st1 := [some (.lst o1 (nums A)), some (.int (w : Int)), some (.lst o2 (nums S)), none, none]) (ds := nums (asc w)) sr rfl (by rw [asc_len]; omega) (by show 4 < 5; decide) rfl (fun r _ => rfl) (fun x _ => ?_) (by unfold nums bitsOf; rw [List.map_map]; rfl)
    show le1__law_moves_in_front [some (.lst o1 (nums A)), some (.int (w : Int)), some (.lst o2 (nums S)), none, some (.int x)] = Res.ok (D.int (if x ∈ S then 0 else 1)) [some (.lst o1 (nums A)), some (.int (w : Int)), some (.lst o2 (nums S)), none, some (.int x)]
    have q : oIn true [.int x, .lst o2 (nums S)] = some (.val (.bl (!decide (x ∈ S)))) := oIn_nums true o2 x S
    have q2 : oInt [.bl (!decide (x ∈ S))] = some (.val (.int (if x ∈ S then 0 else 1))) := by
      by_cases m : x ∈ S
      · rw [decide_eq_true m, if_pos m, int_b]
        rfl
      · rw [decide_eq_false m, if_neg m, int_b]
        rfl
    unfold le1__law_moves_in_front
    exact xOv (xOss rfl rfl q rfl) q2 rfl
  have lb := bitsOf_len w S
  obtain ⟨p1, e1⟩ := law_resultL_ok (ss := A) (l := bitsOf w S) (o := false) (p := false) (by rw [lb]; exact h) (by rw [lb]; omega)
  have lr : (runL A (bitsOf w S)).length = w := by rw [runL_len, lb]
  have q3 : oS01 [.lst true (nums (runL A (bitsOf w S))), .int (S.length : Int)] = some (.newL (nums ((runL A (bitsOf w S)).take S.length))) := s01_n (k := S.length) rfl (by omega)
  have q4 := eq_of (pEq_int ((runL A (bitsOf w S)).take S.length).sum 0)
  have lS : oLen [.lst o2 (nums S)] = some (.val (.int (S.length : Int))) := oLen_l
  show ∃ ps, _ = CR.ok (.bl (decide (((runL A (bitsOf w S)).take S.length).sum = 0))) ps
  generalize (runL A (bitsOf w S)).take S.length = T at *
  generalize runL A (bitsOf w S) = R at *
  refine ⟨_, fn_go rfl (?_ : b__law_moves_in_front [some (.lst o1 (nums A)), some (.int (w : Int)), some (.lst o2 (nums S)), none, none] = SR.ret (.bl (decide (T.sum = 0))) [some (.lst false (nums A)), some (.int (w : Int)), some (.lst o2 (nums S)), some (.lst false (nums (bitsOf w S))), none])⟩
  unfold b__law_moves_in_front
  apply zSeq (st1 := [some (.lst o1 (nums A)), some (.int (w : Int)), some (.lst o2 (nums S)), some (.lst true (nums (bitsOf w S))), none])
  · exact zAsg c1 rfl
  · cases o1 <;> walk_at "z"
theorem nowh_ok {P L : List Int} (lP : P.length ≤ 1000) (o1 o2 : Bool) : ∃ ps, m__law_is_nowhere_greater [.lst o1 (nums P), .lst o2 (nums L)] = .ok (.bl (nowh P L)) ps := by
  have z1 : zipD (nums P) (nums L) = (P.zip L).map fun p => .tup [.int p.1, .int p.2] := zipD_map D.int D.int P L
  have lz : (P.zip L).length ≤ 1000 := by rw [List.length_zip]; omega
  have ce : eLc (iZ (aCons (eN 0) (aCons (eN 1) aNil))) lg1__law_is_nowhere_greater lt1__law_is_nowhere_greater le1__law_is_nowhere_greater [2, 3] [some (.lst o1 (nums P)), some (.lst o2 (nums L)), none, none] = .ok (.lst true (nums (((P.zip L).filter fun p => decide (p.2 < p.1)).map fun p => p.1))) [some (.lst false (nums P)), some (.lst false (nums L)), none, none] := by
    refine xLc2n (fun p : Int × Int => D.tup [.int p.1, .int p.2]) (fun p => D.int p.1) (fun p => decide (p.2 < p.1)) (P.zip L) (st1 := [some (.lst false (nums P)), some (.lst false (nums L)), none, none]) (ds := zipD (nums P) (nums L)) ?_ z1 (by omega) rfl (fun p _ => ?_) (by unfold nums; rw [List.map_map]; rfl)
    · apply wZ (o := false) (p := false)
      · cases o1 <;> cases o2 <;> walk_at "a"
      · exact nums_colds _
      · exact nums_colds _
    · refine ⟨[some (.lst false (nums P)), some (.lst false (nums L)), some (.int p.1), some (.int p.2)], [some (.lst false (nums P)), some (.lst false (nums L)), some (.int p.1), some (.int p.2)], rfl, ?_, fun _ => rfl, fun _ => ⟨[some (.lst false (nums P)), some (.lst false (nums L)), some (.int p.1), some (.int p.2)], xN rfl rfl, rfl⟩⟩
      unfold lt1__law_is_nowhere_greater
      exact cE (xOss rfl rfl gt_i rfl)
  have q := eq_of (pEq_lst true true (((P.zip L).filter fun p => decide (p.2 < p.1)).map fun p => p.1) [])
  have ev : decide ((((P.zip L).filter fun p => decide (p.2 < p.1)).map fun p => p.1) = []) = nowh P L := by
    unfold nowh
    rw [decide_eq_decide, List.map_eq_nil_iff, List.filter_eq_nil_iff]
    exact ⟨fun h p hp => by have := h p hp; simp at this; omega, fun h p hp => by have := h p hp; simp; omega⟩
  rw [ev] at q
  refine ⟨_, fn_go rfl (?_ : b__law_is_nowhere_greater [some (.lst o1 (nums P)), some (.lst o2 (nums L)), none, none] = SR.ret (.bl (nowh P L)) [some (.lst false (nums P)), some (.lst false (nums L)), none, none])⟩
  unfold b__law_is_nowhere_greater
  exact zRet (xOvv ce (show eLst aNil _ = Res.ok (.lst true (nums [])) _ from rfl) q rfl)
theorem limit_ok {w c : Nat} {A : List Int} (h1 : 1 ≤ w) (h2 : w ≤ 10) (h : okS w A) (hc : c ≤ w) : ∃ ps, m__law_limit [.lst false (nums A), .int (w : Int), .int (c : Int)] = .ok (.lst false (nums (lowR (c : Int) 1 (hard w A)))) ps := by
  obtain ⟨p1, e1⟩ := sets_ok (w := w) (c := c) h2
  have sl : (setsR w c).length ≤ 1024 := by
    have a := List.length_filter_le (fun r : List Int => decide (r.length = c)) (gsets c w)
    have b := Nat.le_trans (gsets_len c w) (Nat.pow_le_pow_right (by decide) (by omega : w ≤ 10))
    unfold setsR
    omega
  have rl : ∀ r ∈ setsR w c, r.length ≤ 10 := fun r hr => by
    have := (setsR_mem.mp hr).2.2
    omega
  have frz1 : ∀ L : List (List Int), frzL (rowF L) = rowF L := fun L => by
    unfold rowF
    induction L with
    | nil => exact fzL_n
    | cons r L ih => exact fzL_c (fz_lst (nums_frz r)) ih
  obtain ⟨G, hG⟩ : ∃ G, G = goodR w A c := ⟨_, rfl⟩
  have gl : G.length ≤ 1024 := by
    rw [hG]
    have a := List.length_filter_le (front w A) (setsR w c)
    unfold goodR
    omega
  have gr : ∀ r ∈ G, r.length ≤ 10 := fun r hr => by
    rw [hG] at hr
    exact rl r (List.mem_filter.mp hr).1
  have c1 : eLc (iE (eFz (eCall m__law_sets (aCons (eN 1) (aCons (eN 2) aNil)))) lstItems) lg1__law_limit lt1__law_limit le1__law_limit [5] [some (.lst false (nums A)), some (.int (w : Int)), some (.int (c : Int)), none, none, none] = .ok (.lst true (rowF G)) [some (.lst false (nums A)), some (.int (w : Int)), some (.int (c : Int)), none, none, none] := by
    refine xLc (fun r => D.lst false (nums r)) (fun r => D.lst false (nums r)) (front w A) (setsR w c) (st1 := [some (.lst false (nums A)), some (.int (w : Int)), some (.int (c : Int)), none, none, none]) (ds := rowF (setsR w c)) ?_ rfl (by omega) (by show 5 < 6; decide) rfl (fun r _ => rfl) (fun r hr => ?_) (fun r hr _ => xN rfl rfl) (by rw [hG]; rfl)
    · have hf : frz (.lst true (rowF (setsR w c))) = .lst false (rowF (setsR w c)) := fz_lst (frz1 _)
      apply wE
      · refine xFz ?_ hf
        walk_at "e"
      · exact lst_it
      · exact rowF_cold _
    · show lt1__law_limit [some (.lst false (nums A)), some (.int (w : Int)), some (.int (c : Int)), none, none, some (.lst false (nums r))] = Res.ok (front w A r) [some (.lst false (nums A)), some (.int (w : Int)), some (.int (c : Int)), none, none, some (.lst false (nums r))]
      obtain ⟨p2, e2⟩ := mif_ok (S := r) (by omega : w ≤ 40) h (by have := rl r hr; omega) false false
      generalize front w A r = v at *
      unfold lt1__law_limit
      walk_at "c"
  have L := forD_findE (g := fg3__law_limit) (body := fb3__law_limit) (fun r : List Int => D.lst false (nums r)) (fun st => ∃ y4, st = [some (.lst false (nums A)), some (.int (w : Int)), some (.int (c : Int)), some (.lst false (rowF G)), y4, none]) (fun b => (limF G b).map fun r => D.lst false (nums r)) G [some (.lst false (nums A)), some (.int (w : Int)), some (.int (c : Int)), some (.lst false (rowF G)), none, none] ⟨_, rfl⟩ (fun b hb st hst => by
    obtain ⟨y4, rfl⟩ := hst
    refine ⟨[some (.lst false (nums A)), some (.int (w : Int)), some (.int (c : Int)), some (.lst false (rowF G)), some (.lst false (nums b)), none], rfl, ?_⟩
    have c2 : eLc (iE (eN 3) lstItems) lg2__law_limit lt2__law_limit le2__law_limit [5] [some (.lst false (nums A)), some (.int (w : Int)), some (.int (c : Int)), some (.lst false (rowF G)), some (.lst false (nums b)), none] = .ok (.lst true (rowF (G.filter fun r => !nowh r b))) [some (.lst false (nums A)), some (.int (w : Int)), some (.int (c : Int)), some (.lst false (rowF G)), some (.lst false (nums b)), none] := by
      refine xLc (fun r => D.lst false (nums r)) (fun r => D.lst false (nums r)) (fun r => !nowh r b) G (st1 := [some (.lst false (nums A)), some (.int (w : Int)), some (.int (c : Int)), some (.lst false (rowF G)), some (.lst false (nums b)), none]) (ds := rowF G) ?_ rfl (by omega) (by show 5 < 6; decide) rfl (fun r _ => rfl) (fun r hr => ?_) (fun r hr _ => xN rfl rfl) rfl
      · exact wE (xN rfl rfl) lst_it (rowF_cold _)
      · show lt2__law_limit [some (.lst false (nums A)), some (.int (w : Int)), some (.int (c : Int)), some (.lst false (rowF G)), some (.lst false (nums b)), some (.lst false (nums r))] = Res.ok (!nowh r b) [some (.lst false (nums A)), some (.int (w : Int)), some (.int (c : Int)), some (.lst false (rowF G)), some (.lst false (nums b)), some (.lst false (nums r))]
        obtain ⟨p2, e2⟩ := nowh_ok (P := r) (L := b) (by have := gr r hr; omega) false false
        generalize nowh r b = v at *
        unfold lt2__law_limit
        cases v
        · show _ = Res.ok true _
          walk_at "c"
        · show _ = Res.ok false _
          walk_at "c"
    have q : f2 pEq [.lst true (rowF (G.filter fun r => !nowh r b)), .lst true []] = some (.val (.bl (decide ((G.filter fun r => !nowh r b) = [])))) := pE (py_rowF _) (py_rowF (o := true) [])
    unfold limF
    by_cases z : (G.filter fun r => !nowh r b) = []
    · rw [if_pos z]
      rw [decide_eq_true z] at q
      refine ⟨[some (.lst false (nums A)), some (.int (w : Int)), some (.int (c : Int)), some (.lst false (rowF G)), none, none], ?_⟩
      unfold fb3__law_limit
      apply zYes
      · walk_at "c"
      · walk_at "z"
    · rw [if_neg z]
      rw [decide_eq_false z] at q
      refine ⟨[some (.lst false (nums A)), some (.int (w : Int)), some (.int (c : Int)), some (.lst false (rowF G)), some (.lst false (nums b)), none], ?_, _, rfl⟩
      unfold fb3__law_limit
      walk_at "z")
  have ef : G.findSome? (fun b => (limF G b).map fun r => D.lst false (nums r)) = some (.lst false (nums (lowR (c : Int) 1 (hard w A)))) := by
    have fm : ∀ l : List (List Int), (l.findSome? fun b => (limF G b).map fun r => D.lst false (nums r)) = (l.findSome? (limF G)).map fun r => D.lst false (nums r) := fun l => by
      induction l with
      | nil => rfl
      | cons x l ih =>
        rw [List.findSome?_cons, List.findSome?_cons]
        cases limF G x with
        | none => exact ih
        | some y => rfl
    rw [fm, hG, lim_eq h hc]
    rfl
  rw [ef] at L
  obtain ⟨st', L⟩ := L
  refine ⟨_, fn_go rfl (?_ : b__law_limit [some (.lst false (nums A)), some (.int (w : Int)), some (.int (c : Int)), none, none, none] = SR.ret (.lst false (nums (lowR (c : Int) 1 (hard w A)))) st')⟩
  unfold b__law_limit
  apply zSeq (st1 := [some (.lst false (nums A)), some (.int (w : Int)), some (.int (c : Int)), some (.lst true (rowF G)), none, none])
  · exact zAsg c1 rfl
  apply zSeqR
  refine zFor (st1 := [some (.lst false (nums A)), some (.int (w : Int)), some (.int (c : Int)), some (.lst false (rowF G)), none, none]) (ds := rowF G) ?_ L
  exact wE (xNf rfl rfl (fz_lst (frz1 _)) rfl) lst_it (rowF_cold _)
/-! ### all obstacles -/
end Lw29

set_option maxHeartbeats 2000000
namespace Lw29
open PySem (Str)
open DL Nw
local macro_rules | `(tactic| walk_at "g") => `(tactic| first | exact rfl | (with_reducible assumption))
local macro_rules | `(tactic| walk_at "s") => `(tactic| first | (with_reducible exact set_0) | ((with_reducible apply set_s); walk_at "s") | (with_reducible assumption) | exact rfl)
local macro_rules | `(tactic| walk_at "fl") => `(tactic| first | (with_reducible exact nums_frz _) | (with_reducible exact fzL_n) | ((with_reducible apply fzL_c); walk_at "f"; walk_at "fl") | (with_reducible assumption))
local macro_rules | `(tactic| walk_at "f") => `(tactic| first | (with_reducible exact fz_i) | (with_reducible exact fz_b) | (with_reducible exact fz_n) | (with_reducible exact fz_s) | (with_reducible exact fz_l) | (with_reducible exact fz_t) | ((with_reducible apply fz_lst); walk_at "fl") | ((with_reducible apply fz_tup); walk_at "fl") | (with_reducible assumption) | exact rfl)
local macro_rules | `(tactic| walk_at "k") => `(tactic| first | (with_reducible assumption) | (with_reducible exact rfl) | omega | (intro z; omega) | decide)
local macro_rules | `(tactic| walk_at "d") => `(tactic| first | (with_reducible exact od_val) | (with_reducible exact od_newL) | (with_reducible exact od_newT) | ((with_reducible apply od_eq); first | (with_reducible exact rfl) | ((with_reducible apply nbl_n); walk_at "k") | ((with_reducible apply bl_n); walk_at "k") | ((with_reducible apply bl_y); walk_at "k") | ((with_reducible apply nbl_y); walk_at "k")))
local macro_rules | `(tactic| walk_at "h") => `(tactic| first | (with_reducible assumption) | (simp only [List.nil_append, List.cons_append]; with_reducible assumption))
local macro_rules | `(tactic| walk_at "o") => `(tactic| first | (with_reducible assumption) | (with_reducible exact add_i) | (with_reducible exact sub_i) | (with_reducible exact lt_i) | (with_reducible exact le_i) | (with_reducible exact gt_i) | (with_reducible exact ge_i) | (with_reducible exact int_i) | (with_reducible exact int_b) | (with_reducible exact abs_i) | (with_reducible exact neg_i) | (with_reducible exact oLen_l) | (with_reducible exact oLen_scr _) | (with_reducible exact len_t) | (with_reducible exact tup_t) | (with_reducible exact oSorted_l) | (with_reducible exact oSum_nums _ _) | (with_reducible exact eq_of (pEq_int _ _)) | (with_reducible exact ne_of (pNe_int _ _)) | (with_reducible exact eq_of (pEq_lst _ _ _ _)) | (with_reducible exact ne_of (pNe_lst _ _ _ _)) | (with_reducible exact eq_of (pEq_tup _ _)) | (with_reducible exact ne_of (pNe_tup _ _)) | (with_reducible exact eq_of (pEq_bl _ _)) | (with_reducible exact ne_of (pNe_bl _ _)) | ((with_reducible apply lst_o); omega) | ((with_reducible apply lst_t); omega) | ((with_reducible apply tup_l); omega) | ((with_reducible apply oMod_v); omega) | ((with_reducible apply oDiv_v); omega; omega) | ((with_reducible apply oDiv_w); omega; omega) | ((with_reducible apply oMul_v); omega) | ((with_reducible apply oMul_l); omega) | ((with_reducible apply oIx_nums); omega; omega) | ((with_reducible apply oIx_tup); omega; omega))
local macro_rules | `(tactic| walk_at "a") => `(tactic| first | (with_reducible exact xANil) | ((with_reducible apply xACons); walk_at "e"; walk_at "a"))
local macro_rules | `(tactic| walk_at "it") => `(tactic| first | (with_reducible exact lst_it) | (with_reducible exact tup_it) | exact rfl)
local macro_rules | `(tactic| walk_at "cd") => `(tactic| first | (with_reducible exact nums_colds _) | (with_reducible exact colds_range _ _) | (with_reducible assumption) | exact rfl)
local macro_rules | `(tactic| walk_at "w") => `(tactic| first | ((with_reducible apply wE); walk_at "e"; walk_at "it"; walk_at "cd") | (with_reducible assumption))
local macro_rules | `(tactic| walk_at "e") => `(tactic| first | (with_reducible assumption) | (with_reducible exact xC) | ((with_reducible apply xN); walk_at "g"; exact rfl) | ((with_reducible apply xNf); walk_at "g"; exact rfl; walk_at "f"; walk_at "s") | ((with_reducible apply xMv); walk_at "g"; walk_at "s") | ((with_reducible apply xOvv); walk_at "e"; walk_at "e"; walk_at "o"; walk_at "d") | ((with_reducible apply xOvs); walk_at "e"; walk_at "g"; walk_at "o"; walk_at "d") | ((with_reducible apply xOsv); walk_at "g"; walk_at "e"; walk_at "g"; walk_at "o"; walk_at "d") | ((with_reducible apply xOss); walk_at "g"; walk_at "g"; walk_at "o"; walk_at "d") | ((with_reducible apply xOv); walk_at "e"; walk_at "o"; walk_at "d") | ((with_reducible apply xOs); walk_at "g"; walk_at "o"; walk_at "d") | ((with_reducible apply xCall); walk_at "a"; walk_at "h") | ((with_reducible apply xCallL); walk_at "a"; walk_at "g"; walk_at "a"; walk_at "g"; exact rfl; walk_at "h"; exact rfl; walk_at "s") | ((with_reducible apply xCallLc); walk_at "a"; walk_at "g"; walk_at "a"; walk_at "g"; exact rfl; walk_at "h") | ((with_reducible apply xMake); walk_at "a"; walk_at "h") | ((with_reducible apply xFz); walk_at "e"; walk_at "f") | ((with_reducible apply xMth); walk_at "e"; walk_at "m"; walk_at "a"; walk_at "h") | ((with_reducible apply xLst); walk_at "a"; exact rfl) | ((with_reducible apply xTup); walk_at "a"; exact rfl; walk_at "fl") | ((with_reducible apply xNot); walk_at "e") | ((with_reducible apply xAndB); walk_at "e"; walk_at "e") | ((with_reducible apply xOrB); walk_at "e"; walk_at "e") | ((with_reducible apply xIfT); walk_at "c"; walk_at "e") | ((with_reducible apply xIfF); walk_at "c"; walk_at "e") | ((with_reducible apply xApp); walk_at "g"; exact rfl; walk_at "e"; walk_at "g"; walk_at "n"; walk_at "s") | ((with_reducible apply xExt); walk_at "g"; exact rfl; walk_at "e"; walk_at "g"; walk_at "n"; walk_at "s") | ((with_reducible apply xExtT); walk_at "g"; exact rfl; walk_at "e"; walk_at "g"; walk_at "n"; walk_at "s") | ((with_reducible apply xMtS); walk_at "g"; exact rfl; walk_at "g"; walk_at "o"; walk_at "d") | ((with_reducible apply xEqI); walk_at "e"; walk_at "e"; exact rfl; exact rfl; walk_at "h"; walk_at "i") | ((with_reducible apply xLenI); walk_at "e"; exact rfl; walk_at "h"; walk_at "n"))
local macro_rules | `(tactic| walk_at "i") => `(tactic| first | exact rfl | (show D.bl (decide _) = _; apply bl_y; walk_at "k") | (show D.bl (!decide _) = _; apply nbl_n; walk_at "k"))
local macro_rules | `(tactic| walk_at "n") => `(tactic| first | (simp only [nums_len, List.length_append, List.length_cons, List.length_nil]; omega) | omega | exact rfl)
local macro_rules | `(tactic| walk_at "c") => `(tactic| first | ((with_reducible apply cE); walk_at "e") | ((with_reducible apply cNotF); walk_at "c") | ((with_reducible apply cNotT); walk_at "c") | ((with_reducible apply cOrT); walk_at "c") | ((with_reducible apply cAndF); walk_at "c") | ((with_reducible apply cOrF); walk_at "c"; walk_at "c") | ((with_reducible apply cAndT); walk_at "c"; walk_at "c"))
local macro_rules | `(tactic| walk_at "t") => `(tactic| first | ((with_reducible apply gN_r); walk_at "s") | ((with_reducible apply gIx_r); exact rfl; walk_at "g"; walk_at "e"; walk_at "g"; walk_at "j"; walk_at "s"))
local macro_rules | `(tactic| walk_at "j") => `(tactic| first | exact rfl | (simp only [nums_len]; apply ixN_nat <;> omega))
local macro_rules | `(tactic| walk_at "z") => `(tactic| first | ((with_reducible apply zAsg); walk_at "e"; walk_at "t") | ((with_reducible apply zExpr); walk_at "e") | ((with_reducible apply zRet); walk_at "e") | ((with_reducible apply zPar); walk_at "a"; walk_at "s"; walk_at "s") | ((with_reducible apply zAug); walk_at "g"; exact rfl; walk_at "e"; walk_at "o"; walk_at "s") | (with_reducible exact zSkip) | ((with_reducible apply zNo); walk_at "c"; walk_at "z") | ((with_reducible apply zYes); walk_at "c"; walk_at "z") | ((with_reducible apply zSeq); walk_at "z"; walk_at "z") | ((with_reducible apply zSeqR); walk_at "z"))
local macro_rules | `(tactic| walk_at "m") => `(tactic| first | (with_reducible assumption) | exact rfl)

local macro_rules | `(tactic| walk_at "f") => `(tactic| with_reducible exact frz_net)
local macro_rules | `(tactic| walk_at "o") => `(tactic| first | (with_reducible exact oFld_w) | (with_reducible exact oFld_s))
theorem srt_cnt {s : List Int} (h : s.Pairwise (· ≤ ·)) (t : Int) : ∀ j (hj : j < s.length), s[j] ≤ t ↔ j < (s.filter fun x => decide (x ≤ t)).length := by
  induction s with
  | nil => intro j hj; exact absurd hj (by simp)
  | cons x r ih =>
    intro j hj
    have h1 := fun y (hy : y ∈ r) => List.rel_of_pairwise_cons h hy
    have ih := ih (List.Pairwise.of_cons h)
    by_cases hx : x ≤ t
    · rw [List.filter_cons, if_pos (decide_eq_true hx), List.length_cons]
      cases j with
      | zero => simp [hx]
      | succ j =>
        have := ih j (by simpa using hj)
        rw [List.getElem_cons_succ, this]
        omega
    · have e : (x :: r).filter (fun x => decide (x ≤ t)) = [] := by
        rw [List.filter_eq_nil_iff]
        intro y hy
        simp only [decide_eq_true_eq]
        rcases List.mem_cons.mp hy with q | q
        · omega
        · have := h1 y q
          omega
      rw [e, List.length_nil]
      refine ⟨fun z1 => ?_, fun z1 => by omega⟩
      cases j with
      | zero => exact absurd z1 hx
      | succ j =>
        rw [List.getElem_cons_succ] at z1
        have := h1 _ (List.getElem_mem (by simpa using hj))
        omega
theorem low_len (t : Int) (v : List Int) : (lowR t 1 v).length = (v.filter fun x => decide (x ≤ t)).length := by
  rw [lowR_len]
  unfold cp
  rw [List.take_length]
/-- the threshold of a count -/
theorem srt_at {v : List Int} {t : Int} (ht : t ∈ v) : (srt v).getD ((lowR t 1 v).length - 1) 0 = t := by
  have hp := srt_perm v
  have up := srt_up v
  have e : ((srt v).filter fun x => decide (x ≤ t)).length = (lowR t 1 v).length := by
    rw [low_len]
    exact (hp.filter _).length_eq
  have ts := hp.mem_iff.mpr ht
  obtain ⟨j, hj, hjt⟩ := List.getElem_of_mem ts
  have c1 := (srt_cnt up t j hj).mp (by omega)
  rw [e] at c1
  have le := List.length_filter_le (fun x => decide (x ≤ t)) (srt v)
  rw [e] at le
  have c2 := (srt_cnt up t ((lowR t 1 v).length - 1) (by omega)).mpr (by rw [e]; omega)
  have c3 : (srt v)[j] ≤ (srt v)[(lowR t 1 v).length - 1]'(by omega) := by
    by_cases q : j = (lowR t 1 v).length - 1
    · subst q; exact Int.le_refl _
    · exact List.pairwise_iff_getElem.mp up j _ hj (by omega) (by omega)
  rw [List.getD_eq_getElem?_getD, List.getElem?_eq_getElem (by omega), Option.getD_some]
  omega
theorem low_pos {t : Int} {v : List Int} (h : t ∈ v) : 1 ≤ (lowR t 1 v).length := by
  rw [low_len]
  exact List.length_pos_of_mem (List.mem_filter.mpr ⟨h, decide_eq_true (Int.le_refl t)⟩)
theorem low_le (t : Int) (v : List Int) : (lowR t 1 v).length ≤ v.length := by
  rw [low_len]
  exact List.length_filter_le _ _
/-! ### all obstacles -/
def obRow (w : Nat) (H v : List Int) (t : Int) : List (Int × Int) :=
  if (lowR t 1 v).length < w then ((asc w).filter fun x => decide (cntP (lowR t 1 v) x < cntP (lowR ((lowR t 1 v).length : Int) 1 H) x)).map fun x => (((lowR t 1 v).length : Int), x) else []
def obAll (w : Nat) (H v : List Int) : List (Int × Int) := (srtS v).flatMap (obRow w H v)
theorem obRow_len (w : Nat) (H v : List Int) (t : Int) : (obRow w H v t).length ≤ w := by
  unfold obRow
  split
  · rw [List.length_map]
    have := List.length_filter_le (fun x => decide (cntP (lowR t 1 v) x < cntP (lowR ((lowR t 1 v).length : Int) 1 H) x)) (asc w)
    rw [asc_len] at this
    exact this
  · exact Nat.zero_le _
theorem row_at2 {w : Nat} {H : List Int} {c : Nat} (o : Bool) (h1 : 1 ≤ c) (h2 : c < w) : oIx [.lst o (rowF (lims w H)), .int ((c : Int) - 1)] = some (.val (.lst false (nums (lowR (c : Int) 1 H)))) := by
  refine ix_at (by omega) ?_ rfl
  unfold rowF lims
  rw [List.getElem?_map, List.getElem?_map, List.getElem?_range (by omega)]
  show some (D.lst false (nums (lows ((1 : Int) + ((((c : Int) - 1).toNat : Nat) : Int)) H))) = _
  rw [show (1 : Int) + ((((c : Int) - 1).toNat : Nat) : Int) = (c : Int) by omega, lows_R]
theorem obstacles_ok {w : Nat} {H v : List Int} (h1 : 1 ≤ w) (h2 : w ≤ 40) (hH : H.length = w) (hv : v.length = w) : ∃ ps, m__law_obstacles [.lst false (rowF (lims w H)), .lst false (nums v)] = .ok (.lst true ((obAll w H v).map penc)) ps := by
  have so := oSortS_l (o := false) (l := v) (by omega)
  have ls := srtS_len v
  have lv : oLen [.lst false (nums v)] = some (.val (.int (w : Int))) := by rw [oLen_l, hv]
  have fl : ∀ L : List Int, (L.flatMap (obRow w H v)).length ≤ L.length * w := fun L => by
    induction L with
    | nil => simp
    | cons x L ih =>
      rw [List.flatMap_cons, List.length_append, List.length_cons, Nat.succ_mul]
      have := obRow_len w H v x
      omega
  obtain ⟨st', L, y3, y4, y5, y6, rfl⟩ := forD_ok (g := fg3__law_obstacles) (body := fb3__law_obstacles) (fun i st => ∃ (y3 y4 y5 y6 : Option D), st = [some (.lst false (rowF (lims w H))), some (.lst false (nums v)), some (.lst true ((((srtS v).take i).flatMap (obRow w H v)).map penc)), y3, y4, y5, y6, none])
    (nums (srtS v)) 0 [some (.lst false (rowF (lims w H))), some (.lst false (nums v)), some (.lst true []), none, none, none, none, none] ⟨none, none, none, none, rfl⟩ (fun i d st e hI => by
      obtain ⟨y3, y4, y5, y6, rfl⟩ := hI
      obtain ⟨t, et, rfl⟩ := nums_get e
      rw [Nat.zero_add]
      have hi := (List.getElem?_eq_some_iff.mp et).1
      have tin : t ∈ v := srtS_mem.mp (List.mem_of_getElem? et)
      rw [take_snoc et, List.flatMap_append, List.flatMap_singleton, List.map_append]
      have al := fl ((srtS v).take i)
      rw [List.length_take] at al
      have al2 : min i (srtS v).length * w ≤ 40 * 40 := Nat.mul_le_mul (by omega) h2
      have rl := obRow_len w H v t
      have hM : (((((srtS v).take i).flatMap (obRow w H v)).map penc)).length ≤ 1600 := by rw [List.length_map]; omega
      have cM := colds_penc (((srtS v).take i).flatMap (obRow w H v))
      generalize (((srtS v).take i).flatMap (obRow w H v)).map penc = M at *
      obtain ⟨p1, e1⟩ := law_places_ok (l := v) (t := t) (o := false) (by omega)
      have c1 := low_pos tin
      have c2 := low_le t v
      rw [hv] at c2
      unfold obRow
      generalize lowR t 1 v = P at *
      have lP : ∀ o, oLen [.lst o (nums P)] = some (.val (.int (P.length : Int))) := fun o => oLen_l
      have lP1 := lP true
      have lP2 := lP false
      by_cases lt : P.length < w
      · have l1 : f2 pLt [.int (P.length : Int), .int (w : Int)] = some (.val (.bl true)) := by rw [lt_i, decide_eq_true (by omega)]
        have ix := row_at2 (H := H) false c1 lt
        have lL : (lowR (P.length : Int) 1 H).length ≤ 1000 := by
          have := low_le (P.length : Int) H
          omega
        rw [if_pos lt]
        generalize lowR (P.length : Int) 1 H = LL at *
        obtain ⟨X, hX⟩ : ∃ X, X = (asc w).filter fun x => decide (cntP P x < cntP LL x) := ⟨_, rfl⟩
        rw [← hX]
        have lX : X.length ≤ w := by
          rw [hX]
          have := List.length_filter_le (fun x => decide (cntP P x < cntP LL x)) (asc w)
          rw [asc_len] at this
          exact this
        have sr : iR2 (eC (.int 1)) (eOp oAdd [.v (eOp oLen [.s 1]), .v (eC (.int 1))]) [some (.lst false (rowF (lims w H))), some (.lst false (nums v)), some (.lst true M), some (.int t), some (.lst true (nums P)), some (.lst false (nums LL)), y6, none] = .ok (nums (asc w)) [some (.lst false (rowF (lims w H))), some (.lst false (nums v)), some (.lst true M), some (.int t), some (.lst true (nums P)), some (.lst false (nums LL)), y6, none] := iR2_w (xOvv (xOs rfl lv rfl) xC add_i rfl) (by omega)
        obtain ⟨st2, ec, hI⟩ := xLcS (g := lg1__law_obstacles) (t := lt1__law_obstacles) (e := le1__law_obstacles) (vs := [7]) (fun st => ∃ o, st = [some (.lst false (rowF (lims w H))), some (.lst false (nums v)), some (.lst true M), some (.int t), some (.lst o (nums P)), some (.lst false (nums LL)), y6, none]) D.int D.int (fun x => decide (cntP P x < cntP LL x)) (asc w) sr rfl (by rw [asc_len]; omega) ⟨true, rfl⟩ (fun x _ s hs => by
          obtain ⟨o, rfl⟩ := hs
          obtain ⟨p2, e2⟩ := law_short_ok (P := P) (L := LL) (x := x) (o1 := false) (o2 := false) (by omega) lL
          generalize decide (cntP P x < cntP LL x) = b at *
          refine ⟨[some (.lst false (rowF (lims w H))), some (.lst false (nums v)), some (.lst true M), some (.int t), some (.lst o (nums P)), some (.lst false (nums LL)), y6, some (.int x)], [some (.lst false (rowF (lims w H))), some (.lst false (nums v)), some (.lst true M), some (.int t), some (.lst false (nums P)), some (.lst false (nums LL)), y6, some (.int x)], rfl, ?_, fun _ => ⟨false, rfl⟩, fun _ => ⟨[some (.lst false (rowF (lims w H))), some (.lst false (nums v)), some (.lst true M), some (.int t), some (.lst false (nums P)), some (.lst false (nums LL)), y6, some (.int x)], xN rfl rfl, false, rfl⟩⟩
          unfold lt1__law_obstacles
          cases o <;> walk_at "c")
        obtain ⟨o, rfl⟩ := hI
        rw [← hX] at ec
        have ec : eLc (iR2 (eC (.int 1)) (eOp oAdd [.v (eOp oLen [.s 1]), .v (eC (.int 1))])) lg1__law_obstacles lt1__law_obstacles le1__law_obstacles [7] [some (.lst false (rowF (lims w H))), some (.lst false (nums v)), some (.lst true M), some (.int t), some (.lst true (nums P)), some (.lst false (nums LL)), y6, none] = .ok (.lst true (nums X)) [some (.lst false (rowF (lims w H))), some (.lst false (nums v)), some (.lst true M), some (.int t), some (.lst o (nums P)), some (.lst false (nums LL)), y6, none] := ec
        have c5 : eLc (iE (eN 6) lstItems) lg2__law_obstacles tYesM le2__law_obstacles [7] [some (.lst false (rowF (lims w H))), some (.lst false (nums v)), some (.lst true M), some (.int t), some (.lst o (nums P)), some (.lst false (nums LL)), some (.lst true (nums X)), none] = .ok (.lst true ((X.map fun x => ((P.length : Int), x)).map penc)) [some (.lst false (rowF (lims w H))), some (.lst false (nums v)), some (.lst true M), some (.int t), some (.lst o (nums P)), some (.lst false (nums LL)), some (.lst false (nums X)), none] := by
          refine xLcA D.int (fun x => penc ((P.length : Int), x)) X (st1 := [some (.lst false (rowF (lims w H))), some (.lst false (nums v)), some (.lst true M), some (.int t), some (.lst o (nums P)), some (.lst false (nums LL)), some (.lst false (nums X)), none]) (ds := nums X) (wE (xNf rfl rfl (fz_lst (nums_frz X)) rfl) lst_it (nums_colds _)) rfl (by omega) (by show 7 < 8; decide) rfl (fun r _ => rfl) (fun x _ => ?_) (by rw [List.map_map]; rfl)
          show le2__law_obstacles [some (.lst false (rowF (lims w H))), some (.lst false (nums v)), some (.lst true M), some (.int t), some (.lst o (nums P)), some (.lst false (nums LL)), some (.lst false (nums X)), some (.int x)] = Res.ok (.tup [.int (P.length : Int), .int x]) [some (.lst false (rowF (lims w H))), some (.lst false (nums v)), some (.lst true M), some (.int t), some (.lst o (nums P)), some (.lst false (nums LL)), some (.lst false (nums X)), some (.int x)]
          have := lP o
          unfold le2__law_obstacles
          walk_at "e"
        have cX := colds_penc (X.map fun x => ((P.length : Int), x))
        have q : oAdd [.lst true M, .lst true ((X.map fun x => ((P.length : Int), x)).map penc)] = some (.newL (M ++ (X.map fun x => ((P.length : Int), x)).map penc)) := add_c cM cX (by rw [List.length_map, List.length_map]; omega)
        generalize (X.map fun x => ((P.length : Int), x)).map penc = N at *
        generalize rowF (lims w H) = BB at *
        refine ⟨[some (.lst false BB), some (.lst false (nums v)), some (.lst true M), some (.int t), y4, y5, y6, none], [some (.lst false BB), some (.lst false (nums v)), some (.lst true (M ++ N)), some (.int t), some (.lst o (nums P)), some (.lst false (nums LL)), some (.lst false (nums X)), none], rfl, .inl ?_, some (.int t), some (.lst o (nums P)), some (.lst false (nums LL)), some (.lst false (nums X)), rfl⟩
        unfold fb3__law_obstacles
        apply zSeq (st1 := [some (.lst false BB), some (.lst false (nums v)), some (.lst true M), some (.int t), some (.lst true (nums P)), y5, y6, none])
        · walk_at "z"
        apply zYes
        · walk_at "c"
        apply zSeq (st1 := [some (.lst false BB), some (.lst false (nums v)), some (.lst true M), some (.int t), some (.lst true (nums P)), some (.lst false (nums LL)), y6, none])
        · walk_at "z"
        apply zSeq (st1 := [some (.lst false BB), some (.lst false (nums v)), some (.lst true M), some (.int t), some (.lst o (nums P)), some (.lst false (nums LL)), some (.lst true (nums X)), none])
        · exact zAsg ec rfl
        · exact zAsg (xOsv rfl c5 rfl q rfl) rfl
      · have l1 : f2 pLt [.int (P.length : Int), .int (w : Int)] = some (.val (.bl false)) := by rw [lt_i, decide_eq_false (by omega)]
        rw [if_neg lt]
        refine ⟨[some (.lst false (rowF (lims w H))), some (.lst false (nums v)), some (.lst true M), some (.int t), y4, y5, y6, none], [some (.lst false (rowF (lims w H))), some (.lst false (nums v)), some (.lst true M), some (.int t), some (.lst true (nums P)), y5, y6, none], rfl, .inl ?_, some (.int t), some (.lst true (nums P)), y5, y6, by rw [List.map_nil, List.append_nil]⟩
        unfold fb3__law_obstacles
        walk_at "z")
  rw [Nat.zero_add, nums_len, List.take_length] at L
  refine ⟨_, fn_go rfl (?_ : b__law_obstacles [some (.lst false (rowF (lims w H))), some (.lst false (nums v)), none, none, none, none, none, none] = SR.ret (.lst true ((obAll w H v).map penc)) [some (.lst false (rowF (lims w H))), some (.lst false (nums v)), none, y3, y4, y5, y6, none])⟩
  have L : forD fg3__law_obstacles fb3__law_obstacles (nums (srtS v)) [some (.lst false (rowF (lims w H))), some (.lst false (nums v)), some (.lst true []), none, none, none, none, none] = .next [some (.lst false (rowF (lims w H))), some (.lst false (nums v)), some (.lst true ((obAll w H v).map penc)), y3, y4, y5, y6, none] := L
  unfold b__law_obstacles
  apply zSeq (st1 := [some (.lst false (rowF (lims w H))), some (.lst false (nums v)), some (.lst true []), none, none, none, none, none])
  · walk_at "z"
  apply zSeq
  · refine zFor (ds := nums (srtS v)) ?_ L
    walk_at "w"
  · walk_at "z"
local macro_rules | `(tactic| walk_at "f") => `(tactic| with_reducible exact frz_net)
local macro_rules | `(tactic| walk_at "o") => `(tactic| first | (with_reducible exact oFld_w) | (with_reducible exact oFld_s))
/-! ### the candidates -/
def base14 : List D := [.non, .tup [], .lst false [], .int 0, .bl true, .str "1 1", .tup [.int 1], .tup [.int 1, .int 1, .int 1], .lst false (nums [1, 1]), .tup [.non, .int 1], .tup [.int 1, .non], .tup [.str "1", .int 1], .tup [.int 1, .str "1"], .dic false []]
def five (c p : Int) (t : Str) : List D := [.lst false [.int c, .int p], .tup [.int c, .int p, .int 0], .tup [.int p], .tup [.tup [.int c, .int p]], .tup [.str t, .int p]]
def four (c p : Int) : List D := [.tup [.int c, .bl true], .tup [.bl true, .int p], .tup [.int c, .int (10 ^ 30)], .tup [.int c, .int (-p)]]
def box : List (Int × Int) := [1, 2, 3, 4, 5].flatMap fun c => [1, 2, 3, 4, 5, 6].map fun p => ((c : Int), (p : Int))
def grid : List D := [-1, 0, 1, 2, 3, 4, 5, 6, 7, 8].flatMap fun c => [-1, 0, 1, 2, 3, 4, 5, 6, 7, 8].map fun p => penc ((c : Int), (p : Int))
def txI (c : Int) : Str := [("0" : Str), "1", "2", "3", "4", "5", "6"].getD c.toNat ""
def CB : List D := base14 ++ (box.flatMap fun q => five q.1 q.2 (txI q.1) ++ four q.1 q.2) ++ grid
def dicB : D → Bool
  | .dic _ [] => true
  | _ => false
def shD (d : D) : Str := if dicB d then "{}" else (toPy d).shown
def isP (d : D) (q : Int × Int) : Bool := match d with
  | .tup [.int a, .int b] => decide (a = q.1) && decide (b = q.2)
  | _ => false
def itB (d : D) : Bool := match d with
  | .non => true
  | .bl _ => true
  | .int _ => true
  | .str _ => true
  | _ => false
def kindB (d : D) : Bool := match d with
  | .tup [x, y] => itB x && itB y
  | .tup _ => true
  | .non => true
  | .bl _ => true
  | .int _ => true
  | .str _ => true
  | .lst false xs => xs.all itB
  | .dic false [] => true
  | _ => false
def rpB (d : D) : Bool := dicB d || (rpOk (toPy d) && (toPy d).canLay0 && (toPy d).showable && !(toPy d).hasDict && decide ((toPy d).depth ≤ 10) && (toPy d).leavesShort 32 && decide ((toPy d).weight ≤ 10000))
mutual
def fzB : D → Bool
  | .non => true
  | .bl _ => true
  | .int _ => true
  | .str _ => true
  | .lst false xs => fzBs xs
  | .tup xs => fzBs xs
  | .dic false [] => true
  | _ => false
def fzBs : List D → Bool
  | [] => true
  | d :: ds => fzB d && fzBs ds
end
mutual
theorem fzB_frz : ∀ d : D, fzB d = true → frz d = d
  | .non, _ => fz_n
  | .bl _, _ => rfl
  | .int _, _ => fz_i
  | .str _, _ => rfl
  | .lst false xs, h => fz_lst (fzBs_frz xs h)
  | .tup xs, h => fz_tup (fzBs_frz xs h)
  | .dic false [], _ => by rw [frz, frzK]
theorem fzBs_frz : ∀ ds : List D, fzBs ds = true → frzL ds = ds
  | [], _ => fzL_n
  | d :: ds, h => by
    rw [fzBs, Bool.and_eq_true] at h
    exact fzL_c (fzB_frz d h.1) (fzBs_frz ds h.2)
end
def boxT : List ((Int × Int) × Str) := box.map fun q => (q, (toPy (penc q)).shown)
def chk (d : D) : Bool := kindB d && rpB d && cold d && cpsOk (shD d) && fzB d && (boxT.all fun q => decide (shD d = q.2) == isP d q.1)
theorem chk_all : CB.all chk = true := by kernel_rfl
theorem box_ok : (box.all fun q => rpOk (toPy (penc q))) = true := by kernel_rfl
theorem mem_box {q : Int × Int} : q ∈ box ↔ (1 ≤ q.1 ∧ q.1 ≤ 5) ∧ 1 ≤ q.2 ∧ q.2 ≤ 6 := by
  obtain ⟨c, p⟩ := q
  unfold box
  rw [List.mem_flatMap]
  constructor
  · rintro ⟨a, ha, h⟩
    obtain ⟨b, hb, e⟩ := List.mem_map.mp h
    cases e
    simp at ha hb
    dsimp only
    omega
  · rintro ⟨h1, h2⟩
    dsimp only at h1 h2
    exact ⟨c, by simp; omega, List.mem_map.mpr ⟨p, by simp; omega, rfl⟩⟩
theorem mem_grid {c p : Int} (h1 : -1 ≤ c) (h2 : c ≤ 8) (h3 : -1 ≤ p) (h4 : p ≤ 8) : penc (c, p) ∈ grid := by
  unfold grid
  exact List.mem_flatMap.mpr ⟨c, by simp; omega, List.mem_map.mpr ⟨p, by simp; omega, rfl⟩⟩
theorem chk_of {d : D} (h : d ∈ CB) : chk d = true := List.all_eq_true.mp chk_all d h
structure Chk (d : D) : Prop where
  kd : kindB d = true
  rp : rpB d = true
  cd : cold d = true
  cp : cpsOk (shD d) = true
  fz : frz d = d
  tx : ∀ q ∈ box, decide (shD d = (toPy (penc q)).shown) = isP d q
theorem chk_is {d : D} (h : d ∈ CB) : Chk d := by
  have c := chk_of h
  unfold chk at c
  simp only [Bool.and_eq_true] at c
  obtain ⟨⟨⟨⟨⟨a, b⟩, e⟩, f⟩, z⟩, g⟩ := c
  refine ⟨a, b, e, f, fzB_frz d z, fun q hq => ?_⟩
  have := List.all_eq_true.mp g (q, (toPy (penc q)).shown) (List.mem_map.mpr ⟨q, hq, rfl⟩)
  exact eq_of_beq this
/-! ### which they are -/
theorem ob_mem {w : Nat} {H v : List Int} {c x : Int} (hH : H.length = w) (hv : v.length = w) : (c, x) ∈ obAll w H v ↔ isObs w H v c x = true := by
  unfold obAll
  rw [List.mem_flatMap]
  constructor
  · rintro ⟨t, ht, h⟩
    have ht := srtS_mem.mp ht
    unfold obRow at h
    by_cases lt : (lowR t 1 v).length < w
    · rw [if_pos lt] at h
      obtain ⟨y, hy, e⟩ := List.mem_map.mp h
      cases e
      obtain ⟨y1, y2⟩ := List.mem_filter.mp hy
      have y1 := asc_mem.mp y1
      have p1 := low_pos ht
      unfold isObs
      rw [show (((lowR t 1 v).length : Int) - 1).toNat = (lowR t 1 v).length - 1 by omega, srt_at ht, decide_eq_true (show 1 ≤ ((lowR t 1 v).length : Int) ∧ ((lowR t 1 v).length : Int) ≤ (w : Int) - 1 by omega), decide_eq_true (show 1 ≤ x ∧ x ≤ (w : Int) from y1), decide_eq_true rfl]
      exact y2
    · rw [if_neg lt] at h; cases h
  · intro h
    unfold isObs at h
    simp only [Bool.and_eq_true, decide_eq_true_eq] at h
    obtain ⟨h1, h2, h3, h4⟩ := h
    have ls : (srt v).length = w := by rw [(srt_perm v).length_eq, hv]
    obtain ⟨t, ht⟩ : ∃ t, (srt v).getD (c - 1).toNat 0 = t := ⟨_, rfl⟩
    rw [ht] at h3 h4
    have tm : t ∈ v := by
      rw [← (srt_perm v).mem_iff, ← ht, List.getD_eq_getElem?_getD, List.getElem?_eq_getElem (by omega)]
      exact List.getElem_mem _
    refine ⟨t, srtS_mem.mpr tm, ?_⟩
    unfold obRow
    rw [if_pos (by omega)]
    refine List.mem_map.mpr ⟨x, List.mem_filter.mpr ⟨asc_mem.mpr h2, decide_eq_true ?_⟩, by rw [h3]⟩
    rw [h3]
    exact h4
def obsB (w : Nat) (H v : List Int) (d : D) : Bool := match d with
  | .tup [.int c, .int x] => isObs w H v c x
  | _ => false
theorem it_of {d : D} (h : itB d = true) : It d := by
  cases d with
  | non => exact .non
  | bl b => exact .bl b
  | int i => exact .int i
  | str s => exact .str s
  | _ => cases h
theorem is_obs_any {w : Nat} {ss v : List Int} {d : D} (h1 : 1 ≤ w) (h2 : w ≤ 40) (h : okS w ss) (hs : ss.length ≤ 1000) (hv : v.length = w) (hk : kindB d = true) : ∃ ps, m_is_obstacle [net false w ss, .lst false (nums v), d] = .ok (.bl (obsB w (hard w ss) v d)) ps := by
  have cv := check_values_ok (w := (w : Int)) (l := v) (by omega)
  have st1 : sExpr (eCall m_check_values (aCons (eOp (oFld 0 "own_width") [.s 0]) (aCons (eN 1) aNil))) [some (net false (w : Int) ss), some (.lst false (nums v)), some d, none, none, none, none, none] = .next [some (net false (w : Int) ss), some (.lst false (nums v)), some d, none, none, none, none, none] :=
    zExpr (xCall (ds := [.int (w : Int), .lst false (nums v)]) (xACons (xOs rfl oFld_w rfl) (xACons (xN rfl rfl) xANil)) cv)
  have notT : oIsiB "tuple" [d, .ty "tuple"] = some (.val (.bl false)) → obsB w (hard w ss) v d = false → ∃ ps, m_is_obstacle [net false w ss, .lst false (nums v), d] = .ok (.bl (obsB w (hard w ss) v d)) ps := fun t e => by
    rw [e]
    refine ⟨_, fn_go rfl (?_ : b_is_obstacle [some (net false (w : Int) ss), some (.lst false (nums v)), some d, none, none, none, none, none] = SR.ret (.bl false) [some (net false (w : Int) ss), some (.lst false (nums v)), some d, none, none, none, none, none])⟩
    unfold b_is_obstacle
    exact zSeq st1 (zSeqR (zYes (cOrT (cNotT (cE (xOsv rfl xC rfl t rfl)))) (zRet xC)))
  have short : ∀ xs : List D, d = .tup xs → xs.length ≠ 2 → ∃ ps, m_is_obstacle [net false w ss, .lst false (nums v), d] = .ok (.bl (obsB w (hard w ss) v d)) ps := fun xs e hl => by
    subst e
    have t1 : oIsiB "tuple" [.tup xs, .ty "tuple"] = some (.val (.bl true)) := rfl
    have t2 : oLen [.tup xs] = some (.val (.int ((xs.length : Nat) : Int))) := by simp [oLen, items]
    have t3 := ne_of (pNe_int ((xs.length : Nat) : Int) 2)
    rw [decide_eq_false (show ¬ ((xs.length : Nat) : Int) = 2 by omega)] at t3
    have e0 : obsB w (hard w ss) v (.tup xs) = false := by
      unfold obsB
      split
      · rename_i c z e
        injection e with e
        subst e
        exact absurd rfl hl
      · rfl
    rw [e0]
    refine ⟨_, fn_go rfl (?_ : b_is_obstacle [some (net false (w : Int) ss), some (.lst false (nums v)), some (.tup xs), none, none, none, none, none] = SR.ret (.bl false) [some (net false (w : Int) ss), some (.lst false (nums v)), some (.tup xs), none, none, none, none, none])⟩
    unfold b_is_obstacle
    exact zSeq st1 (zSeqR (zYes (cOrF (cNotF (cE (xOsv rfl xC rfl t1 rfl))) (cE (xOvv (xOs rfl t2 rfl) xC t3 rfl))) (zRet xC)))
  have two : ∀ x y : D, d = .tup [x, y] → It x → It y → ((∀ i, x ≠ .int i) ∨ ∀ i, y ≠ .int i) → ∃ ps, m_is_obstacle [net false w ss, .lst false (nums v), d] = .ok (.bl (obsB w (hard w ss) v d)) ps := fun x y e ix iy hn => by
    subst e
    have t1 : oIsiB "tuple" [.tup [x, y], .ty "tuple"] = some (.val (.bl true)) := rfl
    have t2 : oLen [.tup [x, y]] = some (.val (.int 2)) := rfl
    have t3 : f2 pNe [.int 2, .int 2] = some (.val (.bl false)) := by kernel_rfl
    obtain ⟨p1, i1⟩ := is_any ix 1 ((w : Int) - 1)
    obtain ⟨p2, i2⟩ := is_any iy 1 (w : Int)
    have e0 : obsB w (hard w ss) v (.tup [x, y]) = false := by
      unfold obsB
      split
      · rename_i c z e
        injection e with e
        injection e with e1 e2
        injection e2 with e2
        rcases hn with hn | hn
        · exact absurd e1 (hn c)
        · exact absurd e2 (hn z)
      · rfl
    have ei : isInt x 1 ((w : Int) - 1) = false ∨ isInt y 1 (w : Int) = false := by
      rcases hn with hn | hn
      · left
        cases ix with
        | int i => exact absurd rfl (hn i)
        | _ => rfl
      · right
        cases iy with
        | int i => exact absurd rfl (hn i)
        | _ => rfl
    rw [e0]
    let S : Sl := [some (net false (w : Int) ss), some (.lst false (nums v)), some (.tup [x, y]), some x, some y, none, none, none]
    refine ⟨_, fn_go rfl (?_ : b_is_obstacle [some (net false (w : Int) ss), some (.lst false (nums v)), some (.tup [x, y]), none, none, none, none, none] = SR.ret (.bl false) S)⟩
    unfold b_is_obstacle
    refine zSeq st1 (zSeq (zNo (cOrF (cNotF (cE (xOsv rfl xC rfl t1 rfl))) (cE (xOvv (xOs rfl t2 rfl) xC t3 rfl))) rfl) (zSeq (st1 := S) (zAsg (xN rfl rfl) rfl) (zSeqR (zYes ?_ (zRet xC)))))
    have gx : eN 3 S = .ok x S := xN rfl ix.hot
    have gy : eN 4 S = .ok y S := xN rfl iy.hot
    have q1 : eCall m_is_integer (aCons (eN 3) (aCons (eC (.int 1)) (aCons (eOp oSub [.v (eOp (oFld 0 "own_width") [.s 0]), .v (eC (.int 1))]) aNil))) S = .ok (.bl (isInt x 1 ((w : Int) - 1))) S := xCall (ds := [x, .int 1, .int ((w : Int) - 1)]) (xACons gx (xACons xC (xACons (xOvv (xOs rfl oFld_w rfl) xC sub_i rfl) xANil))) i1
    have q2 : eCall m_is_integer (aCons (eN 4) (aCons (eC (.int 1)) (aCons (eOp (oFld 0 "own_width") [.s 0]) aNil))) S = .ok (.bl (isInt y 1 (w : Int))) S := xCall (ds := [y, .int 1, .int (w : Int)]) (xACons gy (xACons xC (xACons (xOs rfl oFld_w rfl) xANil))) i2
    cases hx : isInt x 1 ((w : Int) - 1) with
    | false =>
      rw [hx] at q1
      exact cOrT (cNotT (cE q1))
    | true =>
      rw [hx] at q1
      rcases ei with ei | ei
      · rw [hx] at ei; cases ei
      · rw [ei] at q2
        exact cOrF (cNotF (cE q1)) (cNotT (cE q2))
  cases d with
  | tup xs =>
    match xs, hk, short, two with
    | [], _, short, _ => exact short [] rfl (by decide)
    | [a], _, short, _ => exact short [a] rfl (by show 1 ≠ 2; decide)
    | a :: b :: c :: r, _, short, _ => exact short _ rfl (by simp)
    | [x, y], hk, _, two =>
      have hk : (itB x && itB y) = true := hk
      rw [Bool.and_eq_true] at hk
      by_cases hx : ∃ i, x = .int i
      · by_cases hy : ∃ j, y = .int j
        · obtain ⟨c, rfl⟩ := hx
          obtain ⟨z, rfl⟩ := hy
          exact is_obstacle_ok h1 h2 h hs hv false false
        · exact two x y rfl (it_of hk.1) (it_of hk.2) (.inr fun i e => hy ⟨i, e⟩)
      · exact two x y rfl (it_of hk.1) (it_of hk.2) (.inl fun i e => hx ⟨i, e⟩)
  | non => exact notT rfl rfl
  | bl b => exact notT rfl rfl
  | int i => exact notT rfl rfl
  | str s => exact notT rfl rfl
  | lst o xs => exact notT rfl rfl
  | dic o kvs => exact notT rfl rfl
  | _ => cases hk
/-! ### their texts -/
theorem str_ne' {t : Str} (h : cpsOk t = true) : f2 pNe [.str t, .str t] = some (.val (.bl false)) := by
  refine str_ne_refl ?_
  rw [toPy]
  unfold PySem.SeqAt.shaped
  rw [PySem.PyData.canLay0, PySem.PyData.depth]
  unfold cpsOk at h
  rw [show PySem.PyData.strOk t = true from h]
  rfl
theorem shD_nd {d : D} (h : dicB d = false) : shD d = (toPy d).shown := by unfold shD; rw [h]; rfl
theorem dic_of {d : D} (hk : kindB d = true) (h : dicB d = true) : d = .dic false [] := by
  cases d with
  | dic o kvs =>
    cases kvs with
    | nil => cases o with
      | false => rfl
      | true => cases hk
    | cons p r => cases h
  | _ => cases h
theorem reprV_nd {d : D} (hk : kindB d = true) (h : dicB d = false) : oReprV [d] = oRepr [d] ∧ ∀ o x, oReprV [.lst o [x, d]] = oRepr [.lst o [x, d]] := by
  refine ⟨?_, fun o x => ?_⟩
  · cases d with
    | lst z xs =>
      unfold oReprV
      split
      · rename_i z' x z2 e
        injection e with e1 e2
        injection e1 with e3 e4
        subst e4
        subst e3
        cases z with
        | true => cases hk
        | false =>
          have hk : ([x, .dic z2 []].all itB) = true := hk
          simp [itB] at hk
      · rfl
    | dic o kvs => cases kvs with
      | nil => cases h
      | cons p r => rfl
    | _ => rfl
  · unfold oReprV
    split
    · rename_i z' x' z2 e
      injection e with e1 e2
      injection e1 with e3 e4
      injection e4 with e5 e6
      injection e6 with e7 e8
      subst e7
      cases h
    · rfl
/-- repr of a candidate -/
theorem repr_d {d : D} (c : Chk d) : oReprV [d] = some (.val (.str (shD d))) := by
  by_cases h : dicB d = true
  · rw [dic_of c.kd h]
    rfl
  · have h : dicB d = false := by simpa using h
    rw [(reprV_nd c.kd h).1, shD_nd h]
    have r := c.rp
    unfold rpB at r
    rw [h, Bool.false_or] at r
    simp only [Bool.and_eq_true] at r
    show (if rpOk (toPy d) = true then _ else _) = _
    rw [if_pos r.1.1.1.1.1.1]
def twoT (vs : List Int) (d : D) : Str := if dicB d then PySem.listText [(Py.py vs : PySem.PyData).shown, "{}"] else (PySem.PyData.list [Py.py vs, toPy d]).shown
theorem short32 {l : List Int} (h : ∀ x ∈ l, x.natAbs < 10 ^ 25) : PySem.PyData.leavesShortAll 32 (l.map PySem.PyData.int) = true := by
  induction l with
  | nil => rfl
  | cons x l ih =>
    rw [List.map_cons, PySem.PyData.leavesShortAll, ih fun y hy => h y (List.mem_cons_of_mem _ hy), PySem.PyData.leavesShort, Bool.and_true]
    exact decide_eq_true (Nat.le_trans (int_len (h x List.mem_cons_self)) (by decide))
theorem repr_two {d : D} {vs : List Int} (c : Chk d) (h : ∀ x ∈ vs, x.natAbs < 10 ^ 25) (hl : vs.length ≤ 40) (o : Bool) : oReprV [.lst o [.lst false (nums vs), d]] = some (.val (.str (twoT vs d))) ∧ cpsOk (twoT vs d) = true := by
  have R := rp_nums h (by omega)
  obtain ⟨a1, a2, a3⟩ := sml_all _ R.s
  have c1 := sml_cps _ R.s
  have lw : (Py.py vs : PySem.PyData).weight ≤ 4000 := by
    show (PySem.PyData.list (vs.map .int)).weight ≤ 4000
    rw [PySem.PyData.weight]
    have := wA_map (f := PySem.PyData.int) (c := 84) (l := vs) fun a ha => w_int (h a ha)
    omega
  have l32 : (Py.py vs : PySem.PyData).leavesShort 32 = true := by
    show (PySem.PyData.list (vs.map .int)).leavesShort 32 = true
    rw [PySem.PyData.leavesShort]
    exact short32 h
  have sl := PySem.PyData.shown_le 32 (by decide) _ l32
  by_cases hd : dicB d = true
  · have e : twoT vs d = PySem.listText [(Py.py vs : PySem.PyData).shown, "{}"] := by unfold twoT; rw [hd]; rfl
    rw [e, dic_of c.kd hd]
    refine ⟨?_, cps_list fun t ht => ?_⟩
    · show (if rpOk (toPy (.lst false (nums vs))) = true ∧ (PySem.listText [(toPy (.lst false (nums vs))).shown, "{}"]).length ≤ 16777216 then _ else _) = _
      rw [py_nums]
      refine if_pos ⟨R.ok, ?_⟩
      have := PySem.textFrom_len_le [(Py.py vs : PySem.PyData).shown, "{}"] 0 "["
      have e1 : ("[" : Str).length = 1 := rfl
      have e2 : ("{}" : Str).length = 2 := rfl
      have e3 : ("]" : Str).length = 1 := rfl
      unfold PySem.listText
      rw [PySem.strLen_append]
      simp only [List.map_cons, List.map_nil, List.sum_cons, List.sum_nil, List.length_cons, List.length_nil] at this
      omega
    · rcases List.mem_cons.mp ht with rfl | ht
      · exact c1
      · rw [List.mem_singleton.mp ht]
        exact cps_str "{}"
  · have hd : dicB d = false := by simpa using hd
    have e : twoT vs d = (PySem.PyData.list [Py.py vs, toPy d]).shown := by unfold twoT; rw [hd]; rfl
    have r := c.rp
    unfold rpB at r
    rw [hd, Bool.false_or] at r
    simp only [Bool.and_eq_true, decide_eq_true_eq, Bool.not_eq_true'] at r
    obtain ⟨⟨⟨⟨⟨⟨r1, r2⟩, r3⟩, r4⟩, r5⟩, r6⟩, r7⟩ := r
    have tp : toPy (.lst o [.lst false (nums vs), d]) = PySem.PyData.list [Py.py vs, toPy d] := by
      rw [toPy, toPyL, toPyL, toPyL, py_nums]
    rw [e, (reprV_nd c.kd hd).2]
    refine ⟨?_, ?_⟩
    · show (if rpOk (toPy (.lst o [.lst false (nums vs), d])) = true then some (Out.val (.str (toPy (.lst o [.lst false (nums vs), d])).shown)) else none) = _
      rw [tp]
      refine if_pos ?_
      have ll : (PySem.PyData.list [Py.py vs, toPy d]).leavesShort 32 = true := by
        rw [PySem.PyData.leavesShort, PySem.PyData.leavesShortAll, PySem.PyData.leavesShortAll, PySem.PyData.leavesShortAll, l32, r6]
        rfl
      have lwt : (PySem.PyData.list [Py.py vs, toPy d]).weight ≤ 20000 := by
        rw [PySem.PyData.weight, PySem.PyData.weightAll, PySem.PyData.weightAll, PySem.PyData.weightAll]
        omega
      have sh := PySem.PyData.shown_le 32 (by decide) _ ll
      have dp : (Py.py vs : PySem.PyData).depth ≤ 2 := Nat.le_trans (Py.depth vs) (by decide)
      unfold rpOk
      rw [PySem.PyData.canLay0, PySem.PyData.canLayAll0, PySem.PyData.canLayAll0, PySem.PyData.canLayAll0, a1, r2, PySem.PyData.showable, PySem.PyData.showableAll, PySem.PyData.showableAll, PySem.PyData.showableAll, a2, r3, PySem.PyData.hasDict, PySem.PyData.hasDictAll, PySem.PyData.hasDictAll, PySem.PyData.hasDictAll, PySem.PyData.hasDict_of_canLay _ a1, r4, PySem.PyData.depth, PySem.PyData.depthAll, PySem.PyData.depthAll, PySem.PyData.depthAll, decide_eq_true (show (PySem.PyData.list [Py.py vs, toPy d]).shown.length ≤ 16777216 by omega)]
      simp only [Bool.and_true, Bool.true_and, Bool.or_false, Bool.not_false, decide_eq_true_eq]
      omega
    · rw [PySem.PyData.shown]
      refine cps_list fun t ht => ?_
      rw [PySem.PyData.shownAll, PySem.PyData.shownAll, PySem.PyData.shownAll] at ht
      rcases List.mem_cons.mp ht with rfl | ht
      · exact c1
      · rw [List.mem_singleton.mp ht, ← shD_nd hd]
        exact c.cp
/-! ### the candidates made -/
theorem strI_of {c : Int} (h1 : 1 ≤ c) (h2 : c ≤ 5) : oStrI [.int c] = some (.val (.str (txI c))) := by
  rcases (show c = 1 ∨ c = 2 ∨ c = 3 ∨ c = 4 ∨ c = 5 by omega) with rfl | rfl | rfl | rfl | rfl <;> kernel_rfl
theorem pow30 : oPow [.int 10, .int 30] = some (.val (.int (10 ^ 30))) := by kernel_rfl
abbrev CS5 (w : Nat) (F : List (Int × Int)) (o : Bool) (xs : List D) (y3 y4 : Option D) : Sl := [some (.int (w : Int)), some (.lst false (F.map penc)), some (.lst o xs), y3, y4]
theorem colds_ap (xs ys : List D) : DL.colds (xs ++ ys) = (DL.colds xs && DL.colds ys) := by unfold DL.colds; rw [List.all_append]
theorem cand_step {w : Nat} {F : List (Int × Int)} {c p : Int} {o : Bool} {xs : List D} (h1 : 1 ≤ c) (h2 : c ≤ 5) (hx : DL.colds xs = true) (hl : xs.length ≤ 10000) :
    fb1__law_candidates (CS5 w F o xs (some (.int c)) (some (.int p))) = .next (CS5 w F true ((xs ++ five c p (txI c)) ++ four c p) (some (.int c)) (some (.int p))) := by
  have c5 : DL.colds (five c p (txI c)) = true := rfl
  have c4 : DL.colds (four c p) = true := rfl
  have cx : DL.colds (xs ++ five c p (txI c)) = true := by rw [colds_ap, hx, c5]; rfl
  have l5 : (five c p (txI c)).length = 5 := rfl
  have l4 : (four c p).length = 4 := rfl
  have x5 : ∀ o' ys, eFz (eLst (aCons (eLst (aCons (eN 3) (aCons (eN 4) aNil))) (aCons (eTup (aCons (eN 3) (aCons (eN 4) (aCons (eC (.int 0)) aNil)))) (aCons (eTup (aCons (eN 4) aNil)) (aCons (eTup (aCons (eTup (aCons (eN 3) (aCons (eN 4) aNil))) aNil)) (aCons (eTup (aCons (eOp oStrI [.s 3]) (aCons (eN 4) aNil))) aNil)))))) (CS5 w F o' ys (some (.int c)) (some (.int p))) = .ok (.lst false (five c p (txI c))) (CS5 w F o' ys (some (.int c)) (some (.int p))) := fun o' ys =>
    xFz (xLst (ds := [.lst true [.int c, .int p], .tup [.int c, .int p, .int 0], .tup [.int p], .tup [.tup [.int c, .int p]], .tup [.str (txI c), .int p]]) (xACons (xLst (xACons (xN rfl rfl) (xACons (xN rfl rfl) xANil)) rfl) (xACons (xTup (xACons (xN rfl rfl) (xACons (xN rfl rfl) (xACons xC xANil))) rfl rfl) (xACons (xTup (xACons (xN rfl rfl) xANil) rfl rfl) (xACons (xTup (xACons (xTup (xACons (xN rfl rfl) (xACons (xN rfl rfl) xANil)) rfl rfl) xANil) rfl rfl) (xACons (xTup (xACons (xOs rfl (strI_of h1 h2) rfl) (xACons (xN rfl rfl) xANil)) rfl rfl) xANil))))) rfl) rfl
  have x4 : ∀ o' ys, eLst (aCons (eTup (aCons (eN 3) (aCons (eC (.bl true)) aNil))) (aCons (eTup (aCons (eC (.bl true)) (aCons (eN 4) aNil))) (aCons (eTup (aCons (eN 3) (aCons (eOp oPow [.v (eC (.int 10)), .v (eC (.int 30))]) aNil))) (aCons (eTup (aCons (eN 3) (aCons (eOp oNeg [.s 4]) aNil))) aNil)))) (CS5 w F o' ys (some (.int c)) (some (.int p))) = .ok (.lst true (four c p)) (CS5 w F o' ys (some (.int c)) (some (.int p))) := fun o' ys =>
    xLst (ds := four c p) (xACons (xTup (xACons (xN rfl rfl) (xACons xC xANil)) rfl rfl) (xACons (xTup (xACons xC (xACons (xN rfl rfl) xANil)) rfl rfl) (xACons (xTup (xACons (xN rfl rfl) (xACons (xOvv xC xC pow30 rfl) xANil)) rfl rfl) (xACons (xTup (xACons (xN rfl rfl) (xACons (xOs rfl neg_i rfl) xANil)) rfl rfl) xANil)))) rfl
  unfold fb1__law_candidates
  refine zSeq (st1 := CS5 w F true (xs ++ five c p (txI c)) (some (.int c)) (some (.int p))) (zAsg (xOsv rfl (x5 o xs) rfl (add_c hx c5 (by omega)) rfl) rfl) ?_
  exact zAsg (xOsv rfl (x4 true _) rfl (add_c cx c4 (by rw [List.length_append]; omega)) rfl) rfl
theorem colds_CB {xs : List D} (h : ∀ d ∈ xs, d ∈ CB) : DL.colds xs = true := by
  unfold DL.colds
  exact List.all_eq_true.mpr fun d hd => (chk_is (h d hd)).cd
theorem cand_ok {w : Nat} (w6 : w ≤ 6) {F : List (Int × Int)} (hF : ∀ q ∈ F, q ∈ box) (lF : F.length ≤ 1000) : ∃ ds ps, m__law_candidates [.int (w : Int), .lst false (F.map penc)] = .ok (.lst true ds) ps ∧ ∀ d ∈ ds, d ∈ CB := by
  have cF : DL.colds (F.map penc) = true := by
    unfold DL.colds
    rw [List.all_eq_true]
    intro d hd
    obtain ⟨q, _, rfl⟩ := List.mem_map.mp hd
    rfl
  have b0 : ∀ d ∈ base14, d ∈ CB := fun d hd => List.mem_append_left _ (List.mem_append_left _ hd)
  obtain ⟨st1, F1, o1, xs1, y3, y4, hst1, k1, m1⟩ := forD_ok (g := fg1__law_candidates) (body := fb1__law_candidates) (fun i st => ∃ o xs y3 y4, st = CS5 w F o xs y3 y4 ∧ xs.length ≤ 14 + 9 * i ∧ ∀ d ∈ xs, d ∈ CB) ((F.map penc).take 3) 0
    (CS5 w F false base14 none none) ⟨false, base14, none, none, rfl, by decide, b0⟩ (fun i d st ed hI => by
      obtain ⟨o, xs, y3, y4, rfl, kl, km⟩ := hI
      rw [Nat.zero_add] at kl ⊢
      have hi := (List.getElem?_eq_some_iff.mp ed).1
      rw [List.length_take] at hi
      have md := List.mem_of_mem_take (List.mem_of_getElem? ed)
      obtain ⟨q, hq, rfl⟩ := List.mem_map.mp md
      have hb := hF q hq
      have bb := mem_box.mp hb
      have cs := cand_step (w := w) (F := F) (c := q.1) (p := q.2) (o := o) (xs := xs) bb.1.1 bb.1.2 (colds_CB km) (by omega)
      refine ⟨CS5 w F o xs (some (.int q.1)) (some (.int q.2)), _, rfl, .inl cs, true, _, _, _, rfl, ?_, fun d hd => ?_⟩
      · rw [List.length_append, List.length_append]
        show xs.length + 5 + 4 ≤ _
        omega
      · rcases List.mem_append.mp hd with hd | hd
        · rcases List.mem_append.mp hd with hd | hd
          · exact km d hd
          · exact List.mem_append_left _ (List.mem_append_right _ (List.mem_flatMap.mpr ⟨q, hb, List.mem_append_left _ hd⟩))
        · exact List.mem_append_left _ (List.mem_append_right _ (List.mem_flatMap.mpr ⟨q, hb, List.mem_append_right _ hd⟩)))
  have kk : xs1.length ≤ 41 := by
    rw [Nat.zero_add, List.length_take] at k1
    omega
  obtain ⟨st2, F2, o2, xs2, y3', y4', hst2, k2, m2, ho⟩ := forD_ok (g := fg3__law_candidates) (body := fb3__law_candidates) (fun i st => ∃ o xs y3 y4, st = CS5 w F o xs y3 y4 ∧ xs.length ≤ 41 + 10 * i ∧ (∀ d ∈ xs, d ∈ CB) ∧ (1 ≤ i → o = true)) (rangeD (-1) (w + 4)) 0
    (CS5 w F o1 xs1 y3 y4) ⟨o1, xs1, y3, y4, rfl, by omega, m1, fun z => by omega⟩ (fun i d st ed hI => by
      obtain ⟨o, xs, y3, y4, rfl, kl, km, _⟩ := hI
      rw [Nat.zero_add] at kl ⊢
      obtain ⟨hi, rfl⟩ := rangeD_get ed
      obtain ⟨c, hc⟩ : ∃ c : Int, (-1 : Int) + (i : Int) = c := ⟨_, rfl⟩
      rw [hc]
      have c1 : eLc (iR2 (eOp oNeg [.v (eC (.int 1))]) (eOp oAdd [.s 0, .v (eC (.int 3))])) lg2__law_candidates tYesM le2__law_candidates [4] (CS5 w F o xs (some (.int c)) y4) = .ok (.lst true ((List.range (w + 4)).map fun (k : Nat) => penc (c, (-1 : Int) + (k : Int)))) (CS5 w F o xs (some (.int c)) none) := by
        refine xLcA (fun k : Nat => D.int ((-1 : Int) + (k : Int))) (fun k : Nat => penc (c, (-1 : Int) + (k : Int))) (List.range (w + 4)) (ds := rangeD (-1) (w + 4)) (wR2 (i := -1) (j := (w : Int) + 3) (n := w + 4) (xOv xC neg_i rfl) (xOsv rfl xC rfl add_i rfl) (by decide) (by unfold small62; exact decide_eq_true (by omega)) (by omega)) rfl (by rw [List.length_range]; omega) (show 4 < 5 by decide) rfl (fun _ _ => rfl) (fun k _ => ?_) rfl
        unfold le2__law_candidates
        exact xTup (xACons (xN rfl rfl) (xACons (xN rfl rfl) xANil)) rfl rfl
      have mg : ∀ d ∈ (List.range (w + 4)).map fun (k : Nat) => penc (c, (-1 : Int) + (k : Int)), d ∈ CB := fun d hd => by
        obtain ⟨k, hk, rfl⟩ := List.mem_map.mp hd
        have := List.mem_range.mp hk
        exact List.mem_append_right _ (mem_grid (by omega) (by omega) (by omega) (by omega))
      have lg : ((List.range (w + 4)).map fun (k : Nat) => penc (c, (-1 : Int) + (k : Int))).length = w + 4 := by rw [List.length_map, List.length_range]
      refine ⟨CS5 w F o xs (some (.int c)) y4, CS5 w F true (xs ++ (List.range (w + 4)).map fun (k : Nat) => penc (c, (-1 : Int) + (k : Int))) (some (.int c)) none, rfl, .inl ?_, true, _, _, _, rfl, by rw [List.length_append, lg]; omega, fun d hd => (List.mem_append.mp hd).elim (km d) (mg d), fun _ => rfl⟩
      unfold fb3__law_candidates
      exact zAsg (xOsv rfl c1 rfl (add_c (colds_CB km) (colds_CB mg) (by rw [lg]; omega)) rfl) rfl)
  subst hst1
  subst hst2
  have bs : ∀ st : Sl, eFz (eLst (aCons (eC .non) (aCons (eTup aNil) (aCons (eLst aNil) (aCons (eC (.int 0)) (aCons (eC (.bl true)) (aCons (eC (.str "1 1")) (aCons (eTup (aCons (eC (.int 1)) aNil)) (aCons (eTup (aCons (eC (.int 1)) (aCons (eC (.int 1)) (aCons (eC (.int 1)) aNil)))) (aCons (eLst (aCons (eC (.int 1)) (aCons (eC (.int 1)) aNil))) (aCons (eTup (aCons (eC .non) (aCons (eC (.int 1)) aNil))) (aCons (eTup (aCons (eC (.int 1)) (aCons (eC .non) aNil))) (aCons (eTup (aCons (eC (.str "1")) (aCons (eC (.int 1)) aNil))) (aCons (eTup (aCons (eC (.int 1)) (aCons (eC (.str "1")) aNil))) (aCons eDn aNil))))))))))))))) st = .ok (.lst false base14) st := fun st => by rfl
  have o2t : o2 = true := ho (by rw [rangeD_len]; omega)
  subst o2t
  refine ⟨xs2, _, fn_go rfl (?_ : b__law_candidates [some (.int (w : Int)), some (.lst false (F.map penc)), none, none, none] = SR.ret (.lst true xs2) [some (.int (w : Int)), some (.lst false (F.map penc)), none, y3', y4']), m2⟩
  unfold b__law_candidates
  refine zSeq (st1 := CS5 w F false base14 none none) (zAsg (bs _) rfl) ?_
  refine zSeq (zFor (wE (xOsv rfl xC rfl (s01_d (k := 3) cF (by rw [List.length_map]; omega)) rfl) rfl ?_) F1) ?_
  · unfold DL.colds at cF ⊢
    exact List.all_eq_true.mpr fun d hd => List.all_eq_true.mp cF d (List.mem_of_mem_take hd)
  refine zSeq (zFor (wR2 (i := -1) (j := (w : Int) + 3) (n := w + 4) (xOv xC neg_i rfl) (xOsv rfl xC rfl add_i rfl) (by decide) (by unfold small62; exact decide_eq_true (by omega)) (by omega)) F2) (zRet (xMv rfl rfl))
/-! ### one candidate -/
theorem in_strs (t : Str) (o : Bool) (ts : List Str) : oIn false [.str t, .lst o (ts.map D.str)] = some (.val (.bl (decide (t ∈ ts)))) := by
  have e : ∀ ts : List Str, ((ts.map D.str).any fun z => eqF z (.str t)) = decide (t ∈ ts) := fun ts => by
    induction ts with
    | nil => rfl
    | cons y l ih =>
      rw [List.map_cons, List.any_cons, ih]
      have e1 : eqF (.str y) (.str t) = decide (y = t) := by
        unfold eqF
        by_cases h : y = t <;> simp [h]
      rw [e1]
      by_cases h : y = t
      · subst h; simp
      · rw [decide_eq_false h, Bool.false_or, decide_eq_decide]
        exact ⟨fun q => List.mem_cons_of_mem _ q, fun q => (List.mem_cons.mp q).elim (fun z => absurd z.symm h) id⟩
  have f : (ts.map D.str).all flat = true := by
    rw [List.all_map]
    exact List.all_eq_true.mpr fun _ _ => rfl
  show (match some (ts.map D.str) with | some ys => if (flat (.str t) && ys.all flat) = true then some (Out.val (.bl (if false = true then _ else ys.any fun z => eqF z (.str t)))) else none | none => none) = _
  dsimp only
  rw [f, e]
  rfl
def txQ (q : Int × Int) : Str := (toPy (penc q)).shown
theorem in_is {w : Nat} {H v : List Int} {d : D} (c : Chk d) (w6 : w ≤ 6) (hH : H.length = w) (hv : v.length = w) : decide (shD d ∈ (obAll w H v).map txQ) = obsB w H v d := by
  have inb : ∀ q ∈ obAll w H v, q ∈ box := fun q hq => by
    have h := (ob_mem (c := q.1) (x := q.2) hH hv).mp hq
    unfold isObs at h
    simp only [Bool.and_eq_true, decide_eq_true_eq] at h
    exact mem_box.mpr (by omega)
  rw [Bool.eq_iff_iff, decide_eq_true_iff, List.mem_map]
  constructor
  · rintro ⟨q, hq, e⟩
    have t := c.tx q (inb q hq)
    rw [decide_eq_true (show shD d = (toPy (penc q)).shown from e.symm)] at t
    unfold isP at t
    unfold obsB
    split at t
    · rename_i a b
      have t := t.symm
      simp only [Bool.and_eq_true, decide_eq_true_eq] at t
      rw [t.1, t.2]
      exact (ob_mem hH hv).mp hq
    · cases t
  · intro h
    unfold obsB at h
    split at h
    · rename_i a b
      have hq := (ob_mem hH hv).mpr h
      refine ⟨(a, b), hq, ?_⟩
      have t := c.tx (a, b) (inb _ hq)
      have p : isP (.tup [.int a, .int b]) (a, b) = true := by simp [isP]
      rw [p] at t
      exact (of_decide_eq_true t).symm
    · cases h
section
variable {ns : List Int} {i : Int} {src : D} {w : Nat} {A vs : List Int}
abbrev LS (ns : List Int) (i : Int) (src : D) (w : Nat) (A vs : List Int) (q : Bool) (y7 y11 y12 : Option D) (oT : Bool) : Sl :=
  [some (.scr ns), some (.int i), some src, some (.int (w : Int)), some (.lst false (nums A)), some (.lst false (rowF (lims w (hard w A)))), some (net q (w : Int) A), y7, some (.lst false (nums vs)), some (.lst false ((obAll w (hard w A) vs).map penc)), some (.lst oT (((obAll w (hard w A) vs).map txQ).map D.str)), y11, y12, none, none]
theorem one_ok {d : D} (c : Chk d) (w1 : 1 ≤ w) (w6 : w ≤ 6) (h : okS w A) (hs : A.length ≤ 1000) (hv : vs.length = w) (vb : ∀ x ∈ vs, x.natAbs < 10 ^ 25) (q : Bool) (y7 y12 : Option D) :
    fb16_law (LS ns i src w A vs q y7 (some d) y12 true) = .next (LS ns i src w A vs false y7 (some d) (some (.str (twoT vs d))) true) := by
  have hd : hot d = false := by have := c.cd; unfold cold at this; simpa using this
  obtain ⟨r1, r2⟩ := repr_two c vb (by omega) true
  have r3 := repr_d c
  obtain ⟨ps, e1⟩ := is_obs_any w1 (by omega) h hs hv c.kd
  have ii := in_is (H := hard w A) c w6 (hard_len w A) hv
  have rb : ∀ b : Bool, oReprV [.bl b] = some (.val (.str (if b then "True" else "False"))) := fun b => repr_bl b
  obtain ⟨B, hB⟩ : ∃ B, obsB w (hard w A) vs d = B := ⟨_, rfl⟩
  rw [hB] at e1 ii
  have ins := in_strs (shD d) true ((obAll w (hard w A) vs).map txQ)
  rw [ii] at ins
  have nb : f2 pNe [.str (if B then "True" else "False"), .str (if B then "True" else "False")] = some (.val (.bl false)) := by cases B <;> exact str_ne' (cps_str _)
  have two : ∀ q y12, eOp oReprV [.v (eLst (aCons (eN 8) (aCons (eN 11) aNil)))] (LS ns i src w A vs q y7 (some d) y12 true) = .ok (.str (twoT vs d)) (LS ns i src w A vs q y7 (some d) y12 true) := fun q y12 => xOv (xLst (ds := [.lst false (nums vs), d]) (xACons (xN rfl rfl) (xACons (xN rfl hd) xANil)) rfl) r1 rfl
  unfold fb16_law
  refine zSeq (st1 := LS ns i src w A vs q y7 (some d) (some (.str (twoT vs d))) true) (by unfold st11_law; exact zAsg (two q y12) rfl) ?_
  refine zSeq (st1 := LS ns i src w A vs false y7 (some d) (some (.str (twoT vs d))) true) ?_ ?_
  · unfold st13_law
    have n0 : eN 6 (LS ns i src w A vs q y7 (some d) (some (.str (twoT vs d))) true) = .ok (net false (w : Int) A) (LS ns i src w A vs false y7 (some d) (some (.str (twoT vs d))) true) := by
      cases q with
      | true => exact xNf rfl rfl frz_net rfl
      | false => exact xN rfl rfl
    exact zNo (cE (xOvv (xOv (xCall (ds := [net false (w : Int) A, .lst false (nums vs), d]) (xACons n0 (xACons (xN rfl rfl) (xACons (xN rfl hd) xANil))) e1) (rb B) rfl) (xOv (xOvs (xOs rfl r3 rfl) rfl ins rfl) (rb B) rfl) nb rfl)) rfl
  · unfold st15_law
    exact zNo (cE (xOvs (two false _) rfl (str_ne' r2) rfl)) rfl
/-! ### one list of values -/
theorem turn_ok {a b : Int} (w1 : 1 ≤ w) (w6 : w ≤ 6) (h : okS w A) (hs : A.length ≤ 1000) (q o5 : Bool) (y7 y8 y9 y10 y11 y12 : Option D) :
    ∃ a' b' vs z11 z12 q', fb18_law [some (.scr ns), some (.int i), some (.lst true [.int a, .int b]), some (.int (w : Int)), some (.lst false (nums A)), some (.lst o5 (rowF (lims w (hard w A)))), some (net q (w : Int) A), y7, y8, y9, y10, y11, y12, none, none] = .next (LS ns i (.lst true [.int a', .int b']) w A vs q' y7 z11 z12 true) := by
  obtain ⟨vs, a', b', lv, vb, e1⟩ := law_values2_ok a b (w := w) w1 (by omega)
  obtain ⟨p2, e2⟩ := obstacles_ok (H := hard w A) (v := vs) w1 (by omega) (hard_len w A) lv
  have inb : ∀ q ∈ obAll w (hard w A) vs, q ∈ box := fun q hq => by
    have h := (ob_mem (c := q.1) (x := q.2) (hard_len w A) lv).mp hq
    unfold isObs at h
    simp only [Bool.and_eq_true, decide_eq_true_eq] at h
    exact mem_box.mpr (by omega)
  have lF : (obAll w (hard w A) vs).length ≤ 1000 := by
    have key : ∀ L : List Int, (L.flatMap (obRow w (hard w A) vs)).length ≤ L.length * w := fun L => by
      induction L with
      | nil => simp
      | cons x L ih =>
        rw [List.flatMap_cons, List.length_append, List.length_cons, Nat.succ_mul]
        have := obRow_len w (hard w A) vs x
        omega
    have k := key (srtS vs)
    have l := srtS_len vs
    rw [lv] at l
    have : (srtS vs).length * w ≤ 6 * 6 := Nat.mul_le_mul (by omega) w6
    unfold obAll
    omega
  obtain ⟨ds, p3, e3, hds⟩ := cand_ok (w := w) w6 inb lF
  have frzF : ∀ F : List (Int × Int), frzL (F.map penc) = F.map penc := fun F => by
    induction F with
    | nil => exact fzL_n
    | cons q F ih => exact fzL_c (fz_tup (fzL_c fz_i (fzL_c fz_i fzL_n))) ih
  have cF : DL.colds ((obAll w (hard w A) vs).map penc) = true := by
    unfold DL.colds
    rw [List.all_eq_true]
    intro d hd
    obtain ⟨q, _, rfl⟩ := List.mem_map.mp hd
    rfl
  have frzD : frzL ds = ds := by
    have key : ∀ ds : List D, (∀ d ∈ ds, d ∈ CB) → frzL ds = ds := fun ds => by
      induction ds with
      | nil => intro _; exact fzL_n
      | cons d ds ih => intro hh; exact fzL_c (chk_is (hh d List.mem_cons_self)).fz (ih fun x hx => hh x (List.mem_cons_of_mem _ hx))
    exact key ds hds
  let S (o5 : Bool) (s2 : D) (y8 y9 y10 : Option D) : Sl := [some (.scr ns), some (.int i), some s2, some (.int (w : Int)), some (.lst false (nums A)), some (.lst o5 (rowF (lims w (hard w A)))), some (net q (w : Int) A), y7, y8, y9, y10, y11, y12, none, none]
  have frzB : frz (.lst true (rowF (lims w (hard w A)))) = .lst false (rowF (lims w (hard w A))) := by
    refine fz_lst ?_
    have key : ∀ L : List (List Int), frzL (rowF L) = rowF L := fun L => by
      unfold rowF
      induction L with
      | nil => exact fzL_n
      | cons r L ih => exact fzL_c (fz_lst (nums_frz r)) ih
    exact key _
  have c10 : eLc (iE (eN 9) lstItems) lg9_law tYesM le9_law [14] (S false (.lst true [.int a', .int b']) (some (.lst false (nums vs))) (some (.lst true ((obAll w (hard w A) vs).map penc))) y10) = .ok (.lst true (((obAll w (hard w A) vs).map txQ).map D.str)) (S false (.lst true [.int a', .int b']) (some (.lst false (nums vs))) (some (.lst false ((obAll w (hard w A) vs).map penc))) y10) := by
    refine xLcA penc (fun q => D.str (txQ q)) (obAll w (hard w A) vs) (wE (xNf rfl rfl (fz_lst (frzF _)) rfl) rfl cF) rfl (by omega) (show 14 < 15 by decide) rfl (fun _ _ => rfl) (fun q hq => ?_) (by rw [List.map_map]; rfl)
    have rq := List.all_eq_true.mp box_ok q (inb q hq)
    have r : oReprV [penc q] = some (.val (.str (txQ q))) := by
      show (if rpOk (toPy (penc q)) = true then _ else _) = _
      rw [if_pos rq]
      rfl
    unfold le9_law
    exact xOs rfl r rfl
  obtain ⟨st', L, q', y11', y12', hst⟩ := forD_inv (g := fg16_law) (body := fb16_law) (fun st => ∃ q y11 y12, st = LS ns i (.lst true [.int a', .int b']) w A vs q y7 y11 y12 true) ds (LS ns i (.lst true [.int a', .int b']) w A vs q y7 y11 y12 true) ⟨q, y11, y12, rfl⟩ (fun d st hd hI => by
    obtain ⟨q, y11, y12, rfl⟩ := hI
    exact ⟨_, _, rfl, one_ok (chk_is (hds d hd)) w1 w6 h hs lv vb q y7 y12, false, _, _, rfl⟩)
  subst hst
  refine ⟨a', b', vs, y11', y12', q', ?_⟩
  unfold fb18_law
  refine zSeq (st1 := S o5 (.lst true [.int a', .int b']) (some (.lst true (nums vs))) y9 y10) (by unfold st7_law; exact zAsg (xCallL (ds := []) (es := [.int (w : Int)]) xANil rfl (xACons (xN rfl rfl) xANil) rfl rfl e1 rfl rfl) rfl) ?_
  refine zSeq (st1 := S false (.lst true [.int a', .int b']) (some (.lst false (nums vs))) (some (.lst true ((obAll w (hard w A) vs).map penc))) y10) ?_ ?_
  · unfold st8_law
    have n5 : ∀ y8, eN 5 (S o5 (.lst true [.int a', .int b']) y8 y9 y10) = .ok (.lst false (rowF (lims w (hard w A)))) (S false (.lst true [.int a', .int b']) y8 y9 y10) := fun y8 => by
      cases o5 with
      | true => exact xNf rfl rfl frzB rfl
      | false => exact xN rfl rfl
    exact zAsg (xCall (ds := [.lst false (rowF (lims w (hard w A))), .lst false (nums vs)]) (xACons (n5 _) (xACons (xNf rfl rfl (fz_lst (nums_frz _)) rfl) xANil)) e2) rfl
  refine zSeq (st1 := LS ns i (.lst true [.int a', .int b']) w A vs q y7 y11 y12 true) (by unfold st10_law; exact zAsg c10 rfl) ?_
  exact zFor (wE (xFz (xCall (ds := [.int (w : Int), .lst false ((obAll w (hard w A) vs).map penc)]) (xACons (xN rfl rfl) (xACons (xN rfl rfl) xANil)) e3) (fz_lst frzD)) rfl (colds_CB hds)) L
end
/-! ### the law -/
theorem body_ok (ns : List Int) (hns : ns.length ≤ 63) (i : Int) (hi0 : 0 ≤ i) (hi : i < 100) (y2 y3 y4 y5 y6 y7 y8 y9 y10 y11 y12 : Option D) :
    ∃ z2 z3 z4 z5 z6 z7 z8 z9 z10 z11 z12, fb20_law [some (.scr ns), some (.int i), y2, y3, y4, y5, y6, y7, y8, y9, y10, y11, y12, none, none] = .next [some (.scr ns), some (.int i), z2, z3, z4, z5, z6, z7, z8, z9, z10, z11, z12, none, none] := by
  obtain ⟨a1, b1, ps1, e1⟩ := source_ok ns i hi0 hi hns
  obtain ⟨r, a2, b2, r1, r2, e2⟩ := draw_ok a1 b1 6 (by decide) (by decide)
  obtain ⟨w, hw⟩ : ∃ w : Nat, 1 + r = (w : Int) := ⟨(1 + r).toNat, by omega⟩
  have w1 : 1 ≤ w := by omega
  have w6 : w ≤ 6 := by omega
  obtain ⟨A, a3, b3, hA, lA, e3⟩ := steps2_ok a2 b2 (w := (w : Int)) (n := 12) (by omega) (by omega) (by decide)
  obtain ⟨p1, k1⟩ := init_ok (w := (w : Int)) (ss := A) (by omega) (by omega) hA (by omega) false
  let S (o : Bool) (y5 y6 : Option D) : Sl := [some (.scr ns), some (.int i), some (.lst true [.int a3, .int b3]), some (.int (w : Int)), some (.lst o (nums A)), y5, y6, y7, y8, y9, y10, y11, y12, none, none]
  have sr : iR2 (eC (.int 1)) (eN 3) (S true y5 y6) = .ok (nums (asc (w - 1))) (S true y5 y6) := by
    have e : rangeD 1 (w - 1) = nums (asc (w - 1)) := by rw [range1_nums]; rfl
    rw [← e]
    exact wR2 (i := 1) (j := (w : Int)) xC (xN rfl rfl) rfl (small62_nat (by omega)) (by omega)
  obtain ⟨st2, ec, hI⟩ := xLcS (g := lg4_law) (t := tYesM) (e := le4_law) (vs := [13]) (fun st => ∃ o, st = S o y5 y6) D.int (fun c => D.lst false (nums (lowR c 1 (hard w A)))) (fun _ => true) (asc (w - 1)) sr rfl (by rw [asc_len]; omega) ⟨true, rfl⟩ (fun x hx s hs => by
    obtain ⟨o, rfl⟩ := hs
    have hx := asc_mem.mp hx
    obtain ⟨c, rfl⟩ : ∃ c : Nat, x = (c : Int) := ⟨x.toNat, by omega⟩
    obtain ⟨p2, e4⟩ := limit_ok (c := c) w1 (by omega) hA (by omega)
    refine ⟨(S o y5 y6).set 13 (some (.int (c : Int))), _, rfl, rfl, fun h => (by cases h), fun _ => ⟨(S false y5 y6).set 13 (some (.int (c : Int))), ?_, false, rfl⟩⟩
    have n4 : eN 4 ((S o y5 y6).set 13 (some (.int (c : Int)))) = .ok (.lst false (nums A)) ((S false y5 y6).set 13 (some (.int (c : Int)))) := by
      cases o with
      | true => exact xNf rfl rfl (fz_lst (nums_frz _)) rfl
      | false => exact xN rfl rfl
    unfold le4_law
    exact xFz (xCall (ds := [.lst false (nums A), .int (w : Int), .int (c : Int)]) (xACons n4 (xACons (xN rfl rfl) (xACons (xN rfl rfl) xANil))) e4) (fz_l))
  obtain ⟨o, rfl⟩ := hI
  have eb : ((asc (w - 1)).filter fun _ => true).map (fun c => D.lst false (nums (lowR c 1 (hard w A)))) = rowF (lims w (hard w A)) := by
    rw [List.filter_eq_self.mpr fun _ _ => rfl]
    unfold rowF lims asc
    rw [List.map_map, List.map_map]
    refine List.map_congr_left fun c _ => ?_
    show D.lst false (nums (lowR ((1 : Int) + (c : Int)) 1 (hard w A))) = D.lst false (nums (lows ((1 : Int) + (c : Int)) (hard w A)))
    rw [lows_R]
  rw [eb] at ec
  let I (st : Sl) : Prop := ∃ a b o5 q y7 y8 y9 y10 y11 y12, st = [some (.scr ns), some (.int i), some (.lst true [.int a, .int b]), some (.int (w : Int)), some (.lst false (nums A)), some (.lst o5 (rowF (lims w (hard w A)))), some (net q (w : Int) A), y7, y8, y9, y10, y11, y12, none, none]
  obtain ⟨st', L, a', b', o5, q, z7, z8, z9, z10, z11, z12, hst⟩ := forD_inv (g := fg18_law) (body := fb18_law) I (rangeD 0 4) [some (.scr ns), some (.int i), some (.lst true [.int a3, .int b3]), some (.int (w : Int)), some (.lst false (nums A)), some (.lst true (rowF (lims w (hard w A)))), some (net true (w : Int) A), y7, y8, y9, y10, y11, y12, none, none] ⟨a3, b3, true, true, y7, y8, y9, y10, y11, y12, rfl⟩ (fun d st hd hI => by
    obtain ⟨a, b, o5, q, y7, y8, y9, y10, y11, y12, rfl⟩ := hI
    obtain ⟨a', b', vs, z11, z12, q', e⟩ := turn_ok (ns := ns) (i := i) (a := a) (b := b) w1 w6 hA (by omega) q o5 (some d) y8 y9 y10 y11 y12
    exact ⟨_, _, rfl, e, a', b', false, q', _, _, _, _, z11, z12, rfl⟩)
  subst hst
  refine ⟨_, _, _, _, _, _, _, _, _, _, _, (?_ : _ = SR.next [some (.scr ns), some (.int i), some (.lst true [.int a', .int b']), some (.int (w : Int)), some (.lst false (nums A)), some (.lst o5 (rowF (lims w (hard w A)))), some (net q (w : Int) A), z7, z8, z9, z10, z11, z12, none, none])⟩
  unfold fb20_law
  refine zSeq (st1 := [some (.scr ns), some (.int i), some (.lst true [.int a1, .int b1]), y3, y4, y5, y6, y7, y8, y9, y10, y11, y12, none, none]) (by unfold st1_law; exact zAsg (xCall (ds := [.scr ns, .int i]) (xACons (xN rfl rfl) (xACons (xN rfl rfl) xANil)) e1) rfl) ?_
  refine zSeq (st1 := [some (.scr ns), some (.int i), some (.lst true [.int a2, .int b2]), some (.int (w : Int)), y4, y5, y6, y7, y8, y9, y10, y11, y12, none, none]) (by unfold st2_law; exact zAsg (d := .int (w : Int)) (xOvv xC (xCallL (ds := []) (es := [.int 6]) xANil rfl (xACons xC xANil) rfl rfl e2 rfl rfl) add_i (by rw [Out.d, hw])) rfl) ?_
  refine zSeq (st1 := S true y5 y6) (by unfold st3_law; exact zAsg (xCallL (ds := []) (es := [.int (w : Int), .int ((12 : Nat) : Int)]) xANil rfl (xACons (xN rfl rfl) (xACons xC xANil)) rfl rfl e3 rfl rfl) rfl) ?_
  refine zSeq (st1 := S o (some (.lst true (rowF (lims w (hard w A))))) y6) (by unfold st5_law; exact zAsg ec rfl) ?_
  refine zSeq (st1 := S false (some (.lst true (rowF (lims w (hard w A))))) (some (net true (w : Int) A))) ?_ (zFor (wR1 (n := 4) xC rfl (by decide)) L)
  unfold st6_law
  have n4 : eN 4 (S o (some (.lst true (rowF (lims w (hard w A))))) y6) = .ok (.lst false (nums A)) (S false (some (.lst true (rowF (lims w (hard w A))))) y6) := by
    cases o with
    | true => exact xNf rfl rfl (fz_lst (nums_frz _)) rfl
    | false => exact xN rfl rfl
  exact zAsg (xMake (ds := [.int (w : Int), .lst false (nums A)]) (xACons (xN rfl rfl) (xACons n4 xANil)) k1) rfl
theorem law_ok (ns : List Int) (hns : ns.length ≤ 63) : ∃ ps, m_law [.scr ns] = .ok (.bl true) ps := by
  obtain ⟨N, hN, e0⟩ := count_ok ns 6 (by decide) (by decide) (st := [some (.scr ns), none, none, none, none, none, none, none, none, none, none, none, none, none, none]) rfl
  obtain ⟨st', L, ⟨z1, z2, z3, z4, z5, z6, z7, z8, z9, z10, z11, z12, rfl⟩⟩ := forD_inv (g := fg20_law) (body := fb20_law) (fun st => ∃ z1 z2 z3 z4 z5 z6 z7 z8 z9 z10 z11 z12, st = [some (.scr ns), z1, z2, z3, z4, z5, z6, z7, z8, z9, z10, z11, z12, none, none]) (rangeD 0 N) [some (.scr ns), none, none, none, none, none, none, none, none, none, none, none, none, none, none] ⟨none, none, none, none, none, none, none, none, none, none, none, none, rfl⟩ (fun d st hd hI => by
    obtain ⟨z1, z2, z3, z4, z5, z6, z7, z8, z9, z10, z11, z12, rfl⟩ := hI
    obtain ⟨i, hi, rfl⟩ := rangeD_mem hd
    rw [Int.zero_add]
    obtain ⟨u2, u3, u4, u5, u6, u7, u8, u9, u10, u11, u12, e⟩ := body_ok ns hns (i : Int) (by omega) (by omega) z2 z3 z4 z5 z6 z7 z8 z9 z10 z11 z12
    exact ⟨_, _, rfl, e, _, _, _, _, _, _, _, _, _, _, _, _, rfl⟩)
  refine ⟨_, fn_go rfl (?_ : b_law [some (.scr ns), none, none, none, none, none, none, none, none, none, none, none, none, none, none] = SR.ret (.bl true) [some (.scr ns), z1, z2, z3, z4, z5, z6, z7, z8, z9, z10, z11, z12, none, none])⟩
  unfold b_law
  refine zSeq (zFor e0 L) ?_
  unfold st22_law
  exact zRet xC
end Lw29

set_option maxRecDepth 100000 in
set_option maxHeartbeats 0 in
theorem PySem.Challenge.cw_nearswap_k29_obstacles_checked_holds : PySem.Challenge.rw_nearswap_k29_obstacles_checked.Holds := by
  w_on; o_law; k_head; (case hw => w_witness2)
  k_fill
  refine DL.walk_lawG (l := PySem.Challenge.rw_nearswap_k29_obstacles_checked) (k := 9) (m := Lw29.m_law) rfl rfl ⟨rfl, by decide, by decide⟩ (fun w h Y => PySem.W.kIn_of Y) ?F Lw29.law_ok
  case F =>
    intro w mg fa h KX G hmg
    refine' Lw29.walk_fact (Lw29.all_mk KX G hmg ?a_Network ?a__law_source ?l__law_source ?q__law_source ?k__law_source ?a__law_draw ?l__law_draw ?q__law_draw ?k__law_draw ?a__law_steps ?l__law_steps ?q__law_steps ?k__law_steps ?a__law_sets ?l__law_sets ?q__law_sets ?k__law_sets ?a__law_result ?l__law_result ?q__law_result ?k__law_result ?a__law_moves_in_front ?l__law_moves_in_front ?q__law_moves_in_front ?k__law_moves_in_front ?a__law_is_nowhere_greater ?l__law_is_nowhere_greater ?q__law_is_nowhere_greater ?k__law_is_nowhere_greater ?a__law_limit ?l__law_limit ?q__law_limit ?k__law_limit ?a_is_integer ?l_is_integer ?q_is_integer ?k_is_integer ?a_check_width ?l_check_width ?q_check_width ?k_check_width ?a_check_steps ?l_check_steps ?q_check_steps ?k_check_steps ?a_Network___init__ ?i_Network___init__ ?l_Network___init__ ?q_Network___init__ ?k_Network___init__ ?a__law_values ?l__law_values ?q__law_values ?k__law_values ?a__law_places ?l__law_places ?q__law_places ?k__law_places ?a__law_is_short ?l__law_is_short ?q__law_is_short ?k__law_is_short ?a__law_obstacles ?l__law_obstacles ?q__law_obstacles ?k__law_obstacles ?a__law_candidates ?l__law_candidates ?q__law_candidates ?k__law_candidates ?a_is_any_integer ?l_is_any_integer ?q_is_any_integer ?k_is_any_integer ?a_check_integers ?l_check_integers ?q_check_integers ?k_check_integers ?a_check_values ?l_check_values ?q_check_values ?k_check_values ?a_places_up_to ?l_places_up_to ?q_places_up_to ?k_places_up_to ?a_Network_backwards ?i_Network_backwards ?l_Network_backwards ?q_Network_backwards ?k_Network_backwards ?a_hardest ?l_hardest ?q_hardest ?k_hardest ?a_limits ?l_limits ?q_limits ?k_limits ?a_is_obstacle ?l_is_obstacle ?q_is_obstacle ?k_is_obstacle ?a_law ?l_law ?q_law ?k_law ?a_Network_steps ?ge_Network_steps ?ta_Network_steps ?rc_Network_steps ?l_Network_steps ?q_Network_steps ?k_Network_steps ?a_Network_width ?ge_Network_width ?ta_Network_width ?rc_Network_width ?l_Network_width ?q_Network_width ?k_Network_width ?pg_Network ?hd_Network ?po_Network ?sa_Network ?mk_Network ?kc_Network ?na_Network_own_steps ?na_Network_own_width ?rd_Network ?ga_Network ?cv_Network_MAX_STEPS ?cv_Network_MAX_WIDTH ?z_abs ?z_bool ?z_enumerate ?z_int ?z_isinstance ?z_len ?z_list ?z_max ?z_min ?z_range ?z_repr ?z_set ?z_sorted ?z_str ?z_sum ?z_tuple ?z_zip)
    (case a_Network => k_is)
    (case a__law_source => k_is)
    (case l__law_source => k_is)
    (case q__law_source => k_is)
    (case k__law_source => k_is)
    (case a__law_draw => k_is)
    (case l__law_draw => k_is)
    (case q__law_draw => k_is)
    (case k__law_draw => k_is)
    (case a__law_steps => k_is)
    (case l__law_steps => k_is)
    (case q__law_steps => k_is)
    (case k__law_steps => k_is)
    (case a__law_sets => k_is)
    (case l__law_sets => k_is)
    (case q__law_sets => k_is)
    (case k__law_sets => k_is)
    (case a__law_result => k_is)
    (case l__law_result => k_is)
    (case q__law_result => k_is)
    (case k__law_result => k_is)
    (case a__law_moves_in_front => k_is)
    (case l__law_moves_in_front => k_is)
    (case q__law_moves_in_front => k_is)
    (case k__law_moves_in_front => k_is)
    (case a__law_is_nowhere_greater => k_is)
    (case l__law_is_nowhere_greater => k_is)
    (case q__law_is_nowhere_greater => k_is)
    (case k__law_is_nowhere_greater => k_is)
    (case a__law_limit => k_is)
    (case l__law_limit => k_is)
    (case q__law_limit => k_is)
    (case k__law_limit => k_is)
    (case a_is_integer => k_is)
    (case l_is_integer => k_is)
    (case q_is_integer => k_is)
    (case k_is_integer => k_is)
    (case a_check_width => k_is)
    (case l_check_width => k_is)
    (case q_check_width => k_is)
    (case k_check_width => k_is)
    (case a_check_steps => k_is)
    (case l_check_steps => k_is)
    (case q_check_steps => k_is)
    (case k_check_steps => k_is)
    (case a_Network___init__ => k_is)
    (case i_Network___init__ => k_is)
    (case l_Network___init__ => k_is)
    (case q_Network___init__ => k_is)
    (case k_Network___init__ => k_is)
    (case a__law_values => k_is)
    (case l__law_values => k_is)
    (case q__law_values => k_is)
    (case k__law_values => k_is)
    (case a__law_places => k_is)
    (case l__law_places => k_is)
    (case q__law_places => k_is)
    (case k__law_places => k_is)
    (case a__law_is_short => k_is)
    (case l__law_is_short => k_is)
    (case q__law_is_short => k_is)
    (case k__law_is_short => k_is)
    (case a__law_obstacles => k_is)
    (case l__law_obstacles => k_is)
    (case q__law_obstacles => k_is)
    (case k__law_obstacles => k_is)
    (case a__law_candidates => k_is)
    (case l__law_candidates => k_is)
    (case q__law_candidates => k_is)
    (case k__law_candidates => k_is)
    (case a_is_any_integer => k_is)
    (case l_is_any_integer => k_is)
    (case q_is_any_integer => k_is)
    (case k_is_any_integer => k_is)
    (case a_check_integers => k_is)
    (case l_check_integers => k_is)
    (case q_check_integers => k_is)
    (case k_check_integers => k_is)
    (case a_check_values => k_is)
    (case l_check_values => k_is)
    (case q_check_values => k_is)
    (case k_check_values => k_is)
    (case a_places_up_to => k_is)
    (case l_places_up_to => k_is)
    (case q_places_up_to => k_is)
    (case k_places_up_to => k_is)
    (case a_Network_backwards => k_is)
    (case i_Network_backwards => k_is)
    (case l_Network_backwards => k_is)
    (case q_Network_backwards => k_is)
    (case k_Network_backwards => k_is)
    (case a_hardest => k_is)
    (case l_hardest => k_is)
    (case q_hardest => k_is)
    (case k_hardest => k_is)
    (case a_limits => k_is)
    (case l_limits => k_is)
    (case q_limits => k_is)
    (case k_limits => k_is)
    (case a_is_obstacle => k_is)
    (case l_is_obstacle => k_is)
    (case q_is_obstacle => k_is)
    (case k_is_obstacle => k_is)
    (case a_law => k_is)
    (case l_law => k_is)
    (case q_law => k_is)
    (case k_law => k_is)
    (case a_Network_steps => k_is)
    (case ge_Network_steps => k_is)
    (case ta_Network_steps => k_is)
    (case rc_Network_steps => k_is)
    (case l_Network_steps => k_is)
    (case q_Network_steps => k_is)
    (case k_Network_steps => k_is)
    (case a_Network_width => k_is)
    (case ge_Network_width => k_is)
    (case ta_Network_width => k_is)
    (case rc_Network_width => k_is)
    (case l_Network_width => k_is)
    (case q_Network_width => k_is)
    (case k_Network_width => k_is)
    (case pg_Network => k_is)
    (case hd_Network => k_is)
    (case po_Network => k_is)
    (case sa_Network => k_is)
    (case mk_Network => k_is)
    (case kc_Network => k_is)
    (case na_Network_own_steps => k_is)
    (case na_Network_own_width => k_is)
    (case rd_Network => k_is)
    (case ga_Network => k_is)
    (case cv_Network_MAX_STEPS => k_is)
    (case cv_Network_MAX_WIDTH => k_is)
    (case z_abs => k_is)
    (case z_bool => k_is)
    (case z_enumerate => k_is)
    (case z_int => k_is)
    (case z_isinstance => k_is)
    (case z_len => k_is)
    (case z_list => k_is)
    (case z_max => k_is)
    (case z_min => k_is)
    (case z_range => k_is)
    (case z_repr => k_is)
    (case z_set => k_is)
    (case z_sorted => k_is)
    (case z_str => k_is)
    (case z_sum => k_is)
    (case z_tuple => k_is)
    (case z_zip => k_is)
