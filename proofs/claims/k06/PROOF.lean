import PyProof.Rows.All
import Wide.All
import OpenK.AllK
import Wide.FinOn
import HandS.ForMost
import HandS.IsInst
import PyProof.EqLayable
import HandS.ForExc
import HandS.CallSlots
import HandS.Wide
import HandS.Iter
import HandS.Comp
import HandS.Conv
import HandS.Style
import HandS.Property
import HandS.ClsMeth
import PyProof.InstNe
import PyProof.InstSpecial
import KE.GoesMore
import HandS.SortInts
import HandS.Star
import HandS.TupAny
import HandS.TupMul
import HandS.CallLocal
import HandS.RaiseMore
import PyProof.ReprRoads
import KE.GoesEnum
import HandS.ExcInit
import HandS.TryMany
import HandS.ExcField
import KE.KExcIs
import HandS.Deep
import HandS.DictComp
import HandS.SetFor
import HandS.Strs
import KE.KUnpackStar
import KE.KUnpack
import HandS.FStr
import HandS.More
import HandS.TupSets
import KE.KEqNest
import PyProof.NeKinds
import KE.DataMinMax
import HandS.SortKw
import PyProof.Rows.TupDisplay
import PyProof.SumAny
import HandS.WordsDict
import HandS.Text
import HandS.StrMore
import HandS.Codes
import HandS.OwnEq
import PyProof.GenRules
import PyProof.GenQ
import HandS.GenYield
import HandS.GenList
import HandS.Defaults
import HandS.ListItems
import HandS.DictTup
import KE.KDictSum
import KE.KDictPairs
import PyProof.ReprNest
import KE.KSuper
import HandS.Nested
import PyProof.WalksMore
import HandS.HotCalls
import KE.KAsSuite
import PySem.Challenge.RW_nearswap_k06_errors_of_running
set_option Elab.async false
set_option linter.all false
set_option maxRecDepth 100000
/-! DL1: data, states, and the pure meanings of expressions and statements (own work: a data layer over HandS). -/
namespace DL
open PySem (Str)

/-- deep data; the Bool of a list, an instance, a dict: it is owned (nobody else has it) -/
inductive D where
  | non | bl (b : Bool) | int (i : Int) | str (x : Str)
  | lst (o : Bool) (xs : List D)
  | tup (xs : List D)
  | ins (o : Bool) (C : Nat) (fs : List (Str × D))
  | dic (o : Bool) (kvs : List (L2.Key × D))
  | dct (o : Bool) (kvs : List (List L2.Key × D))
  | scr (xs : List Int)
  | cls (C : Nat)
  | ty (n : String)
  | xc (C : Nat) (fs : List (Str × D))
  deriving Inhabited

/-- an exception: its class, its fields -/
structure Xc where
  C : Nat
  fs : List (Str × D)

abbrev Sl := List (Option D)

inductive Res (α : Type) where
  | ok (a : α) (st : Sl) | exc (x : Xc) (st : Sl) | fail

inductive SR where
  | next (st : Sl) | ret (d : D) (st : Sl) | brk (st : Sl) | cont (st : Sl) | exc (x : Xc) (st : Sl) | fail

inductive CR where
  | ok (d : D) (ps : Sl) | exc (x : Xc) (ps : Sl) | fail

abbrev ME := Sl → Res D
abbrev MA := Sl → Res (List D)
abbrev MT := Sl → Res Bool
abbrev MS := Sl → SR
abbrev MF := List D → CR
/-- an assignment's target -/
abbrev MG := D → Sl → Res Unit

mutual
def frz : D → D
  | .lst _ xs => .lst false (frzL xs)
  | .ins _ C fs => .ins false C (frzF fs)
  | .dic _ kvs => .dic false (frzK kvs)
  | .dct _ kvs => .dct false (frzT kvs)
  | .tup xs => .tup (frzL xs)
  | .non => .non
  | .bl b => .bl b
  | .int i => .int i
  | .str x => .str x
  | .scr xs => .scr xs
  | .cls C => .cls C
  | .ty n => .ty n
  | .xc C fs => .xc C fs
def frzL : List D → List D
  | [] => []
  | d :: ds => frz d :: frzL ds
def frzF : List (Str × D) → List (Str × D)
  | [] => []
  | (f, d) :: fs => (f, frz d) :: frzF fs
def frzK : List (L2.Key × D) → List (L2.Key × D)
  | [] => []
  | (f, d) :: fs => (f, frz d) :: frzK fs
def frzT : List (List L2.Key × D) → List (List L2.Key × D)
  | [] => []
  | (f, d) :: fs => (f, frz d) :: frzT fs
end

/-- owned at the top -/
def hot : D → Bool
  | .lst o _ => o
  | .ins o _ _ => o
  | .dic o _ => o
  | .dct o _ => o
  | _ => false

/-- what is read out of an owned thing must not be owned itself -/
def cold : D → Bool := fun d => !hot d

/-- the answer of an operation: a value without owned parts, a new list, a new tuple (of values without owned parts) -/
inductive Out where
  | val (d : D) | newL (ds : List D) | newT (ds : List D)
def Out.d : Out → D
  | .val d => d
  | .newL ds => .lst true ds
  | .newT ds => .tup ds

/-- an operand: any expression, or a slot that is only looked at (late) -/
inductive Opd where
  | v (m : ME) | s (i : Nat)

def Res.bind {α β : Type} (r : Res α) (k : α → Sl → Res β) : Res β :=
  match r with
  | .ok a st => k a st
  | .exc x st => .exc x st
  | .fail => .fail

def getS (st : Sl) (i : Nat) : Option D := (st[i]?).join

/-- operands from the left; k gets how their data is read at the end -/
def opds {β : Type} : List Opd → Sl → ((Sl → Option (List D)) → Sl → Res β) → Res β
  | [], st, k => k (fun _ => some []) st
  | .v m :: os, st, k => (m st).bind fun d st1 => opds os st1 fun gs st2 => k (fun s => (gs s).map (d :: ·)) st2
  | .s i :: os, st, k => if (getS st i).isSome then opds os st fun gs st2 => k (fun s => (getS s i).bind fun d => (gs s).map (d :: ·)) st2 else .fail

/-! ### expressions -/
def eC (d : D) : ME := fun st => .ok d st
/-- a name, its value handed on (frozen where it is owned) -/
def eN (i : Nat) : ME := fun st => match getS st i with
  | some d => if hot d then .ok (frz d) (st.set i (some (frz d))) else .ok d st
  | none => .fail
/-- a name for the last time -/
def eMv (i : Nat) : ME := fun st => match getS st i with
  | some d => .ok d (st.set i none)
  | none => .fail
/-- an operation that only looks at its operands -/
def eOp (f : List D → Option Out) (ks : List Opd) : ME := fun st => opds ks st fun gs st2 =>
  match (gs st2).bind f with
  | some o => .ok o.d st2
  | none => .fail
def eAnd (a b : ME) : ME := fun st => (a st).bind fun d st1 => match d with
  | .bl true => b st1
  | .bl false => .ok (.bl false) st1
  | _ => .fail
def eOr (a b : ME) : ME := fun st => (a st).bind fun d st1 => match d with
  | .bl true => .ok (.bl true) st1
  | .bl false => b st1
  | _ => .fail
def eNot (a : ME) : ME := fun st => (a st).bind fun d st1 => match d with
  | .bl b => .ok (.bl (!b)) st1
  | _ => .fail
def eIf (c : MT) (a b : ME) : ME := fun st => (c st).bind fun k st1 => if k then a st1 else b st1
/-- a op1 b op2 c -/
def eChain (f g : D → D → Option D) (a b c : ME) : ME := fun st => (a st).bind fun x st1 => (b st1).bind fun y st2 =>
  match f x y with
  | some (.bl true) => (c st2).bind fun z st3 => match g y z with
    | some r => .ok r st3
    | none => .fail
  | some (.bl false) => .ok (.bl false) st2
  | _ => .fail
/-- arguments whose values are handed over -/
def aNil : MA := fun st => .ok [] st
def aCons (m : ME) (ms : MA) : MA := fun st => (m st).bind fun d st1 => (ms st1).bind fun ds st2 => .ok (d :: ds) st2
/-- a list's display: its items may be owned -/
def eLst (ms : MA) : ME := fun st => (ms st).bind fun ds st1 => if ds.length ≤ 16777216 then .ok (.lst true ds) st1 else .fail
/-- a tuple's display: its items are frozen -/
def eTup (ms : MA) : ME := fun st => (ms st).bind fun ds st1 => if ds.length ≤ 16777216 then .ok (.tup (frzL ds)) st1 else .fail

/-! ### tests -/
def tE (m : ME) : MT := fun st => (m st).bind fun d st1 => match d with
  | .bl b => .ok b st1
  | _ => .fail
def tAndM (a b : MT) : MT := fun st => (a st).bind fun k st1 => if k then b st1 else .ok false st1
def tOrM (a b : MT) : MT := fun st => (a st).bind fun k st1 => if k then .ok true st1 else b st1
def tNotM (a : MT) : MT := fun st => (a st).bind fun k st1 => .ok (!k) st1

/-! ### calls of the text's defs -/
/-- a call; its arguments are handed over -/
def eCall (f : MF) (ms : MA) : ME := fun st => (ms st).bind fun ds st1 => match f ds with
  | .ok d _ => .ok d st1
  | .exc x _ => .exc x st1
  | .fail => .fail
/-- a call with a slot lent: ms the arguments ahead of it, ns behind it -/
def eCallL (f : MF) (ms : MA) (i : Nat) (ns : MA) : ME := fun st => (ms st).bind fun ds st1 => if (getS st1 i).isSome then (ns st1).bind fun es st2 =>
  (match getS st2 i with
  | some d => if hot d then (match f (ds ++ d :: es) with
      | .ok r ps => .ok r (st2.set i (getS ps ds.length))
      | .exc x ps => .exc x (st2.set i (getS ps ds.length))
      | .fail => .fail) else (match f (ds ++ d :: es) with
      | .ok r _ => .ok r st2
      | .exc x _ => .exc x st2
      | .fail => .fail)
  | none => .fail) else .fail

/-! ### statements -/
def Res.toS {α : Type} (r : Res α) (k : α → Sl → SR) : SR :=
  match r with
  | .ok a st => k a st
  | .exc x st => .exc x st
  | .fail => .fail
/-- a store's end: what a store raises is not followed -/
def Res.toN (r : Res Unit) (k : Sl → SR) : SR :=
  match r with
  | .ok _ st => k st
  | _ => .fail
def sNext : MS := fun st => .next st
def SR.thn (r : SR) (k : MS) : SR :=
  match r with
  | .next st => k st
  | r => r
def sSeq (a b : MS) : MS := fun st => (a st).thn b
def gN (i : Nat) : MG := fun d st => .ok () (st.set i (some d))
def sAsg (m : ME) (g : MG) : MS := fun st => (m st).toS fun d st1 => (g d st1).toN fun st2 => .next st2
def sExpr (m : ME) : MS := fun st => (m st).toS fun _ st1 => .next st1
def sRet (m : ME) : MS := fun st => (m st).toS fun d st1 => .ret d st1
def sRetN : MS := fun st => .ret .non st
def sIf (c : MT) (a b : MS) : MS := fun st => (c st).toS fun k st1 => if k then a st1 else b st1
def sBrk : MS := fun st => .brk st
def sCont : MS := fun st => .cont st
/-- a loop's turns -/
def forD (g : MG) (body : MS) : List D → Sl → SR
  | [], st => .next st
  | d :: ds, st => (g d st).toN fun st1 => match body st1 with
    | .next st2 => forD g body ds st2
    | .cont st2 => forD g body ds st2
    | .brk st2 => .next st2
    | r => r
/-! ### a def -/
/-- n parameters, w slots in all; L: the parameters that are never stored to -/
def keepL (L : List Nat) (n : Nat) (st : Sl) : Sl := (List.range n).map fun j => if j ∈ L then getS st j else none
def fn (n w : Nat) (L : List Nat) (body : MS) : MF := fun ds =>
  if ds.length = n then match body (ds.map some ++ List.replicate (w - n) none) with
    | .next st => .ok .non (keepL L n st)
    | .ret d st => .ok d (keepL L n st)
    | .exc x st => .exc x (keepL L n st)
    | _ => .fail
  else .fail
end DL

/-! DLO: the operations by data. -/
namespace DL
open PySem (Str)
/-- the items of a list or tuple that is read -/
def items : D → Option (List D)
  | .lst _ xs => some xs
  | .tup xs => some xs
  | .scr xs => some (xs.map .int)
  | _ => none
def colds (xs : List D) : Bool := xs.all cold
def newLc (xs : List D) : Option Out := if colds xs && decide (xs.length ≤ 16777216) then some (.newL xs) else none

def oAdd : List D → Option Out
  | [.int i, .int j] => some (.val (.int (i + j)))
  | [.lst _ xs, .lst _ ys] => newLc (xs ++ ys)
  | [.str x, .str y] => if x.length + y.length ≤ 16777216 then some (.val (.str (x ++ y))) else none
  | _ => none
def oSub : List D → Option Out
  | [.int i, .int j] => some (.val (.int (i - j)))
  | _ => none
def oMul : List D → Option Out
  | [.int i, .int j] => if (-(2 ^ 64) < i ∧ i < 2 ^ 64) ∨ (-(2 ^ 64) < j ∧ j < 2 ^ 64) then some (.val (.int (i * j))) else none
  | [.lst _ xs, .int k] => if colds xs && decide (-(2 ^ 63) ≤ k ∧ k < 2 ^ 63 ∧ xs.length * k.toNat ≤ 16777216) then some (.newL (List.replicate k.toNat xs).flatten) else none
  | _ => none
def oDiv : List D → Option Out
  | [.int i, .int j] => if 0 < j ∧ j.natAbs.log2 < 9000 then some (.val (.int (i / j))) else none
  | _ => none
def oMod : List D → Option Out
  | [.int i, .int j] => if 0 < j then some (.val (.int (i % j))) else none
  | _ => none
def oPow : List D → Option Out
  | [.int i, .int j] => if 0 ≤ j ∧ j ≤ 1000000 ∧ i.natAbs < 2 ^ 64 then some (.val (.int (i ^ j.toNat))) else none
  | _ => none
def oNeg : List D → Option Out
  | [.int i] => some (.val (.int (-i)))
  | _ => none
def pLt : D → D → Option D
  | .int i, .int j => some (.bl (decide (i < j)))
  | _, _ => none
def pLe : D → D → Option D
  | .int i, .int j => some (.bl (decide (i ≤ j)))
  | _, _ => none
def pGt : D → D → Option D
  | .int i, .int j => some (.bl (decide (j < i)))
  | _, _ => none
def pGe : D → D → Option D
  | .int i, .int j => some (.bl (decide (j ≤ i)))
  | _, _ => none
def o2 (p : D → D → Option D) : List D → Option Out
  | [x, y] => (p x y).map .val
  | _ => none

mutual
def toPy : D → PySem.PyData
  | .non => .none
  | .bl b => .bool b
  | .int i => .int i
  | .str x => .str x
  | .lst _ xs => .list (toPyL xs)
  | .tup xs => .tuple (toPyL xs)
  | .scr xs => .list (xs.map .int)
  | .ins _ _ _ => .dict []
  | .dic _ _ => .dict []
  | .dct _ _ => .dict []
  | .cls _ => .dict []
  | .ty _ => .dict []
  | .xc _ _ => .dict []
def toPyL : List D → List PySem.PyData
  | [] => []
  | d :: ds => toPy d :: toPyL ds
end
def pEq (x y : D) : Option D := if PySem.SeqAt.shaped (toPy x) && PySem.SeqAt.shaped (toPy y) then some (.bl (PySem.PyData.eqv (toPy x) (toPy y))) else none
def pNe (x y : D) : Option D := if PySem.SeqAt.shaped (toPy x) && PySem.SeqAt.shaped (toPy y) then some (.bl (!PySem.PyData.eqv (toPy x) (toPy y))) else none
def isN : D → Bool
  | .non => true
  | _ => false
def oIsN : List D → Option Out
  | [x, .non] => some (.val (.bl (isN x)))
  | _ => none
def oNotN : List D → Option Out
  | [x, .non] => some (.val (.bl (!isN x)))
  | _ => none
/-- flat data, for in -/
def flat : D → Bool
  | .non => true
  | .bl _ => true
  | .int _ => true
  | .str _ => true
  | _ => false
/-- xs[i] -/
def oIx : List D → Option Out
  | [x, .int i] => match items x with
    | some xs => match L2.atI xs i with
      | some d => if cold d then some (.val d) else none
      | none => none
    | none => none
  | _ => none
def oLen : List D → Option Out
  | [x] => (items x).map fun xs => .val (.int xs.length)
  | _ => none
def oAbs : List D → Option Out
  | [.int i] => some (.val (.int (if i < 0 then -i else i)))
  | _ => none
def oMax2 : List D → Option Out
  | [.int i, .int j] => some (.val (.int (if j > i then j else i)))
  | _ => none
def oMin2 : List D → Option Out
  | [.int i, .int j] => some (.val (.int (if j < i then j else i)))
  | _ => none
def oInt : List D → Option Out
  | [.int i] => some (.val (.int i))
  | [.bl b] => some (.val (.int (if b then 1 else 0)))
  | _ => none
def asInts : List D → Option (List Int)
  | [] => some []
  | .int i :: r => (asInts r).map (i :: ·)
  | _ => none
def lstItems : D → Option (List D)
  | .lst _ xs => some xs
  | .scr xs => some (xs.map .int)
  | _ => none
def oSum : List D → Option Out
  | [x] => ((lstItems x).bind asInts).map fun ns => .val (.int ns.sum)
  | _ => none
def oList : List D → Option Out
  | [x] => match items x with
    | some xs => newLc xs
    | none => none
  | _ => none
def oTuple : List D → Option Out
  | [.lst _ xs] => if colds xs && decide (xs.length ≤ 16777216) then some (.newT xs) else none
  | [.tup xs] => some (.val (.tup xs))
  | _ => none
/-- xs[lo:hi] of a list -/
def cutD (xs : List D) (lo hi : Option Int) : List D := (xs.drop (HT.sIx xs.length 0 lo)).take (HT.sIx xs.length xs.length hi - HT.sIx xs.length 0 lo)
def tyName : D → Option String
  | .non => some "NoneType"
  | .bl _ => some "bool"
  | .int _ => some "int"
  | .str _ => some "str"
  | .lst _ _ => some "list"
  | .scr _ => some "list"
  | .tup _ => some "tuple"
  | .dic _ _ => some "dict"
  | _ => none
end DL

/-! DL2: how data lie in the heap; the judgements. -/
namespace DL
open PySem L2

/-- all that was tracked is as it
    was -/
abbrev Ex (H H' : Hp) : Prop := ∀ a o, H a = some o → H' a = some o
/-- a region of addresses -/
abbrev Rg := Addr → Prop
abbrev Em : Rg := fun _ => False

theorem rd_ex {Hf Hf' : Hp} {a : Addr} {u : HO} (ef : Ex Hf Hf') (r : Rd Hf a u) : Rd Hf' a u := r.elim (fun e => .inl (ef _ _ e)) fun ⟨o, e⟩ => .inr ⟨o, ef _ _ e⟩
/-- a caught exception: its class, its dict -/
def XcO (a : Addr) (cls : Value) (d : Option Addr) : HO := .ext fun h => ∃ (o : Obj) (vs : Array Value), h.get? a = some o ∧ Zc cls d o ∧ o.data = .fields vs
section
variable (ca : Nat → Addr) (K : PySem.W.Frag)
mutual
/-- v is the datum d; what of it is owned lies in the region S -/
inductive Rep (Hf H : Hp) : Rg → V → D → Prop where
  | non {S} : Rep Hf H S .non .non
  | bl {S b} : Rep Hf H S (.bl b) (.bl b)
  | int {S i} : Rep Hf H S (.int i) (.int i)
  | str {S x} : Rep Hf H S (.str x) (.str x)
  | scr {S a xs} : SqL K Hf a (xs.map V.int) → Rep Hf H S (.ref a) (.scr xs)
  | cls {S C} : Rep Hf H S (.ref (ca C)) (.cls C)
  | ty {S n} : Rep Hf H S (.ty n) (.ty n)
  | lstF {S a vs ds} : Hf a = some (.lst vs) → RepL Hf H Em vs ds → Rep Hf H S (.ref a) (.lst false ds)
  | lstO {S a vs ds} : S a → H a = some (.lst vs) → RepL Hf H (fun b => S b ∧ b ≠ a) vs ds → Rep Hf H S (.ref a) (.lst true ds)
  | tup {S a vs ds} : Hf a = some (.tup vs) → RepL Hf H Em vs ds → Rep Hf H S (.ref a) (.tup ds)
  | insF {S a C dx fs gs} : Hf a = some (.ins (ca C) dx fs) → fs.map (·.1) = gs.map (·.1) → RepL Hf H Em (fs.map (·.2)) (gs.map (·.2)) → Rep Hf H S (.ref a) (.ins false C gs)
  | insO {S a C dx fs gs} : S a → H a = some (.ins (ca C) dx fs) → fs.map (·.1) = gs.map (·.1) → RepL Hf H (fun b => S b ∧ b ≠ a) (fs.map (·.2)) (gs.map (·.2)) → Rep Hf H S (.ref a) (.ins true C gs)
  | dicF {S a kvs ds} : Hf a = some (.dK kvs) → kvs.map (·.1) = ds.map (·.1) → RepL Hf H Em (kvs.map (·.2)) (ds.map (·.2)) → Rep Hf H S (.ref a) (.dic false ds)
  | dicO {S a kvs ds} : S a → H a = some (.dK kvs) → kvs.map (·.1) = ds.map (·.1) → RepL Hf H (fun b => S b ∧ b ≠ a) (kvs.map (·.2)) (ds.map (·.2)) → Rep Hf H S (.ref a) (.dic true ds)
  | dctF {S a kvs ds} : Rd Hf a (.dT kvs) → kvs.map (·.1) = ds.map (·.1) → RepL Hf H Em (kvs.map (·.2)) (ds.map (·.2)) → Rep Hf H S (.ref a) (.dct false ds)
  | dctO {S a kvs ds} : S a → H a = some (.dT kvs) → kvs.map (·.1) = ds.map (·.1) → RepL Hf H (fun b => S b ∧ b ≠ a) (kvs.map (·.2)) (ds.map (·.2)) → Rep Hf H S (.ref a) (.dct true ds)
  | xc {S a dd C fs gs} : Hf a = some (XcO a (.ref (ca C)) (some dd)) → Hf dd = some (.xd fs) → fs.map (·.1) = gs.map (·.1) → RepL Hf H Em (fs.map (·.2)) (gs.map (·.2)) → Rep Hf H S (.ref a) (.xc C gs)
inductive RepL (Hf H : Hp) : Rg → List V → List D → Prop where
  | nil {S} : RepL Hf H S [] []
  | cons {S S1 S2 v d vs ds} : Rep Hf H S1 v d → RepL Hf H S2 vs ds → (∀ b, S1 b → S b) → (∀ b, S2 b → S b) → (∀ b, S1 b → S2 b → False) → RepL Hf H S (v :: vs) (d :: ds)
end
end

section
variable {ca : Nat → Addr} {K : PySem.W.Frag} {Hf H Hf' H' : Hp} {S S' : Rg} {v : V} {d : D} {vs : List V} {ds : List D}

theorem RepL.mono (r : RepL ca K Hf H S vs ds) (h : ∀ b, S b → S' b) : RepL ca K Hf H S' vs ds := by
  cases r with
  | nil => exact .nil
  | cons r1 r2 h1 h2 h3 => exact .cons r1 r2 (fun b q => h b (h1 b q)) (fun b q => h b (h2 b q)) h3
theorem Rep.mono (r : Rep ca K Hf H S v d) (h : ∀ b, S b → S' b) : Rep ca K Hf H S' v d := by
  cases r with
  | non => exact .non
  | bl => exact .bl
  | int => exact .int
  | str => exact .str
  | scr h => exact .scr h
  | cls => exact .cls
  | ty => exact .ty
  | lstF e r => exact .lstF e r
  | lstO s e r => exact .lstO (h _ s) e (r.mono fun b q => ⟨h b q.1, q.2⟩)
  | tup e r => exact .tup e r
  | insF e k r => exact .insF e k r
  | insO s e k r => exact .insO (h _ s) e k (r.mono fun b q => ⟨h b q.1, q.2⟩)
  | dicF e k r => exact .dicF e k r
  | dicO s e k r => exact .dicO (h _ s) e k (r.mono fun b q => ⟨h b q.1, q.2⟩)
  | dctF e k r => exact .dctF e k r
  | dctO s e k r => exact .dctO (h _ s) e k (r.mono fun b q => ⟨h b q.1, q.2⟩)
  | xc e e2 k r => exact .xc e e2 k r
/-- what is not owned lies nowhere -/
theorem Rep.cold (r : Rep ca K Hf H S v d) (h : hot d = false) : Rep ca K Hf H S' v d := by
  cases r with
  | non => exact .non
  | bl => exact .bl
  | int => exact .int
  | str => exact .str
  | scr h' => exact .scr h'
  | cls => exact .cls
  | ty => exact .ty
  | lstF e r => exact .lstF e r
  | lstO s e r => exact absurd h (by simp [hot])
  | tup e r => exact .tup e r
  | insF e k r => exact .insF e k r
  | insO s e k r => exact absurd h (by simp [hot])
  | dicF e k r => exact .dicF e k r
  | dicO s e k r => exact absurd h (by simp [hot])
  | dctF e k r => exact .dctF e k r
  | dctO s e k r => exact absurd h (by simp [hot])
  | xc e e2 k r => exact .xc e e2 k r

mutual
theorem Rep.keep (ef : Ex Hf Hf') : ∀ {S : Rg} {v : V} {d : D}, Rep ca K Hf H S v d → (∀ b, S b → ∀ o, H b = some o → H' b = some o) → Rep ca K Hf' H' S v d
  | _, _, _, .non, _ => .non
  | _, _, _, .bl, _ => .bl
  | _, _, _, .int, _ => .int
  | _, _, _, .str, _ => .str
  | _, _, _, .scr h, _ => .scr (by
      rcases h with h | h
      · refine Or.inl ?_
        rcases h with h | ⟨o, h⟩
        · exact Or.inl (ef _ _ h)
        · exact Or.inr ⟨o, ef _ _ h⟩
      · exact Or.inr h)
  | _, _, _, .cls, _ => .cls
  | _, _, _, .ty, _ => .ty
  | _, _, _, .lstF e r, _ => .lstF (ef _ _ e) (RepL.keep ef r fun _ q => q.elim)
  | _, _, _, .lstO s e r, k => .lstO s (k _ s _ e) (RepL.keep ef r fun b q => k b q.1)
  | _, _, _, .tup e r, _ => .tup (ef _ _ e) (RepL.keep ef r fun _ q => q.elim)
  | _, _, _, .insF e kk r, _ => .insF (ef _ _ e) kk (RepL.keep ef r fun _ q => q.elim)
  | _, _, _, .insO s e kk r, k => .insO s (k _ s _ e) kk (RepL.keep ef r fun b q => k b q.1)
  | _, _, _, .dicF e kk r, _ => .dicF (ef _ _ e) kk (RepL.keep ef r fun _ q => q.elim)
  | _, _, _, .dicO s e kk r, k => .dicO s (k _ s _ e) kk (RepL.keep ef r fun b q => k b q.1)
  | _, _, _, .dctF e kk r, _ => .dctF (rd_ex ef e) kk (RepL.keep ef r fun _ q => q.elim)
  | _, _, _, .dctO s e kk r, k => .dctO s (k _ s _ e) kk (RepL.keep ef r fun b q => k b q.1)
  | _, _, _, .xc e e2 kk r, _ => .xc (ef _ _ e) (ef _ _ e2) kk (RepL.keep ef r fun _ q => q.elim)
theorem RepL.keep (ef : Ex Hf Hf') : ∀ {S : Rg} {vs : List V} {ds : List D}, RepL ca K Hf H S vs ds → (∀ b, S b → ∀ o, H b = some o → H' b = some o) → RepL ca K Hf' H' S vs ds
  | _, _, _, .nil, _ => .nil
  | _, _, _, .cons r1 r2 h1 h2 h3, k => .cons (Rep.keep ef r1 fun b q => k b (h1 b q)) (RepL.keep ef r2 fun b q => k b (h2 b q)) h1 h2 h3
end

theorem frzF_keys : ∀ gs : List (Str × D), (frzF gs).map (·.1) = gs.map (·.1)
  | [] => rfl
  | (f, d) :: r => by simp [frzF, frzF_keys r]
theorem frzK_keys : ∀ gs : List (Key × D), (frzK gs).map (·.1) = gs.map (·.1)
  | [] => rfl
  | (f, d) :: r => by simp [frzK, frzK_keys r]
theorem frzF_vals : ∀ gs : List (Str × D), (frzF gs).map (·.2) = frzL (gs.map (·.2))
  | [] => rfl
  | (f, d) :: r => by simp [frzF, frzL, frzF_vals r]
theorem frzK_vals : ∀ gs : List (Key × D), (frzK gs).map (·.2) = frzL (gs.map (·.2))
  | [] => rfl
  | (f, d) :: r => by simp [frzK, frzL, frzK_vals r]
theorem frzT_keys : ∀ gs : List (List Key × D), (frzT gs).map (·.1) = gs.map (·.1)
  | [] => rfl
  | (f, d) :: r => by simp [frzT, frzT_keys r]
theorem frzT_vals : ∀ gs : List (List Key × D), (frzT gs).map (·.2) = frzL (gs.map (·.2))
  | [] => rfl
  | (f, d) :: r => by simp [frzT, frzL, frzT_vals r]
theorem frzL_length : ∀ ds : List D, (frzL ds).length = ds.length
  | [] => rfl
  | d :: r => by simp [frzL, frzL_length r]

mutual
/-- the owned parts are let stand: Hf' holds them from now on -/
theorem Rep.frz (ef : Ex Hf Hf') : ∀ {S S' : Rg} {v : V} {d : D}, Rep ca K Hf H S v d → (∀ b, S b → ∀ o, H b = some o → Hf' b = some o) → Rep ca K Hf' H' S' v (DL.frz d)
  | _, _, _, _, .non, _ => by rw [DL.frz]; exact .non
  | _, _, _, _, .bl, _ => by rw [DL.frz]; exact .bl
  | _, _, _, _, .int, _ => by rw [DL.frz]; exact .int
  | _, _, _, _, .str, _ => by rw [DL.frz]; exact .str
  | _, _, _, _, .scr h, _ => by
      rw [DL.frz]
      refine .scr ?_
      rcases h with h | h
      · refine Or.inl ?_
        rcases h with h | ⟨o, h⟩
        · exact Or.inl (ef _ _ h)
        · exact Or.inr ⟨o, ef _ _ h⟩
      · exact Or.inr h
  | _, _, _, _, .cls, _ => by rw [DL.frz]; exact .cls
  | _, _, _, _, .ty, _ => by rw [DL.frz]; exact .ty
  | _, _, _, _, .lstF e r, _ => by rw [DL.frz]; exact .lstF (ef _ _ e) (RepL.frz ef r fun _ q => q.elim)
  | _, _, _, _, .lstO s e r, k => by rw [DL.frz]; exact .lstF (k _ s _ e) (RepL.frz ef r fun b q => k b q.1)
  | _, _, _, _, .tup e r, _ => by rw [DL.frz]; exact .tup (ef _ _ e) (RepL.frz ef r fun _ q => q.elim)
  | _, _, _, _, .insF e kk r, _ => by
      rw [DL.frz]
      exact .insF (ef _ _ e) (kk.trans (frzF_keys _).symm) (by rw [frzF_vals]; exact RepL.frz ef r fun _ q => q.elim)
  | _, _, _, _, .insO s e kk r, k => by
      rw [DL.frz]
      exact .insF (k _ s _ e) (kk.trans (frzF_keys _).symm) (by rw [frzF_vals]; exact RepL.frz ef r fun b q => k b q.1)
  | _, _, _, _, .dicF e kk r, _ => by
      rw [DL.frz]
      exact .dicF (ef _ _ e) (kk.trans (frzK_keys _).symm) (by rw [frzK_vals]; exact RepL.frz ef r fun _ q => q.elim)
  | _, _, _, _, .dicO s e kk r, k => by
      rw [DL.frz]
      exact .dicF (k _ s _ e) (kk.trans (frzK_keys _).symm) (by rw [frzK_vals]; exact RepL.frz ef r fun b q => k b q.1)
  | _, _, _, _, .dctF e kk r, _ => by
      rw [DL.frz]
      exact .dctF (rd_ex ef e) (kk.trans (frzT_keys _).symm) (by rw [frzT_vals]; exact RepL.frz ef r fun _ q => q.elim)
  | _, _, _, _, .dctO s e kk r, k => by
      rw [DL.frz]
      exact .dctF (.inl (k _ s _ e)) (kk.trans (frzT_keys _).symm) (by rw [frzT_vals]; exact RepL.frz ef r fun b q => k b q.1)
  | _, _, _, _, .xc e e2 kk r, _ => by
      rw [DL.frz]
      exact .xc (ef _ _ e) (ef _ _ e2) kk (RepL.keep ef r fun _ q => q.elim)
theorem RepL.frz (ef : Ex Hf Hf') : ∀ {S S' : Rg} {vs : List V} {ds : List D}, RepL ca K Hf H S vs ds → (∀ b, S b → ∀ o, H b = some o → Hf' b = some o) → RepL ca K Hf' H' S' vs (frzL ds)
  | _, _, _, _, .nil, _ => by rw [frzL]; exact .nil
  | _, _, _, _, .cons r1 r2 h1 h2 h3, k => by
      rw [frzL]
      exact .cons (S1 := Em) (S2 := Em) (Rep.frz ef r1 fun b q => k b (h1 b q)) (RepL.frz ef r2 fun b q => k b (h2 b q)) (fun _ q => q.elim) (fun _ q => q.elim) (fun _ q => q.elim)
end
theorem RepL.length : ∀ {S : Rg} {vs : List V} {ds : List D}, RepL ca K Hf H S vs ds → vs.length = ds.length
  | _, _, _, .nil => rfl
  | _, _, _, .cons _ r _ _ _ => by simp [RepL.length r]
theorem RepL.one (r : Rep ca K Hf H S v d) : RepL ca K Hf H S [v] [d] := .cons r (S2 := Em) .nil (fun _ q => q) (fun _ q => q.elim) (fun _ _ q => q)
end

/-! ### the state -/
/-- every tuple that is tracked stands -/
def TpH (Hf H : Hp) : Prop := ∀ b xs, H b = some (.tup xs) → Hf b = some (.tup xs)
/-- tracked, not let stand -/
structure Wl (Hf H : Hp) (S : Rg) : Prop where
  ex : Ex Hf H
  dm : ∀ b, S b → ∃ o, H b = some o
  nf : ∀ b, S b → Hf b = none
  tp : TpH Hf H
theorem TpH.em : TpH (fun _ => none) (fun _ => none) := fun _ _ e => by cases e
/-- no tuple is laid -/
theorem TpH.upd {Hf H : Hp} {a : Addr} {o : HO} (t : TpH Hf H) (h : ∀ xs, o ≠ .tup xs) : TpH Hf (L2.upd H a o) := fun b xs e => by
  by_cases z : b = a
  · subst z; rw [upd_same] at e; cases e; exact (h _ rfl).elim
  · rw [upd_ne z] at e; exact t b xs e
/-- laid and let stand -/
theorem TpH.upd2 {Hf H : Hp} {a : Addr} {o : HO} (t : TpH Hf H) : TpH (L2.upd Hf a o) (L2.upd H a o) := fun b xs e => by
  by_cases z : b = a
  · subst z; rw [upd_same] at e ⊢; exact e
  · rw [upd_ne z] at e ⊢; exact t b xs e
/-- more is let stand -/
theorem TpH.more {Hf Hf' H : Hp} (t : TpH Hf H) (h : Ex Hf Hf') : TpH Hf' H := fun b xs e => h _ _ (t b xs e)
theorem Wl.mono {Hf H : Hp} {S S' : Rg} (w : Wl Hf H S) (h : ∀ b, S' b → S b) : Wl Hf H S' := ⟨w.ex, fun b q => w.dm b (h b q), fun b q => w.nf b (h b q), w.tp⟩

/-- all slots' regions -/
abbrev tot (R : Nat → Rg) : Rg := fun b => ∃ i, R i b
abbrev jn (P : Rg) (R : Nat → Rg) : Rg := fun b => P b ∨ tot R b

/-- the slots hold the data; a pending thing (pp) lies in P -/
structure PR (ca : Nat → Addr) (K : PySem.W.Frag) (Hf H : Hp) (P : Rg) (pp : Prop) (R : Nat → Rg) (σ : L2.St) (st : Sl) : Prop where
  pend : pp
  len : st.length = σ.length
  at_ : ∀ i d, getS st i = some d → ∃ v, σ[i]? = some (some v) ∧ Rep ca K Hf H (R i) v d
  dj : ∀ i j b, R i b → R j b → i = j
  dp : ∀ i b, P b → R i b → False
  w : Wl Hf H (jn P R)

/-- what a step may do: S the region it had, S' the region it leaves -/
structure Tr (S : Rg) (Hf H : Hp) (S' : Rg) (Hf' H' : Hp) : Prop where
  fx : Ex Hf Hf'
  keep : ∀ b o, H b = some o → ¬ S b → H' b = some o
  nw : ∀ b, S' b → S b ∨ H b = none
  fz : ∀ b o, Hf' b = some o → Hf b = some o ∨ S b ∨ H b = none

section
variable {ca : Nat → Addr} {K : PySem.W.Frag} {Hf H Hf1 H1 Hf2 H2 : Hp} {S S1 S2 P : Rg} {R R1 R2 : Nat → Rg} {pp qq : Prop} {σ : L2.St} {st : Sl} {v : V} {d : D}
theorem Tr.refl (h : ∀ b, S1 b → S b) : Tr S Hf H S1 Hf H := ⟨fun _ _ e => e, fun _ _ e _ => e, fun b q => .inl (h b q), fun _ _ e => .inl e⟩
theorem Tr.trans (a : Tr S Hf H S1 Hf1 H1) (b : Tr S1 Hf1 H1 S2 Hf2 H2) : Tr S Hf H S2 Hf2 H2 where
  fx := fun x o e => b.fx x o (a.fx x o e)
  keep := fun x o e n => b.keep x o (a.keep x o e n) fun q => by
    rcases a.nw x q with q | q
    · exact n q
    · rw [e] at q; cases q
  nw := fun x q => by
    rcases b.nw x q with q | q
    · exact a.nw x q
    · cases e : H x with
      | none => exact .inr rfl
      | some o =>
        refine .inl (Classical.byContradiction fun n => ?_)
        rw [a.keep x o e n] at q; cases q
  fz := fun x o q => by
    rcases b.fz x o q with q | q | q
    · exact a.fz x o q
    · rcases a.nw x q with q | q
      · exact .inr (.inl q)
      · exact .inr (.inr q)
    · cases e : H x with
      | none => exact .inr (.inr rfl)
      | some o =>
        refine .inr (.inl (Classical.byContradiction fun n => ?_))
        rw [a.keep x o e n] at q; cases q
/-- a smaller region behind -/
theorem Tr.less (a : Tr S Hf H S1 Hf1 H1) (h : ∀ b, S2 b → S1 b) : Tr S Hf H S2 Hf1 H1 := ⟨a.fx, a.keep, fun b q => a.nw b (h b q), a.fz⟩
theorem Tr.more (a : Tr S Hf H S1 Hf1 H1) (h : ∀ b, S b → S2 b) : Tr S2 Hf H S1 Hf1 H1 :=
  ⟨a.fx, fun b o e n => a.keep b o e fun q => n (h b q), fun b q => (a.nw b q).imp_left (h b), fun b o q => (a.fz b o q).imp_right fun q => q.imp_left (h b)⟩
/-- what lies beside the region stays -/
theorem Tr.beside (a : Tr S Hf H S1 Hf1 H1) (w1 : Wl Hf H P) (dj : ∀ b, P b → S b → False) : (∀ b, P b → ∀ o, H b = some o → H1 b = some o) ∧ (∀ b, P b → S1 b → False) ∧ (∀ b, P b → (∃ o, H1 b = some o) ∧ Hf1 b = none) := by
  refine ⟨fun b q o e => a.keep b o e (dj b q), fun b q r => ?_, fun b q => ⟨?_, ?_⟩⟩
  · rcases a.nw b r with r | r
    · exact dj b q r
    · obtain ⟨o, e⟩ := w1.dm b q
      rw [e] at r; cases r
  · obtain ⟨o, e⟩ := w1.dm b q
    exact ⟨o, a.keep b o e (dj b q)⟩
  · cases e : Hf1 b with
    | none => rfl
    | some o =>
      rcases a.fz b o e with r | r | r
      · rw [w1.nf b q] at r; cases r
      · exact (dj b q r).elim
      · obtain ⟨o, e⟩ := w1.dm b q
        rw [e] at r; cases r
/-- with what lies beside, the step is one of the whole -/
theorem Tr.with (a : Tr S Hf H S1 Hf1 H1) (P : Rg) : Tr (fun b => P b ∨ S b) Hf H (fun b => P b ∨ S1 b) Hf1 H1 :=
  ⟨a.fx, fun b o e n => a.keep b o e fun q => n (.inr q), fun b q => by
    rcases q with q | q
    · exact .inl (.inl q)
    · exact (a.nw b q).imp_left .inr, fun b o q => (a.fz b o q).imp_right fun q => q.imp_left .inr⟩
theorem mkTp {Hf H : Hp} (h : TpH Hf H := by (repeat (first | refine TpH.upd2 ?_ | refine TpH.upd ?_ (by intro _ z; cases z))); first | assumption | exact Wl.tp (by assumption) | exact Wl.tp (PR.w (by assumption)) | exact TpH.more (Wl.tp (by assumption)) (by assumption) | exact TpH.more (Wl.tp (PR.w (by assumption))) (by assumption)) : TpH Hf H := h
theorem PR.drop (p : PR ca K Hf H P pp R σ st) : PR ca K Hf H Em True R σ st :=
  ⟨trivial, p.len, p.at_, p.dj, fun _ _ q => q.elim, p.w.mono fun b q => q.elim (fun q => q.elim) .inr⟩
theorem PR.imp (p : PR ca K Hf H P pp R σ st) (h : pp → qq) : PR ca K Hf H P qq R σ st := ⟨h p.pend, p.len, p.at_, p.dj, p.dp, p.w⟩
/-- the pending thing's region may be taken smaller -/
theorem PR.toP {P' : Rg} (p : PR ca K Hf H P pp R σ st) (h : ∀ b, P' b → P b) (q : qq) : PR ca K Hf H P' qq R σ st :=
  ⟨q, p.len, p.at_, p.dj, fun i b x y => p.dp i b (h b x) y, p.w.mono fun b q => q.imp_left (h b)⟩
theorem PR.put (p : PR ca K Hf H Em True R σ st) (q : Rep ca K Hf H Em v d) : PR ca K Hf H Em (Rep ca K Hf H Em v d) R σ st := p.toP (fun _ q => q) q
end

/-! ### the judgements -/
/-- the exception's wish in any context: what it wants is exactly so -/
def wX (X : Cx) : WX := fun cls d σ H => ∀ u s', XE X (fun c' d' σ' H' => c' = cls ∧ d' = d ∧ σ' = σ ∧ H' = H) u s' → X.xe u s'
theorem takes_wX (X : Cx) : Takes X (wX X) := fun u s' ⟨a, B, sI, pins, σ, H, cls, d, h1, h2, h3, h4, h5, h6, h7, h8, h9⟩ =>
  h9 u s' ⟨a, B, sI, pins, σ, H, cls, d, h1, h2, h3, h4, h5, h6, h7, h8, rfl, rfl, rfl, rfl⟩
theorem wX_of {X : Cx} {W : WX} (t : Takes X W) {cls : Value} {d : Option Addr} {σ : L2.St} {H : Hp} (w : W cls d σ H) : wX X cls d σ H := fun u s' ⟨a, B, sI, pins, σ1, H1, cls1, d1, h1, h2, h3, h4, h5, h6, h7, h8, e1, e2, e3, e4⟩ => by
  subst e1; subst e2; subst e3; subst e4
  exact t u s' ⟨a, B, sI, pins, _, _, _, _, h1, h2, h3, h4, h5, h6, h7, h8, w⟩

structure We (X : Cx) (e : Expr) (σ : L2.St) (H : Hp) (Q : VK) : Prop where
  run : ∀ (pins : List (Addr × Obj)) (s : Shared), Inv X pins σ H s → wpAny (model X.prog X.w) X.A (eval e X.env) (EP X pins σ Q) X.xe s
structure Wt (X : Cx) (e : Expr) (σ : L2.St) (H : Hp) (Q : Bool → Hp → Prop) : Prop where
  run : ∀ (pins : List (Addr × Obj)) (s : Shared), Inv X pins σ H s → wpAny (model X.prog X.w) X.A (isTrue e X.env (eval e X.env)) (TP X pins σ Q) X.xe s
structure Wa (X : Cx) (es : List Expr) (σ : L2.St) (H : Hp) (Q : List V → Hp → Prop) : Prop where
  run : ∀ (pos : Pos) (pins : List (Addr × Obj)) (s : Shared), Inv X pins σ H s → wpAny (model X.prog X.w) X.A (spliced (backTo pos (starEach es X.env))) (AP X pins σ Q) X.xe s
structure Ws (X : Cx) (st : Stmt) (D : Ends) (σ : L2.St) (H : Hp) : Prop where
  run : ∀ (pins : List (Addr × Obj)) (s : Shared), Inv X pins σ H s → wpAny (model X.prog X.w) X.A (exec st X.env) (SP X pins D) X.xe s
structure Wss (X : Cx) (st : List Stmt) (D : Ends) (σ : L2.St) (H : Hp) : Prop where
  run : ∀ (pins : List (Addr × Obj)) (s : Shared), Inv X pins σ H s → wpAny (model X.prog X.w) X.A (execs st X.env) (SP X pins D) X.xe s
instance {X : Cx} {e : Expr} {σ : L2.St} {H : Hp} {Q : VK} : CoeFun (We X e σ H Q) (fun _ => ∀ (pins : List (Addr × Obj)) (s : Shared), Inv X pins σ H s → wpAny (model X.prog X.w) X.A (eval e X.env) (EP X pins σ Q) X.xe s) := ⟨We.run⟩
instance {X : Cx} {e : Expr} {σ : L2.St} {H : Hp} {Q : Bool → Hp → Prop} : CoeFun (Wt X e σ H Q) (fun _ => ∀ (pins : List (Addr × Obj)) (s : Shared), Inv X pins σ H s → wpAny (model X.prog X.w) X.A (isTrue e X.env (eval e X.env)) (TP X pins σ Q) X.xe s) := ⟨Wt.run⟩
instance {X : Cx} {es : List Expr} {σ : L2.St} {H : Hp} {Q : List V → Hp → Prop} : CoeFun (Wa X es σ H Q) (fun _ => ∀ (pos : Pos) (pins : List (Addr × Obj)) (s : Shared), Inv X pins σ H s → wpAny (model X.prog X.w) X.A (spliced (backTo pos (starEach es X.env))) (AP X pins σ Q) X.xe s) := ⟨Wa.run⟩
instance {X : Cx} {st : Stmt} {D : Ends} {σ : L2.St} {H : Hp} : CoeFun (Ws X st D σ H) (fun _ => ∀ (pins : List (Addr × Obj)) (s : Shared), Inv X pins σ H s → wpAny (model X.prog X.w) X.A (exec st X.env) (SP X pins D) X.xe s) := ⟨Ws.run⟩
instance {X : Cx} {st : List Stmt} {D : Ends} {σ : L2.St} {H : Hp} : CoeFun (Wss X st D σ H) (fun _ => ∀ (pins : List (Addr × Obj)) (s : Shared), Inv X pins σ H s → wpAny (model X.prog X.w) X.A (execs st X.env) (SP X pins D) X.xe s) := ⟨Wss.run⟩
theorem we_pe (X : Cx) (e : Expr) : PE X e (We X e) := ⟨fun pins s _ _ _ I h => h pins s I⟩
theorem we_of {X : Cx} {e : Expr} {t : TE} (p : PE X e t) {σ : L2.St} {H : Hp} {Q : VK} (h : t σ H Q) : We X e σ H Q := ⟨fun pins s I => p.run pins s σ H Q I h⟩
theorem wt_pt (X : Cx) (e : Expr) : PT X e (Wt X e) := ⟨fun pins s _ _ _ I h => h pins s I⟩
theorem wt_of {X : Cx} {e : Expr} {t : TT} (p : PT X e t) {σ : L2.St} {H : Hp} {Q : Bool → Hp → Prop} (h : t σ H Q) : Wt X e σ H Q := ⟨fun pins s I => p.run pins s σ H Q I h⟩
theorem wa_pa (X : Cx) (es : List Expr) : PA X es (Wa X es) := ⟨fun pos pins s _ _ _ I h => h pos pins s I⟩
theorem wa_of {X : Cx} {es : List Expr} {t : TA} (p : PA X es t) {σ : L2.St} {H : Hp} {Q : List V → Hp → Prop} (h : t σ H Q) : Wa X es σ H Q := ⟨fun pos pins s I => p.run pos pins s σ H Q I h⟩
theorem ws_ps (X : Cx) (st : Stmt) : PS X st (Ws X st) := ⟨fun pins s _ _ _ I h => h pins s I⟩
theorem ws_of {X : Cx} {st : Stmt} {t : TS} (p : PS X st t) {D : Ends} {σ : L2.St} {H : Hp} (h : t D σ H) : Ws X st D σ H := ⟨fun pins s I => p.run pins s σ H D I h⟩
theorem wss_pss (X : Cx) (st : List Stmt) : PSs X st (Wss X st) := ⟨fun pins s _ _ _ I h => h pins s I⟩
theorem wss_of {X : Cx} {st : List Stmt} {t : TS} (p : PSs X st t) {D : Ends} {σ : L2.St} {H : Hp} (h : t D σ H) : Wss X st D σ H := ⟨fun pins s I => p.run pins s σ H D I h⟩

/-- an exception's own dict holds the fields -/
def XcR (ca : Nat → Addr) (K : PySem.W.Frag) (Hf H : Hp) (cls : Value) (dd : Option Addr) (x : Xc) : Prop :=
  cls = .ref (ca x.C) ∧ ∃ (a : Addr) (fs : List (Str × V)), dd = some a ∧ H a = some (.xd fs) ∧ Hf a = some (.xd fs) ∧ fs.map (·.1) = x.fs.map (·.1) ∧ RepL ca K Hf H Em (fs.map (·.2)) (x.fs.map (·.2))

section
variable (ca : Nat → Addr) (X : Cx)
/-- what is wanted of a step's answer, a value: R the slots' regions ahead -/
def Post (Hf H : Hp) (S : Rg) (σ : L2.St) (r : Res D) (Q : VK) : Prop :=
  match r with
  | .ok d st => ∀ Hf' H' P R' v, Tr S Hf H (jn P R') Hf' H' → PR ca X.K Hf' H' P (Rep ca X.K Hf' H' P v d) R' σ st → Q v H'
  | .exc x st => ∀ Hf' H' R' cls dd, Tr S Hf H (jn Em R') Hf' H' → PR ca X.K Hf' H' Em (XcR ca X.K Hf' H' cls dd x) R' σ st → wX X cls dd σ H'
  | .fail => False
def PostL (Hf H : Hp) (S : Rg) (σ : L2.St) (r : Res (List D)) (Q : List V → Hp → Prop) : Prop :=
  match r with
  | .ok ds st => ∀ Hf' H' P R' vs, Tr S Hf H (jn P R') Hf' H' → PR ca X.K Hf' H' P (RepL ca X.K Hf' H' P vs ds) R' σ st → Q vs H'
  | .exc x st => ∀ Hf' H' R' cls dd, Tr S Hf H (jn Em R') Hf' H' → PR ca X.K Hf' H' Em (XcR ca X.K Hf' H' cls dd x) R' σ st → wX X cls dd σ H'
  | .fail => False
def PostB (Hf H : Hp) (S : Rg) (σ : L2.St) (r : Res Bool) (Q : Bool → Hp → Prop) : Prop :=
  match r with
  | .ok k st => ∀ Hf' H' R', Tr S Hf H (jn Em R') Hf' H' → PR ca X.K Hf' H' Em True R' σ st → Q k H'
  | .exc x st => ∀ Hf' H' R' cls dd, Tr S Hf H (jn Em R') Hf' H' → PR ca X.K Hf' H' Em (XcR ca X.K Hf' H' cls dd x) R' σ st → wX X cls dd σ H'
  | .fail => False
/-- the parameters that are never stored to keep their values -/
def Lk (L : List Nat) (σ σ' : L2.St) : Prop := σ'.length = σ.length ∧ ∀ i ∈ L, σ'[i]? = σ[i]?
theorem Lk.refl {L : List Nat} {σ : L2.St} : Lk L σ σ := ⟨rfl, fun _ _ => rfl⟩
theorem Lk.trans {L : List Nat} {σ σ' σ2 : L2.St} (a : Lk L σ σ') (b : Lk L σ' σ2) : Lk L σ σ2 := ⟨b.1.trans a.1, fun j hj => (b.2 j hj).trans (a.2 j hj)⟩
def PostS (L : List Nat) (Hf H : Hp) (S : Rg) (σ : L2.St) (r : SR) (E : Ends) : Prop :=
  match r with
  | .next st => ∀ Hf' H' R' σ', Tr S Hf H (jn Em R') Hf' H' → PR ca X.K Hf' H' Em True R' σ' st → Lk L σ σ' → E.nx σ' H'
  | .brk st => ∀ Hf' H' R' σ', Tr S Hf H (jn Em R') Hf' H' → PR ca X.K Hf' H' Em True R' σ' st → Lk L σ σ' → E.bk σ' H'
  | .cont st => ∀ Hf' H' R' σ', Tr S Hf H (jn Em R') Hf' H' → PR ca X.K Hf' H' Em True R' σ' st → Lk L σ σ' → E.ct σ' H'
  | .ret d st => ∀ Hf' H' P R' σ' v, Tr S Hf H (jn P R') Hf' H' → PR ca X.K Hf' H' P (Rep ca X.K Hf' H' P v d) R' σ' st → Lk L σ σ' → E.rt v H'
  | .exc x st => ∀ Hf' H' R' σ' cls dd, Tr S Hf H (jn Em R') Hf' H' → PR ca X.K Hf' H' Em (XcR ca X.K Hf' H' cls dd x) R' σ' st → Lk L σ σ' → wX X cls dd σ' H'
  | .fail => False

/-- the expression's meaning -/
def CE (e : Expr) (m : ME) : Prop := ∀ (Hf H : Hp) (R : Nat → Rg) (σ : L2.St) (st : Sl) (Q : VK), PR ca X.K Hf H Em True R σ st → Post ca X Hf H (jn Em R) σ (m st) Q → We X e σ H Q
def CT (e : Expr) (m : MT) : Prop := ∀ (Hf H : Hp) (R : Nat → Rg) (σ : L2.St) (st : Sl) (Q : Bool → Hp → Prop), PR ca X.K Hf H Em True R σ st → PostB ca X Hf H (jn Em R) σ (m st) Q → Wt X e σ H Q
def CS (L : List Nat) (s : Stmt) (m : MS) : Prop := ∀ (Hf H : Hp) (R : Nat → Rg) (σ : L2.St) (st : Sl) (E : Ends), PR ca X.K Hf H Em True R σ st → PostS ca X L Hf H (jn Em R) σ (m st) E → Ws X s E σ H
def CSs (L : List Nat) (s : List Stmt) (m : MS) : Prop := ∀ (Hf H : Hp) (R : Nat → Rg) (σ : L2.St) (st : Sl) (E : Ends), PR ca X.K Hf H Em True R σ st → PostS ca X L Hf H (jn Em R) σ (m st) E → Wss X s E σ H
/-- a target's store: the value v of the datum d, lying in P, goes to the slots -/
def CG (L : List Nat) (e : Expr) (t : TG) (m : MG) : Prop := PG X e t ∧ ∀ (Hf H : Hp) (P : Rg) (R : Nat → Rg) (σ : L2.St) (st : Sl) (v : V) (d : D) (Q : L2.St → Hp → Prop), PR ca X.K Hf H P (Rep ca X.K Hf H P v d) R σ st →
  (match m d st with
    | .ok _ st' => ∀ Hf' H' R' σ', Tr (jn P R) Hf H (jn Em R') Hf' H' → PR ca X.K Hf' H' Em True R' σ' st' → Lk L σ σ' → Q σ' H'
    | _ => False) → t v σ H Q
end
end DL

/-! DL3: the rules for expressions: names, constants, operations that look at their operands. -/
namespace DL
open PySem L2 PyProof.Rows
/-- what is only looked at -/
inductive RdL (ca : Nat → Addr) (K : PySem.W.Frag) (Hf H : Hp) : List V → List D → Prop where
  | nil : RdL ca K Hf H [] []
  | cons {S v d vs ds} : Rep ca K Hf H S v d → RdL ca K Hf H vs ds → RdL ca K Hf H (v :: vs) (d :: ds)
def CO (ca : Nat → Addr) (X : Cx) (e : Expr) : Opd → Prop
  | .v m => CE ca X e m
  | .s i => PE X e (tVar i)
inductive COs (ca : Nat → Addr) (X : Cx) : List Expr → List Opd → Prop where
  | nil : COs ca X [] []
  | cons {e o es os} : CO ca X e o → COs ca X es os → COs ca X (e :: es) (o :: os)

section
variable {ca : Nat → Addr} {K : PySem.W.Frag} {Hf H Hf1 H1 Hf2 H2 : Hp} {S S1 S2 P : Rg} {R R1 R2 : Nat → Rg} {pp qq : Prop} {σ σ' : L2.St} {st st' : Sl} {v : V} {d : D} {vs : List V} {ds : List D} {X : Cx} {L : List Nat}

theorem getS_set {st : Sl} {i j : Nat} {o : Option D} : getS (st.set i o) j = if i = j then (if j < st.length then o else none) else getS st j := by
  unfold getS
  rw [List.getElem?_set]
  by_cases h : i = j
  · subst h
    rw [if_pos rfl, if_pos rfl]
    split <;> rfl
  · rw [if_neg h, if_neg h]
theorem getS_lt {st : Sl} {i : Nat} {d : D} (h : getS st i = some d) : i < st.length := by
  unfold getS at h
  cases e : st[i]? with
  | none =>
    rw [e] at h
    cases h
  | some o => exact (List.getElem?_eq_some_iff.mp e).1

/-! ### carrying a wish along a step -/
theorem Post.from {r : Res D} {Q : VK} (t : Tr S Hf H S1 Hf1 H1) (h : Post ca X Hf H S σ r Q) : Post ca X Hf1 H1 S1 σ r Q := by
  cases r with
  | ok d st => exact fun Hf' H' P R' v t' p => h Hf' H' P R' v (t.trans t') p
  | exc x st => exact fun Hf' H' R' cls dd t' p => h Hf' H' R' cls dd (t.trans t') p
  | fail => exact h
theorem PostL.from {r : Res (List D)} {Q : List V → Hp → Prop} (t : Tr S Hf H S1 Hf1 H1) (h : PostL ca X Hf H S σ r Q) : PostL ca X Hf1 H1 S1 σ r Q := by
  cases r with
  | ok d st => exact fun Hf' H' P R' v t' p => h Hf' H' P R' v (t.trans t') p
  | exc x st => exact fun Hf' H' R' cls dd t' p => h Hf' H' R' cls dd (t.trans t') p
  | fail => exact h
theorem PostB.from {r : Res Bool} {Q : Bool → Hp → Prop} (t : Tr S Hf H S1 Hf1 H1) (h : PostB ca X Hf H S σ r Q) : PostB ca X Hf1 H1 S1 σ r Q := by
  cases r with
  | ok d st => exact fun Hf' H' R' t' p => h Hf' H' R' (t.trans t') p
  | exc x st => exact fun Hf' H' R' cls dd t' p => h Hf' H' R' cls dd (t.trans t') p
  | fail => exact h
theorem PostS.from {r : SR} {E : Ends} (t : Tr S Hf H S1 Hf1 H1) (k : Lk L σ σ') (h : PostS ca X L Hf H S σ r E) : PostS ca X L Hf1 H1 S1 σ' r E := by
  have kk : ∀ σ'' : L2.St, Lk L σ' σ'' → Lk L σ σ'' := fun σ'' q => Lk.trans k q
  cases r with
  | next st => exact fun Hf' H' R' s2 t' p q => h Hf' H' R' s2 (t.trans t') p (kk _ q)
  | brk st => exact fun Hf' H' R' s2 t' p q => h Hf' H' R' s2 (t.trans t') p (kk _ q)
  | cont st => exact fun Hf' H' R' s2 t' p q => h Hf' H' R' s2 (t.trans t') p (kk _ q)
  | ret d st => exact fun Hf' H' P R' s2 v t' p q => h Hf' H' P R' s2 v (t.trans t') p (kk _ q)
  | exc x st => exact fun Hf' H' R' s2 cls dd t' p q => h Hf' H' R' s2 cls dd (t.trans t') p (kk _ q)
  | fail => exact h
/-! ### ends of an expression -/
/-- a value without owned parts; nothing changed -/
theorem post_val {Q : VK} (p : PR ca X.K Hf H P pp R σ st) (h : Post ca X Hf H S σ (.ok d st) Q) (hS : ∀ b, tot R b → S b) (r : Rep ca X.K Hf H Em v d) : Q v H :=
  h Hf H Em R v (Tr.refl fun b q => q.elim (fun q => q.elim) (hS b)) (p.drop.put r)
theorem hf_none {a : Addr} (w : Wl Hf H S) (hn : H a = none) : Hf a = none := by
  cases e : Hf a with
  | none => rfl
  | some o => rw [w.ex a o e] at hn; cases hn
theorem wl_new {a : Addr} {o : HO} (w : Wl Hf H S) (hn : H a = none) (ho : ∀ xs, o ≠ .tup xs := by intro _ z; cases z) : Wl Hf (upd H a o) S ∧ Hf a = none := by
  have h0 : Hf a = none := by
    cases e : Hf a with
    | none => rfl
    | some o => rw [w.ex a o e] at hn; cases hn
  refine ⟨⟨fun b u e => ?_, fun b q => ?_, w.nf, w.tp.upd ho⟩, h0⟩
  · by_cases hb : b = a
    · subst hb; rw [h0] at e; cases e
    · rw [upd_ne hb]; exact w.ex b u e
  · obtain ⟨u, e⟩ := w.dm b q
    exact ⟨u, by rw [upd_ne (fun z => by subst z; rw [hn] at e; cases e)]; exact e⟩
theorem upd_keep {a : Addr} {o : HO} (hn : H a = none) : ∀ b u, H b = some u → upd H a o b = some u := fun b u e => by
  rw [upd_ne (fun z => by subst z; rw [hn] at e; cases e)]; exact e
/-- the slots over a heap with one object more -/
theorem PR.grow {a : Addr} {o : HO} (p : PR ca K Hf H Em True R σ st) (hn : H a = none) {P' : Rg} (q : qq) (hP : ∀ b, P' b → b = a) (ho : ∀ xs, o ≠ .tup xs := by intro _ z; cases z) : PR ca K Hf (upd H a o) P' qq R σ st where
  pend := q
  len := p.len
  at_ := fun i d e => by
    obtain ⟨v, e1, r⟩ := p.at_ i d e
    exact ⟨v, e1, r.keep (fun _ _ e => e) fun b _ o e => upd_keep hn b o e⟩
  dj := p.dj
  dp := fun i b h1 h2 => by
    have := hP b h1
    subst this
    obtain ⟨o, e⟩ := p.w.dm b (.inr ⟨i, h2⟩)
    rw [hn] at e; cases e
  w := by
    obtain ⟨w1, w2⟩ := wl_new (o := o) p.w hn ho
    refine ⟨w1.ex, fun b h => ?_, fun b h => ?_, w1.tp⟩
    · rcases h with h | h
      · have := hP b h
        subst this
        exact ⟨o, upd_same⟩
      · exact w1.dm b (.inr h)
    · rcases h with h | h
      · have := hP b h
        subst this
        exact w2
      · exact w1.nf b (.inr h)
/-- a new owned list -/
theorem post_newL {Q : VK} {a : Addr} (p : PR ca X.K Hf H P pp R σ st) (h : Post ca X Hf H S σ (.ok (.lst true ds) st) Q) (hS : ∀ b, tot R b → S b) (hn : H a = none) (r : RepL ca X.K Hf H Em vs ds) : Q (.ref a) (upd H a (.lst vs)) := by
  refine h Hf (upd H a (.lst vs)) (fun b => b = a) R (.ref a) ⟨fun _ _ e => e, fun b o e _ => upd_keep hn b o e, fun b q => ?_, fun _ _ e => .inl e⟩ (p.drop.grow hn (.lstO rfl upd_same ((r.keep (fun _ _ e => e) fun _ q => q.elim).mono fun _ q => q.elim)) fun _ q => q)
  rcases q with q | q
  · subst q; exact .inr hn
  · exact .inl (hS b q)
/-- an object let stand at once -/
theorem PR.stand {a : Addr} {o : HO} (p : PR ca K Hf H Em True R σ st) (hn : H a = none) : PR ca K (upd Hf a o) (upd H a o) Em True R σ st := by
  have h0 := hf_none p.w hn
  have hx : Ex Hf (upd Hf a o) := fun b u e => upd_keep h0 b u e
  refine ⟨trivial, p.len, fun i d e => ?_, p.dj, fun _ _ q => q.elim, ?_⟩
  · obtain ⟨v, e1, r⟩ := p.at_ i d e
    exact ⟨v, e1, r.keep hx fun b _ o e => upd_keep hn b o e⟩
  · refine ⟨fun b u e => ?_, fun b q => ?_, fun b q => ?_, mkTp⟩
    · by_cases hb : b = a
      · subst hb; rw [upd_same] at e ⊢; exact e
      · rw [upd_ne hb] at e ⊢; exact p.w.ex b u e
    · obtain ⟨u, e⟩ := p.w.dm b q
      exact ⟨u, upd_keep hn b u e⟩
    · have : b ≠ a := fun z => by
        subst z
        obtain ⟨u, e⟩ := p.w.dm b q
        rw [hn] at e; cases e
      rw [upd_ne this]; exact p.w.nf b q
theorem post_newT {Q : VK} {a : Addr} (p : PR ca X.K Hf H P pp R σ st) (h : Post ca X Hf H S σ (.ok (.tup ds) st) Q) (hS : ∀ b, tot R b → S b) (hn : H a = none) (r : RepL ca X.K Hf H Em vs ds) : Q (.ref a) (upd H a (.tup vs)) := by
  have h0 := hf_none p.w hn
  have p1 := p.drop.stand (o := .tup vs) hn
  refine h (upd Hf a (.tup vs)) (upd H a (.tup vs)) Em R (.ref a) ⟨fun b u e => upd_keep h0 b u e, fun b o e _ => upd_keep hn b o e, fun b q => ?_, fun b o e => ?_⟩ (p1.put (.tup upd_same (r.keep (fun b u e => upd_keep h0 b u e) fun _ q => q.elim)))
  · rcases q with q | q
    · exact q.elim
    · exact .inl (hS b q)
  · by_cases hb : b = a
    · subst hb; exact .inr (.inr hn)
    · rw [upd_ne hb] at e; exact .inl e

/-! ### constants and names -/
theorem ce_c {e : Expr} (p : PE X e (tC v)) (r : ∀ Hf H, Rep ca X.K Hf H Em v d) : CE ca X e (eC d) := fun Hf H R σ st Q pr h =>
  we_of p (post_val (v := v) pr h (fun b q => .inr q) (r Hf H))
theorem ce_int {i j pos} : CE ca X (.Constant (.int i) j pos) (eC (.int i)) := ce_c pe_int fun _ _ => .int
theorem ce_bl {b j pos} : CE ca X (.Constant (.bool b) j pos) (eC (.bl b)) := ce_c pe_bl fun _ _ => .bl
theorem ce_non {j pos} : CE ca X (.Constant .none j pos) (eC .non) := ce_c pe_non fun _ _ => .non
theorem ce_str {x j pos} : CE ca X (.Constant (.str x) j pos) (eC (.str x)) := ce_c pe_str fun _ _ => .str

theorem set_get {st : Sl} {i j : Nat} {o : Option D} {d : D} (h : getS (st.set i o) j = some d) : (i = j ∧ o = some d) ∨ (i ≠ j ∧ getS st j = some d) := by
  rw [getS_set] at h
  by_cases e : i = j
  · rw [if_pos e] at h
    split at h
    · exact .inl ⟨e, h⟩
    · cases h
  · rw [if_neg e] at h
    exact .inr ⟨e, h⟩
/-- a slot's data let stand -/
theorem PR.freeze {i : Nat} (p : PR ca K Hf H Em True R σ st) (h : getS st i = some d) :
    ∃ Hf' v, σ[i]? = some (some v) ∧ Rep ca K Hf' H Em v (frz d) ∧ Tr (jn Em R) Hf H (jn Em fun j b => j ≠ i ∧ R j b) Hf' H ∧ PR ca K Hf' H Em True (fun j b => j ≠ i ∧ R j b) σ (st.set i (some (frz d))) := by
  obtain ⟨v, e1, r⟩ := p.at_ i d h
  let Hf' : Hp := fun b => if Classical.propDecidable (R i b) |>.decide then H b else Hf b
  have hy : ∀ b, R i b → Hf' b = H b := fun b q => by
    show (if _ then _ else _) = _
    rw [if_pos (by simpa using q)]
  have hno : ∀ b, ¬ R i b → Hf' b = Hf b := fun b q => by
    show (if _ then _ else _) = _
    rw [if_neg (by simpa using q)]
  have hx : Ex Hf Hf' := fun b o e => by
    by_cases q : R i b
    · rw [hy b q]; exact p.w.ex b o e
    · rw [hno b q]; exact e
  have hfz : Rep ca K Hf' H Em v (frz d) := r.frz hx fun b q o e => by rw [hy b q]; exact e
  refine ⟨Hf', v, e1, hfz, ⟨hx, fun _ _ e _ => e, fun b q => .inl ?_, fun b o e => ?_⟩, ⟨trivial, ?_, fun j d' e => ?_, fun j k b q1 q2 => p.dj j k b q1.2 q2.2, fun _ _ q => q.elim, ?_⟩⟩
  · rcases q with q | ⟨j, q⟩
    · exact q.elim
    · exact .inr ⟨j, q.2⟩
  · by_cases q : R i b
    · exact .inr (.inl (.inr ⟨i, q⟩))
    · rw [hno b q] at e; exact .inl e
  · rw [List.length_set]; exact p.len
  · rcases set_get e with ⟨q1, q2⟩ | ⟨q1, q2⟩
    · subst q1
      cases q2
      exact ⟨v, e1, hfz.mono fun _ q => q.elim⟩
    · obtain ⟨v', e2, r2⟩ := p.at_ j d' q2
      exact ⟨v', e2, (r2.keep hx fun _ _ _ e => e).mono fun b q => ⟨Ne.symm q1, q⟩⟩
  · refine ⟨fun b o e => ?_, fun b q => ?_, fun b q => ?_, mkTp⟩
    · by_cases z : R i b
      · rw [hy b z] at e; exact e
      · rw [hno b z] at e; exact p.w.ex b o e
    · rcases q with q | ⟨j, q⟩
      · exact q.elim
      · exact p.w.dm b (.inr ⟨j, q.2⟩)
    · rcases q with q | ⟨j, q⟩
      · exact q.elim
      · rw [hno b fun z => q.1 (p.dj j i b q.2 z)]; exact p.w.nf b (.inr ⟨j, q.2⟩)
theorem ce_n {e : Expr} {i : Nat} (hp : PE X e (tVar i)) : CE ca X e (eN i) := fun Hf H R σ st Q p h => by
  refine we_of hp ?_
  unfold eN at h
  cases g : getS st i with
  | none => rw [g] at h; exact h.elim
  | some d =>
    rw [g] at h
    by_cases hh : hot d
    · simp only [hh, if_true] at h
      obtain ⟨Hf', v, e1, r, t, p1⟩ := p.freeze g
      exact ⟨v, e1, h Hf' H Em _ v (t.less fun b q => q) (p1.put r)⟩
    · simp only [Bool.not_eq_true] at hh
      simp only [hh, Bool.false_eq_true, if_false] at h
      obtain ⟨v, e1, r⟩ := p.at_ i d g
      exact ⟨v, e1, post_val p h (fun b q => .inr q) (r.cold hh)⟩
/-- a slot's data taken out -/
theorem PR.take {i : Nat} (p : PR ca K Hf H Em True R σ st) (h : getS st i = some d) :
    ∃ v, σ[i]? = some (some v) ∧ PR ca K Hf H (R i) (Rep ca K Hf H (R i) v d) (fun j b => j ≠ i ∧ R j b) σ (st.set i none) := by
  obtain ⟨v, e1, r⟩ := p.at_ i d h
  refine ⟨v, e1, r, ?_, fun j d' e => ?_, fun j k b q1 q2 => p.dj j k b q1.2 q2.2, fun j b q1 q2 => q2.1 (p.dj j i b q2.2 q1), ?_⟩
  · rw [List.length_set]; exact p.len
  · rcases set_get e with ⟨q1, q2⟩ | ⟨q1, q2⟩
    · cases q2
    · obtain ⟨v', e2, r2⟩ := p.at_ j d' q2
      exact ⟨v', e2, r2.mono fun b q => ⟨Ne.symm q1, q⟩⟩
  · exact p.w.mono fun b q => q.elim (fun q => .inr ⟨i, q⟩) fun ⟨j, q⟩ => .inr ⟨j, q.2⟩
theorem ce_mv {e : Expr} {i : Nat} (hp : PE X e (tVar i)) : CE ca X e (eMv i) := fun Hf H R σ st Q p h => by
  refine we_of hp ?_
  unfold eMv at h
  cases g : getS st i with
  | none => rw [g] at h; exact h.elim
  | some d =>
    rw [g] at h
    obtain ⟨v, e1, p1⟩ := p.take g
    refine ⟨v, e1, h Hf H (R i) _ v (Tr.refl fun b q => ?_) p1⟩
    rcases q with q | ⟨j, q⟩
    · exact .inr ⟨i, q⟩
    · exact .inr ⟨j, q.2⟩

/-! ### operands -/
theorem RdL.keep (r : RdL ca K Hf H vs ds) (hx : Ex Hf Hf1) (hk : Ex H H1) : RdL ca K Hf1 H1 vs ds := by
  induction r with
  | nil => exact .nil
  | cons r1 _ ih => exact .cons (r1.keep hx fun b _ o e => hk b o e) ih

theorem co_v {e : Expr} {m : ME} (h : CE ca X e m) : CO ca X e (.v m) := h
theorem co_s {e : Expr} {i : Nat} (h : PE X e (tVar i)) : CO ca X e (.s i) := h
/-- expressions from the left -/
def WL (X : Cx) : List Expr → L2.St → Hp → (List V → Hp → Prop) → Prop
  | [], _, H, Q => Q [] H
  | e :: es, σ, H, Q => We X e σ H fun x H1 => WL X es σ H1 fun xs H2 => Q (x :: xs) H2

/-- the wish for exceptions alone -/
theorem ops_sound : ∀ {es : List Expr} {os : List Opd}, COs ca X es os → ∀ {Hf H : Hp} {R : Nat → Rg} {σ : L2.St} {st : Sl} {k : (Sl → Option (List D)) → Sl → Res D} {Q' : VK} {Q : List V → Hp → Prop},
    PR ca X.K Hf H Em True R σ st → Post ca X Hf H (jn Em R) σ (opds os st k) Q' →
    (∀ gs st2 Hf2 H2 R2 vs, Tr (jn Em R) Hf H (jn Em R2) Hf2 H2 → PR ca X.K Hf2 H2 Em True R2 σ st2 → (∀ ds, gs st2 = some ds → RdL ca X.K Hf2 H2 vs ds) → Post ca X Hf2 H2 (jn Em R2) σ (k gs st2) Q' → Q vs H2) → WL X es σ H Q
  | _, _, .nil, Hf, H, R, σ, st, k, Q', Q, p, h, c => c _ st Hf H R [] (Tr.refl fun _ q => q) p (fun ds e => by cases e; exact .nil) h
  | _, _, .cons (o := .v m) (os := os) hc hcs, Hf, H, R, σ, st, k, Q', Q, p, h, c => by
    refine hc Hf H R σ st _ p ?_
    rw [opds] at h
    cases e : m st with
    | fail => rw [e] at h; exact h
    | exc x st1 => rw [e] at h; exact h
    | ok d st1 =>
      rw [e] at h
      intro Hf1 H1 P R1 v t1 p1
      have h1 : Post ca X Hf1 H1 (jn Em R1) σ (opds os st1 fun gs st2 => k (fun s => (gs s).map (d :: ·)) st2) Q' := Post.from (t1.less fun b q => q.elim (fun q => q.elim) .inr) h
      refine ops_sound hcs p1.drop h1 fun gs st2 Hf2 H2 R2 vs t2 p2 hr hk => ?_
      have t1' := t1.less (S2 := jn Em R1) fun b q => q.elim (fun q => q.elim) .inr
      refine c _ st2 Hf2 H2 R2 (v :: vs) (t1'.trans t2) p2 (fun ds e => ?_) hk
      cases g : gs st2 with
      | none => rw [g] at e; cases e
      | some ds' =>
        rw [g] at e
        cases e
        have wP : Wl Hf1 H1 P := p1.w.mono fun b q => .inl q
        have bs := t2.beside wP fun b q1 q2 => q2.elim (fun q => q.elim) fun ⟨i, q⟩ => p1.dp i b q1 q
        exact .cons (p1.pend.keep t2.fx bs.1) (hr _ g)
  | _, _, .cons (e := ex) (o := .s i) (es := es) (os := os) hc hcs, Hf, H, R, σ, st, k, Q', Q, p, h, c => by
    rw [opds] at h
    cases gi : getS st i with
    | none =>
      rw [gi] at h
      exact h.elim
    | some d0 =>
      rw [gi] at h
      obtain ⟨v, ev, _⟩ := p.at_ i d0 gi
      refine we_of hc ⟨v, ev, ?_⟩
      refine ops_sound hcs p h fun gs st2 Hf2 H2 R2 vs t2 p2 hr hk => c _ st2 Hf2 H2 R2 (v :: vs) t2 p2 (fun ds e => ?_) hk
      cases g0 : getS st2 i with
      | none => rw [g0] at e; cases e
      | some d =>
        rw [g0] at e
        cases g : gs st2 with
        | none =>
          rw [g] at e
          cases e
        | some ds' =>
          rw [g] at e
          cases e
          obtain ⟨v', e2, r⟩ := p2.at_ i d g0
          rw [ev] at e2
          cases e2
          exact .cons r (hr _ g)
end
end DL

/-! DL4: operations by data; and, or, not, if; displays; tests. -/
namespace DL
open PySem L2 PyProof.Rows

/-- what an operation that only looks hands on -/
def OutQ (ca : Nat → Addr) (K : PySem.W.Frag) (Hf H : Hp) (o : Out) (Q : VK) : Prop :=
  match o with
  | .val d => ∀ v, Rep ca K Hf H Em v d → Q v H
  | .newL ds => ∀ p vs, H p = none → RepL ca K Hf H Em vs ds → Q (.ref p) (upd H p (.lst vs))
  | .newT ds => ∀ p vs, H p = none → RepL ca K Hf H Em vs ds → Q (.ref p) (upd H p (.tup vs))
def rl1 (r : V → Hp → VK → Prop) : List V → Hp → VK → Prop
  | [x], H, Q => r x H Q
  | _, _, _ => False
def rl2 (r : L2.R2) : List V → Hp → VK → Prop
  | [x, y], H, Q => r x y H Q
  | _, _, _ => False
def f2 (f : D → D → Option D) : List D → Option Out
  | [x, y] => (f x y).map .val
  | _ => none
/-- an operation by values (rl) is what f says of the data -/
def OpS (ca : Nat → Addr) (K : PySem.W.Frag) (rl : List V → Hp → VK → Prop) (f : List D → Option Out) : Prop :=
  ∀ (Hf H : Hp) (vs : List V) (ds : List D) (o : Out) (Q : VK), Ex Hf H → RdL ca K Hf H vs ds → f ds = some o → OutQ ca K Hf H o Q → rl vs H Q

section
variable {ca : Nat → Addr} {K : PySem.W.Frag} {Hf H Hf1 H1 Hf2 H2 : Hp} {S S1 S2 P : Rg} {R R1 R2 : Nat → Rg} {pp qq : Prop} {σ σ' : L2.St} {st st' : Sl} {v : V} {d : D} {vs : List V} {ds : List D} {X : Cx} {L : List Nat}

theorem outQ_of {o : Out} {Q : VK} (p : PR ca X.K Hf H P pp R σ st) (h : Post ca X Hf H S σ (.ok o.d st) Q) (hS : ∀ b, tot R b → S b) : OutQ ca X.K Hf H o Q := by
  cases o with
  | val d => exact fun v r => post_val p h hS r
  | newL ds => exact fun a vs hn r => post_newL p h hS hn r
  | newT ds => exact fun a vs hn r => post_newT p h hS hn r
/-- THE RULE for an operation that only looks at its operands -/
theorem ce_op {e : Expr} {es : List Expr} {os : List Opd} {rl : List V → Hp → VK → Prop} {f : List D → Option Out} (hw : ∀ σ H Q, WL X es σ H (fun vs H2 => rl vs H2 Q) → We X e σ H Q) (hc : COs ca X es os) (ho : OpS ca X.K rl f) : CE ca X e (eOp f os) :=
  fun Hf H R σ st Q p h => by
    refine hw σ H Q (ops_sound hc p h fun gs st2 Hf2 H2 R2 vs t2 p2 hr hk => ?_)
    cases g : gs st2 with
    | none => rw [g] at hk; exact hk.elim
    | some ds =>
      rw [g] at hk
      cases g2 : f ds with
      | none =>
        have hk' : Post ca X Hf2 H2 (jn Em R2) σ (match f ds with | some o => .ok o.d st2 | none => .fail) Q := hk
        rw [g2] at hk'; exact hk'.elim
      | some o =>
        have hk' : Post ca X Hf2 H2 (jn Em R2) σ (match f ds with | some o => .ok o.d st2 | none => .fail) Q := hk
        rw [g2] at hk'
        exact ho Hf2 H2 vs ds o Q p2.w.ex (hr ds g) g2 (outQ_of p2 hk' fun b q => .inr q)
/-! ### the forms -/
theorem ce_bin {a b : Expr} {oa ob : Opd} {op : Operator} {pos : Pos} {r : L2.R2} {f : List D → Option Out} (ho : OpR X (binaryOp op) r) (hs : OpS ca X.K (rl2 r) f) (ha : CO ca X a oa) (hb : CO ca X b ob) :
    CE ca X (.BinOp a op b pos) (eOp f [oa, ob]) := ce_op (es := [a, b]) (rl := rl2 r) (fun σ H Q h => we_of (pe_op ho (we_pe X a) (we_pe X b)) h) (.cons ha (.cons hb .nil)) hs
theorem ce_cmp {a b : Expr} {oa ob : Opd} {op : CmpOp} {pos : Pos} {r : L2.R2} {f : List D → Option Out} (ho : OpR X (compareOp op) r) (hs : OpS ca X.K (rl2 r) f) (ha : CO ca X a oa) (hb : CO ca X b ob) (hm : behindInMarks op b = false) :
    CE ca X (.Compare a [op] [b] pos) (eOp f [oa, ob]) := ce_op (es := [a, b]) (rl := rl2 r) (fun σ H Q h => we_of (pe_cmpR ho (we_pe X a) (we_pe X b) hm) h) (.cons ha (.cons hb .nil)) hs
theorem ce_ix {a b : Expr} {oa ob : Opd} {pos : Pos} {r : L2.R2} {f : List D → Option Out} (hr : IxR X r) (hs : OpS ca X.K (rl2 r) f) (ha : CO ca X a oa) (hb : CO ca X b ob) (hp : PlainIx b) :
    CE ca X (.Subscript a b pos) (eOp f [oa, ob]) := ce_op (es := [a, b]) (rl := rl2 r) (fun σ H Q h => we_of (pe_ix hr (we_pe X a) (we_pe X b) hp) h) (.cons ha (.cons hb .nil)) hs
/-- the arguments of a call of a built-in, by values -/
theorem wa_wl : ∀ {es : List Expr}, (∀ e r, (e :: r) <:+ es → starEach (e :: r) X.env = (false, eval e X.env) :: starEach r X.env) → ∀ {σ : L2.St} {H : Hp} {Q : List V → Hp → Prop}, WL X es σ H Q → Wa X es σ H Q
  | [], _, _, _, _, h => wa_of pa_nil h
  | e :: es, hs, _, _, _, h => wa_of (pa_cons (we_pe X e) (wa_pa X es) (hs e es (List.suffix_refl _))) (We.mk fun pins s I => thn (We.run h pins s I) fun u s1 ⟨v, H1, I1, r1, q1⟩ => ⟨v, H1, I1, r1, wa_wl (fun e' r' q => hs e' r' (q.trans (List.suffix_cons _ _))) q1⟩)
end
/-- no star among the arguments -/
def NoStar : List Expr → Prop
  | [] => True
  | e :: es => (∀ env, starEach (e :: es) env = (false, eval e env) :: starEach es env) ∧ NoStar es
theorem noStar_suf : ∀ {es : List Expr}, NoStar es → ∀ e r, (e :: r) <:+ es → ∀ env, starEach (e :: r) env = (false, eval e env) :: starEach r env
  | [], _, e, r, q, _ => by simp at q
  | x :: es, h, e, r, q, env => by
    rcases List.suffix_cons_iff.mp q with q | q
    · cases q; exact h.1 env
    · exact noStar_suf h.2 e r q env
section
variable {ca : Nat → Addr} {K : PySem.W.Frag} {X : Cx} {L : List Nat}
/-- f(e, ..), f a built-in function; T(e, ..), T a built-in type -/
theorem ce_callB {x : Str} {p pos : Pos} {e : Expr} {es : List Expr} {os : List Opd} {id : String} {r : List V → Hp → VK → Prop} {f : List D → Option Out} (hc : CallR X (.builtin id) r) (hg : Gl X x) (hm : X.mg x = none) (hv : bootBuiltins x = some (.builtin id)) (hs : OpS ca X.K r f)
    (ha : COs ca X (e :: es) os) (hn : x ≠ "__name__" := by decide) (hdb : (x == ("__debug__" : Str)) = false := by decide) (hst : NoStar (e :: es) := by exact ⟨fun _ => rfl, trivial⟩)
    (hpl : (backTo pos (starEach es X.env)).any (·.1) = false := by rfl) : CE ca X (.Call (.Name x p) (e :: es) [] pos) (eOp f os) :=
  ce_op (es := e :: es) (fun σ H Q h => we_of (pe_callB hc hg hm hv (wa_pa X (e :: es)) hn hdb (hst.1 _) hpl) (wa_wl (fun e' r' q => noStar_suf hst e' r' q _) h)) ha hs
theorem ce_callTy {x : Str} {p pos : Pos} {e : Expr} {es : List Expr} {os : List Opd} {T : String} {r : List V → Hp → VK → Prop} {f : List D → Option Out} (hc : CallR X (.type T) r) (hg : Gl X x) (hm : X.mg x = none) (hv : bootBuiltins x = some (.type T)) (hs : OpS ca X.K r f)
    (ha : COs ca X (e :: es) os) (hn : x ≠ "__name__" := by decide) (hdb : (x == ("__debug__" : Str)) = false := by decide) (hst : NoStar (e :: es) := by exact ⟨fun _ => rfl, trivial⟩)
    (hpl : (backTo pos (starEach es X.env)).any (·.1) = false := by rfl) : CE ca X (.Call (.Name x p) (e :: es) [] pos) (eOp f os) :=
  ce_op (es := e :: es) (fun σ H Q h => we_of (pe_callTy hc hg hm hv (wa_pa X (e :: es)) hn hdb (hst.1 _) hpl) (wa_wl (fun e' r' q => noStar_suf hst e' r' q _) h)) ha hs
end

section
variable {ca : Nat → Addr} {K : PySem.W.Frag} {Hf H Hf1 H1 Hf2 H2 : Hp} {S S1 S2 P : Rg} {R R1 R2 : Nat → Rg} {pp qq : Prop} {σ σ' : L2.St} {st st' : Sl} {v : V} {d : D} {vs : List V} {ds : List D} {X : Cx} {L : List Nat}
/-! ### and, or, not, if -/
theorem less0 {P' : Rg} (t : Tr S Hf H (jn P' R1) Hf1 H1) : Tr S Hf H (jn Em R1) Hf1 H1 := t.less fun _ q => q.elim (fun q => q.elim) .inr
theorem rep_bl (r : Rep ca K Hf H S v (.bl b)) : v = .bl b := by cases r; rfl
theorem rep_int (r : Rep ca K Hf H S v (.int i)) : v = .int i := by cases r; rfl
theorem rep_str (r : Rep ca K Hf H S v (.str x)) : v = .str x := by cases r; rfl
theorem rep_non (r : Rep ca K Hf H S v .non) : v = .non := by cases r; rfl
theorem ce_and {a b : Expr} {ma mb : ME} {pos : Pos} (ha : CE ca X a ma) (hb : CE ca X b mb) : CE ca X (.BoolOp .And [a, b] pos) (eAnd ma mb) := fun Hf H R σ st Q p h => by
  refine we_of (pe_and (we_pe X a) (pe_one (we_pe X b))) ?_
  refine ha Hf H R σ st _ p ?_
  unfold eAnd at h
  cases e : ma st with
  | fail => rw [e] at h; exact h
  | exc x st1 => rw [e] at h; exact h
  | ok d st1 =>
    rw [e] at h
    intro Hf1 H1 P R1 v t1 p1
    cases d with
    | bl k =>
      cases k with
      | true => exact ⟨true, rep_bl p1.pend, hb Hf1 H1 R1 σ st1 Q p1.drop (Post.from (less0 t1) h)⟩
      | false => exact ⟨false, rep_bl p1.pend, h Hf1 H1 Em R1 (.bl false) (less0 t1) (p1.drop.put .bl)⟩
    | _ => exact h.elim
theorem ce_and' {a b c : Expr} {r : List Expr} {ma mb : ME} {pos : Pos} (ha : CE ca X a ma) (hb : CE ca X (.BoolOp .And (b :: c :: r) pos) mb) : CE ca X (.BoolOp .And (a :: b :: c :: r) pos) (eAnd ma mb) := fun Hf H R σ st Q p h => by
  refine we_of (pe_and (we_pe X a) (we_pe X _)) ?_
  refine ha Hf H R σ st _ p ?_
  unfold eAnd at h
  cases e : ma st with
  | fail => rw [e] at h; exact h
  | exc x st1 => rw [e] at h; exact h
  | ok d st1 =>
    rw [e] at h
    intro Hf1 H1 P R1 v t1 p1
    cases d with
    | bl k =>
      cases k with
      | true => exact ⟨true, rep_bl p1.pend, hb Hf1 H1 R1 σ st1 Q p1.drop (Post.from (less0 t1) h)⟩
      | false => exact ⟨false, rep_bl p1.pend, h Hf1 H1 Em R1 (.bl false) (less0 t1) (p1.drop.put .bl)⟩
    | _ => exact h.elim
theorem ce_not {a : Expr} {ma : ME} {pos : Pos} (ha : CE ca X a ma) : CE ca X (.UnaryOp .Not a pos) (eNot ma) := fun Hf H R σ st Q p h => by
  refine we_of (pe_not (we_pe X a)) ?_
  refine ha Hf H R σ st _ p ?_
  unfold eNot at h
  cases e : ma st with
  | fail => rw [e] at h; exact h
  | exc x st1 => rw [e] at h; exact h
  | ok d st1 =>
    rw [e] at h
    intro Hf1 H1 P R1 v t1 p1
    cases d with
    | bl k => exact ⟨k, rep_bl p1.pend, h Hf1 H1 Em R1 (.bl !k) (less0 t1) (p1.drop.put .bl)⟩
    | _ => exact h.elim
/-! ### tests -/
theorem ct_e {e : Expr} {m : ME} (hp : PT X e (tB (We X e))) (h : CE ca X e m) : CT ca X e (tE m) := fun Hf H R σ st Q p hq => by
  refine wt_of hp ?_
  refine h Hf H R σ st _ p ?_
  unfold tE at hq
  cases e : m st with
  | fail => rw [e] at hq; exact hq
  | exc x st1 => rw [e] at hq; exact hq
  | ok d st1 =>
    rw [e] at hq
    intro Hf1 H1 P R1 v t1 p1
    cases d with
    | bl k => exact ⟨k, rep_bl p1.pend, hq Hf1 H1 R1 (less0 t1) p1.drop⟩
    | _ => exact hq.elim
/-! ### a op1 b op2 c, of values without owned parts -/
theorem ce_chain {a b c : Expr} {ma mb mc : ME} {op op' : CmpOp} {r r' : L2.R2} {f g : D → D → Option D} {pos : Pos} (ho : OpR X (compareOp op) r) (ho' : OpR X (compareOp op') r')
    (hf : OpS ca X.K (rl2 r) (f2 f))
    (hg : OpS ca X.K (rl2 r') (f2 g))
    (ha : CE ca X a ma) (hb : CE ca X b mb) (hc : CE ca X c mc) (hm : lastMarks [op, op'] [b, c] = false := by with_unfolding_all rfl) :
    CE ca X (.Compare a [op, op'] [b, c] pos) (eChain f g ma mb mc) := fun Hf H R σ st Q p h => by
  refine we_of (pe_chain ho ho' (we_pe X a) (we_pe X b) (we_pe X c) hm) ?_
  refine ha Hf H R σ st _ p ?_
  unfold eChain at h
  cases e : ma st with
  | fail => rw [e] at h; exact h
  | exc x st1 => rw [e] at h; exact h
  | ok d st1 =>
    rw [e] at h
    intro Hf1 H1 P1 R1 v1 t1 p1
    refine hb Hf1 H1 R1 σ st1 _ p1.drop ?_
    have h1 := Post.from (less0 t1) h
    cases e2 : mb st1 with
    | fail => simp only [Res.bind, e2] at h1; exact h1
    | exc x st2 => simp only [Res.bind, e2] at h1; exact h1
    | ok d2 st2 =>
      simp only [Res.bind, e2] at h1
      intro Hf2 H2 P2 R2 v2 t2 p2
      have wP : Wl Hf1 H1 P1 := p1.w.mono fun b q => .inl q
      have bs := t2.beside wP fun b q1 q2 => q2.elim (fun q => q.elim) fun ⟨i, q⟩ => p1.dp i b q1 q
      have r1 := p1.pend.keep t2.fx bs.1
      cases e3 : f d d2 with
      | none => rw [e3] at h1; exact h1.elim
      | some k =>
        rw [e3] at h1
        refine hf Hf2 H2 [v1, v2] [d, d2] (.val k) _ p2.w.ex (.cons r1 (.cons p2.pend .nil)) (by simp [f2, e3]) ?_
        intro vk rk
        cases k with
        | bl kb =>
          refine ⟨kb, rep_bl rk, ?_⟩
          cases kb with
          | true =>
            show We X c σ H2 fun w' H4 => r' v2 w' H4 Q
            refine hc Hf2 H2 R2 σ st2 _ p2.drop ?_
            have h2 := Post.from (less0 t2) h1
            cases e4 : mc st2 with
            | fail => simp only [e4] at h2; exact h2
            | exc x st3 => simp only [e4] at h2; exact h2
            | ok d3 st3 =>
              simp only [e4] at h2
              intro Hf3 H3 P3 R3 v3 t3 p3
              have wP2 : Wl Hf2 H2 P2 := p2.w.mono fun b q => .inl q
              have bs2 := t3.beside wP2 fun b q1 q2 => q2.elim (fun q => q.elim) fun ⟨i, q⟩ => p2.dp i b q1 q
              have r2 := p2.pend.keep t3.fx bs2.1
              cases e5 : g d2 d3 with
              | none => rw [e5] at h2; exact h2.elim
              | some w3 =>
                rw [e5] at h2
                have h3 := Post.from (less0 t3) h2
                exact hg Hf3 H3 [v2, v3] [d2, d3] (.val w3) _ p3.w.ex (.cons r2 (.cons p3.pend .nil)) (by simp [f2, e5]) fun vk rk => post_val p3 h3 (fun b q => .inr q) rk
          | false =>
            show Q (.bl false) H2
            exact post_val p2 (Post.from (less0 t2) h1) (fun b q => .inr q) .bl
        | _ => exact h1.elim
end
end DL

/-! DL5: each operation by data is what the layer's rule says of the values. -/
namespace DL
open PySem L2 PyProof.Rows
section
variable {ca : Nat → Addr} {K : PySem.W.Frag} {Hf H Hf1 H1 Hf2 H2 : Hp} {S S1 S2 P : Rg} {v : V} {d : D} {vs : List V} {ds xs ys : List D} {X : Cx}

theorem rdl1 {ds : List D} (r : RdL ca K Hf H vs ds) : ∀ {d}, ds = [d] → ∃ v S, vs = [v] ∧ Rep ca K Hf H S v d := by
  intro d e; subst e
  cases r with
  | cons r1 r2 => cases r2; exact ⟨_, _, rfl, r1⟩
theorem rdl2 {ds : List D} (r : RdL ca K Hf H vs ds) : ∀ {d e}, ds = [d, e] → ∃ v w S S', vs = [v, w] ∧ Rep ca K Hf H S v d ∧ Rep ca K Hf H S' w e := by
  intro d e q; subst q
  cases r with
  | cons r1 r2 => cases r2 with
    | cons r3 r4 => cases r4; exact ⟨_, _, _, _, rfl, r1, r3⟩
/-- the items of what is read -/
theorem rep_items (hx : Ex Hf H) (r : Rep ca K Hf H S v d) (h : items d = some xs) : ∃ a vs T, v = .ref a ∧ (SqL K H a vs ∨ SqT K H a vs) ∧ RepL ca K Hf H T vs xs := by
  cases r with
  | lstF e r => cases h; exact ⟨_, _, Em, rfl, .inl (.inl (.inl (hx _ _ e))), r⟩
  | lstO s e r => cases h; exact ⟨_, _, _, rfl, .inl (.inl (.inl e)), r⟩
  | tup e r => cases h; exact ⟨_, _, Em, rfl, .inr (.inl (.inl (hx _ _ e))), r⟩
  | scr e =>
    cases h
    rename_i a0 ns0
    refine ⟨_, ns0.map V.int, Em, rfl, .inl ?_, ?_⟩
    · rcases e with e | e
      · refine .inl ?_
        rcases e with e | ⟨o, e⟩
        · exact .inl (hx _ _ e)
        · exact .inr ⟨o, hx _ _ e⟩
      · exact .inr e
    · clear e
      induction ns0 with
      | nil => exact .nil
      | cons n ns ih => exact .cons (S1 := Em) (S2 := Em) .int ih (fun _ q => q) (fun _ q => q) fun _ q _ => q
  | _ => cases h
theorem rep_lst {o : Bool} (hx : Ex Hf H) (r : Rep ca K Hf H S v (.lst o xs)) : ∃ a vs T, v = .ref a ∧ H a = some (.lst vs) ∧ RepL ca K Hf H T vs xs := by
  cases r with
  | lstF e r => exact ⟨_, _, Em, rfl, hx _ _ e, r⟩
  | lstO s e r => exact ⟨_, _, _, rfl, e, r⟩
theorem rep_tup (hx : Ex Hf H) (r : Rep ca K Hf H S v (.tup xs)) : ∃ a vs, v = .ref a ∧ H a = some (.tup vs) ∧ RepL ca K Hf H Em vs xs := by
  cases r with
  | tup e r => exact ⟨_, _, rfl, hx _ _ e, r⟩
theorem repL_mapInt : ∀ {S : Rg} (ns : List Int), RepL ca K Hf H S (ns.map V.int) (ns.map D.int)
  | _, [] => .nil
  | _, n :: ns => .cons (S1 := Em) (S2 := Em) .int (repL_mapInt ns) (fun _ q => q.elim) (fun _ q => q.elim) fun _ q _ => q
theorem rep_lstItems (hx : Ex Hf H) (r : Rep ca K Hf H S v d) (h : lstItems d = some xs) : ∃ a vs T, v = .ref a ∧ SqL K H a vs ∧ RepL ca K Hf H T vs xs := by
  cases r with
  | lstF e r => cases h; exact ⟨_, _, Em, rfl, .inl (.inl (hx _ _ e)), r⟩
  | lstO s e r => cases h; exact ⟨_, _, _, rfl, .inl (.inl e), r⟩
  | scr e =>
    cases h
    rename_i a0 ns0
    refine ⟨a0, ns0.map V.int, Em, rfl, ?_, repL_mapInt ns0⟩
    rcases e with e | e
    · refine .inl ?_
      rcases e with e | ⟨o, e⟩
      · exact .inl (hx _ _ e)
      · exact .inr ⟨o, hx _ _ e⟩
    · exact .inr e
  | _ => cases h
theorem repL_cold0 (r : RepL ca K Hf H S vs ds) : colds ds = true → RepL ca K Hf H Em vs ds := by
  induction ds generalizing vs S with
  | nil => intro _; cases r; exact .nil
  | cons d ds ih =>
    intro h
    cases r with
    | cons r1 r2 h1 h2 h3 =>
      rw [colds, List.all_cons, Bool.and_eq_true] at h
      have hc : hot d = false := by have := h.1; unfold cold at this; simpa using this
      exact .cons (S1 := Em) (S2 := Em) (r1.cold hc) (ih r2 h.2) (fun _ q => q.elim) (fun _ q => q.elim) fun _ q => q.elim
theorem repL_cold (r : RepL ca K Hf H S vs ds) (h : colds ds = true) : RepL ca K Hf H S1 vs ds := (repL_cold0 r h).mono fun _ q => q.elim
theorem repL_app0 (r : RepL ca K Hf H S vs xs) : ∀ {ws : List V} {S2 : Rg}, RepL ca K Hf H S2 ws ys → colds xs = true → colds ys = true → RepL ca K Hf H Em (vs ++ ws) (xs ++ ys) := by
  induction xs generalizing vs S with
  | nil => intro ws S2 r2 _ h; cases r; exact repL_cold r2 h
  | cons d ds ih =>
    intro ws S2 q h h'
    cases r with
    | cons r1 r2 h1 h2 h3 =>
      rw [colds, List.all_cons, Bool.and_eq_true] at h
      have hc : hot d = false := by have := h.1; unfold cold at this; simpa using this
      exact .cons (S1 := Em) (S2 := Em) (r1.cold hc) (ih r2 q h.2 h') (fun _ q => q.elim) (fun _ q => q.elim) fun _ q => q.elim
theorem repL_app (r : RepL ca K Hf H S vs xs) {ws : List V} {S2 : Rg} (r2 : RepL ca K Hf H S2 ws ys) (h : colds xs = true) (h2 : colds ys = true) : RepL ca K Hf H S1 (vs ++ ws) (xs ++ ys) := (repL_app0 r r2 h h2).mono fun _ q => q.elim
theorem repL_at (r : RepL ca K Hf H S vs xs) : ∀ {i : Nat} {d : D}, xs[i]? = some d → ∃ v T, vs[i]? = some v ∧ Rep ca K Hf H T v d ∧ (∀ b, T b → S b) := by
  induction xs generalizing vs S with
  | nil => intro i d h; simp at h
  | cons x xs ih =>
    intro i d h
    cases r with
    | cons r1 r2 h1 h2 h3 =>
      cases i with
      | zero => simp at h; subst h; exact ⟨_, _, rfl, r1, h1⟩
      | succ i =>
        obtain ⟨v, T, e, q, z⟩ := ih r2 (i := i) (d := d) (by simpa using h)
        exact ⟨v, T, by simpa using e, q, fun b y => h2 b (z b y)⟩
theorem repL_ints : ∀ {xs : List D} {vs : List V} {S : Rg} {ns : List Int}, RepL ca K Hf H S vs xs → asInts xs = some ns → vs = ns.map V.int
  | [], _, _, _, r, h => by cases r; cases h; rfl
  | d :: xs, _, _, ns, .cons r1 r2 _ _ _, h => by
    cases d with
    | int i =>
      rw [asInts] at h
      cases e : asInts xs with
      | none =>
        rw [e] at h
        cases h
      | some ns' =>
        rw [e] at h
        cases h
        rw [repL_ints r2 e, rep_int r1]
        rfl
    | _ => simp [asInts] at h
/-! ### arithmetic -/
theorem os_sub : OpS ca K (rl2 (rI0 fun i j => .int (i - j))) oSub := fun Hf H vs ds o Q hx rd h q => by
  match ds, h with
  | [.int i, .int j], h =>
    cases h
    obtain ⟨v, w, S, S', e1, r1, r2⟩ := rdl2 rd rfl
    subst e1
    exact ⟨i, j, rep_int r1, rep_int r2, q _ .int⟩
theorem os_div : OpS ca K (rl2 (rI CDivW fun i j => .int (i / j))) oDiv := fun Hf H vs ds o Q hx rd h q => by
  match ds, h with
  | [.int i, .int j], h =>
    rw [oDiv] at h
    split at h
    · rename_i c
      cases h
      obtain ⟨v, w, S, S', e1, r1, r2⟩ := rdl2 rd rfl
      subst e1
      exact ⟨i, j, rep_int r1, rep_int r2, c, q _ .int⟩
    · cases h
theorem os_mod : OpS ca K (rl2 (rI (fun _ j => 0 < j) fun i j => .int (i % j))) oMod := fun Hf H vs ds o Q hx rd h q => by
  match ds, h with
  | [.int i, .int j], h =>
    rw [oMod] at h
    split at h
    · rename_i c
      cases h
      obtain ⟨v, w, S, S', e1, r1, r2⟩ := rdl2 rd rfl
      subst e1
      exact ⟨i, j, rep_int r1, rep_int r2, c, q _ .int⟩
    · cases h
theorem os_pow : OpS ca K (rl2 (rI CPow fun i j => .int (i ^ j.toNat))) oPow := fun Hf H vs ds o Q hx rd h q => by
  match ds, h with
  | [.int i, .int j], h =>
    rw [oPow] at h
    split at h
    · rename_i c
      cases h
      obtain ⟨v, w, S, S', e1, r1, r2⟩ := rdl2 rd rfl
      subst e1
      exact ⟨i, j, rep_int r1, rep_int r2, c, q _ .int⟩
    · cases h
theorem f2_some {p : D → D → Option D} {ds : List D} {o : Out} (h : f2 p ds = some o) : ∃ x y z, ds = [x, y] ∧ p x y = some z ∧ o = .val z := by
  match ds, h with
  | [x, y], h =>
    dsimp only [f2] at h
    cases e : p x y with
    | none =>
      rw [e] at h
      cases h
    | some z => rw [e] at h; cases h; exact ⟨x, y, z, rfl, e, rfl⟩
  | [], h => cases h
  | [_], h => cases h
  | _ :: _ :: _ :: _, h =>
      cases h
theorem os_lt : OpS ca K (rl2 (rI0 fun i j => .bl (decide (i < j)))) (f2 pLt) := fun Hf H vs ds o Q hx rd h q => by
  obtain ⟨x, y, z, rfl, h1, rfl⟩ := f2_some h
  obtain ⟨v, w, S, S', e1, r1, r2⟩ := rdl2 rd rfl
  subst e1
  cases x <;> try (cases h1; done)
  cases y <;> try (cases h1; done)
  cases h1
  exact ⟨_, _, rep_int r1, rep_int r2, q _ .bl⟩
theorem os_le : OpS ca K (rl2 (rI0 fun i j => .bl (decide (i ≤ j)))) (f2 pLe) := fun Hf H vs ds o Q hx rd h q => by
  obtain ⟨x, y, z, rfl, h1, rfl⟩ := f2_some h
  obtain ⟨v, w, S, S', e1, r1, r2⟩ := rdl2 rd rfl
  subst e1
  cases x <;> try (cases h1; done)
  cases y <;> try (cases h1; done)
  cases h1
  exact ⟨_, _, rep_int r1, rep_int r2, q _ .bl⟩
theorem os_gt : OpS ca K (rl2 (rI0 fun i j => .bl (decide (j < i)))) (f2 pGt) := fun Hf H vs ds o Q hx rd h q => by
  obtain ⟨x, y, z, rfl, h1, rfl⟩ := f2_some h
  obtain ⟨v, w, S, S', e1, r1, r2⟩ := rdl2 rd rfl
  subst e1
  cases x <;> try (cases h1; done)
  cases y <;> try (cases h1; done)
  cases h1
  exact ⟨_, _, rep_int r1, rep_int r2, q _ .bl⟩
theorem os_ge : OpS ca K (rl2 (rI0 fun i j => .bl (decide (j ≤ i)))) (f2 pGe) := fun Hf H vs ds o Q hx rd h q => by
  obtain ⟨x, y, z, rfl, h1, rfl⟩ := f2_some h
  obtain ⟨v, w, S, S', e1, r1, r2⟩ := rdl2 rd rfl
  subst e1
  cases x <;> try (cases h1; done)
  cases y <;> try (cases h1; done)
  cases h1
  exact ⟨_, _, rep_int r1, rep_int r2, q _ .bl⟩
/-! ### + and * of several kinds -/
def rAddA : L2.R2 := fun x y H Q => rI0 (fun i j => .int (i + j)) x y H Q ∨ rCat x y H Q ∨ (∃ i j, x = .str i ∧ y = .str j ∧ i.length + j.length ≤ sizeLine ∧ Q (.str (i ++ j)) H)
theorem op_addA : OpR X (binaryOp .Add) rAddA := OpR.or op_add (OpR.or op_cat op_add_str)
theorem sz_eq : (16777216 : Nat) = sizeLine := by rw [sizeLine_eq]
theorem newLc_some {xs : List D} {o : Out} (h : newLc xs = some o) : o = .newL xs ∧ colds xs = true ∧ xs.length ≤ sizeLine := by
  unfold newLc at h
  split at h
  · rename_i c
    rw [Bool.and_eq_true, decide_eq_true_eq] at c
    cases h
    exact ⟨rfl, c.1, by rw [← sz_eq]; exact c.2⟩
  · cases h
theorem os_add : OpS ca K (rl2 rAddA) oAdd := fun Hf H vs ds o Q hx rd h q => by
  match ds, h with
  | [.int i, .int j], h =>
    cases h
    obtain ⟨v, w, S, S', e1, r1, r2⟩ := rdl2 rd rfl
    subst e1
    exact .inl ⟨i, j, rep_int r1, rep_int r2, q _ .int⟩
  | [.lst o1 xs, .lst o2 ys], h =>
    obtain ⟨v, w, S, S', e1, r1, r2⟩ := rdl2 rd rfl
    subst e1
    obtain ⟨rfl, hc, hl⟩ := newLc_some h
    obtain ⟨a, vs, T, rfl, e2, r3⟩ := rep_lst hx r1
    obtain ⟨b, ws, T', rfl, e4, r4⟩ := rep_lst hx r2
    have hc' : colds xs = true ∧ colds ys = true := by
      unfold colds at hc ⊢
      rw [List.all_append, Bool.and_eq_true] at hc; exact hc
    refine .inr (.inl ⟨a, b, vs, ws, rfl, rfl, e2, e4, ?_, fun p hp => q p _ hp (repL_app r3 r4 hc'.1 hc'.2)⟩)
    rw [r3.length, r4.length]
    rw [List.length_append] at hl; exact hl
  | [.str x, .str y], h =>
    rw [oAdd] at h
    split at h
    · rename_i c
      cases h
      obtain ⟨v, w, S, S', e1, r1, r2⟩ := rdl2 rd rfl
      subst e1
      exact .inr (.inr ⟨x, y, rep_str r1, rep_str r2, by rw [← sz_eq]; exact c, q _ .str⟩)
    · cases h
def rMulA : L2.R2 := fun x y H Q => rI CMul (fun i j => .int (i * j)) x y H Q ∨ rRep x y H Q
theorem op_mulA : OpR X (binaryOp .Mult) rMulA := OpR.or op_mul op_rep
theorem repL_rep (r : RepL ca K Hf H S vs xs) (hc : colds xs = true) : ∀ k : Nat, RepL ca K Hf H S1 (List.replicate k vs).flatten (List.replicate k xs).flatten ∧ colds (List.replicate k xs).flatten = true
  | 0 => ⟨.nil, rfl⟩
  | k + 1 => by
    obtain ⟨h1, h2⟩ := repL_rep r hc k
    rw [List.replicate_succ, List.replicate_succ,
        List.flatten_cons, List.flatten_cons]
    refine ⟨repL_app r h1 hc h2, ?_⟩
    unfold colds at h2 hc ⊢
    rw [List.all_append, Bool.and_eq_true]; exact ⟨hc, h2⟩
theorem os_mul : OpS ca K (rl2 rMulA) oMul := fun Hf H vs ds o Q hx rd h q => by
  match ds, h with
  | [.int i, .int j], h =>
    rw [oMul] at h
    split at h
    · rename_i c
      cases h
      obtain ⟨v, w, S, S', e1, r1, r2⟩ := rdl2 rd rfl
      subst e1
      exact .inl ⟨i, j, rep_int r1, rep_int r2, c, q _ .int⟩
    · cases h
  | [.lst o1 xs, .int k], h =>
    rw [oMul] at h
    split at h
    · rename_i c
      rw [Bool.and_eq_true, decide_eq_true_eq] at c
      cases h
      obtain ⟨v, w, S, S', e1, r1, r2⟩ := rdl2 rd rfl
      subst e1
      obtain ⟨a, vs, T, rfl, e2, r3⟩ := rep_lst hx r1
      refine .inr ⟨a, k, vs, rfl, rep_int r2, e2, c.2.1, c.2.2.1, ?_, fun p hp => q p _ hp (repL_rep r3 c.1 _).1⟩
      rw [r3.length, ← sz_eq]; exact c.2.2.2
    · cases h
/-! ### ==, != at any depth; is None; in -/
theorem dpAll_ints : ∀ ns : List Int, DpAll K H (ns.map V.int) (ns.map PyData.int)
  | [] => .nil
  | n :: ns => .cons (.int n) (dpAll_ints ns)
mutual
theorem rep_dp (hx : Ex Hf H) : ∀ {S : Rg} {v : V} {d : D}, Rep ca K Hf H S v d → (toPy d).canLay0 = true → Dp K H v (toPy d)
  | _, _, _, .non, _ => by rw [toPy]; exact .non
  | _, _, _, .bl, _ => by rw [toPy]; exact .bl _
  | _, _, _, .int, _ => by rw [toPy]; exact .int _
  | _, _, _, .str, _ => by rw [toPy]; exact .str _
  | _, _, _, .scr (xs := ns) h, _ => by
      rw [toPy]
      refine .lst (xs := ns.map V.int) ?_ ?_
      · rcases h with h | h
        · refine .inl ?_
          rcases h with h | ⟨o, h⟩
          · exact .inl (hx _ _ h)
          · exact .inr ⟨o, hx _ _ h⟩
        · exact .inr h
      · exact dpAll_ints ns
  | _, _, _, .cls, h => by rw [toPy] at h; exact absurd h (by decide)
  | _, _, _, .ty, h => by rw [toPy] at h; exact absurd h (by decide)
  | _, _, _, .lstF e r, h => by
      rw [toPy] at h ⊢
      rw [PySem.PyData.canLay0] at h
      exact .lst (.inl (.inl (hx _ _ e))) (repL_dp hx r h)
  | _, _, _, .lstO s e r, h => by
      rw [toPy] at h ⊢
      rw [PySem.PyData.canLay0] at h
      exact .lst (.inl (.inl e)) (repL_dp hx r h)
  | _, _, _, .tup e r, h => by
      rw [toPy] at h ⊢
      rw [PySem.PyData.canLay0] at h
      exact .tup (.inl (.inl (hx _ _ e))) (repL_dp hx r h)
  | _, _, _, .insF _ _ _, h => by rw [toPy] at h; exact absurd h (by decide)
  | _, _, _, .insO _ _ _ _, h => by rw [toPy] at h; exact absurd h (by decide)
  | _, _, _, .dicF _ _ _, h => by rw [toPy] at h; exact absurd h (by decide)
  | _, _, _, .dicO _ _ _ _, h => by rw [toPy] at h; exact absurd h (by decide)
  | _, _, _, .dctF _ _ _, h => by rw [toPy] at h; exact absurd h (by decide)
  | _, _, _, .dctO _ _ _ _, h => by rw [toPy] at h; exact absurd h (by decide)
theorem repL_dp (hx : Ex Hf H) : ∀ {S : Rg} {vs : List V} {ds : List D}, RepL ca K Hf H S vs ds → PySem.PyData.canLayAll0 (toPyL ds) = true → DpAll K H vs (toPyL ds)
  | _, _, _, .nil, _ => by rw [toPyL]; exact .nil
  | _, _, _, .cons r1 r2 _ _ _, h => by
      rw [toPyL] at h ⊢
      rw [PySem.PyData.canLayAll0, Bool.and_eq_true] at h
      exact .cons (rep_dp hx r1 h.1) (repL_dp hx r2 h.2)
end
theorem shaped_lay {p : PySem.PyData} (h : PySem.SeqAt.shaped p = true) : p.canLay0 = true := by
  unfold PySem.SeqAt.shaped at h
  rw [Bool.and_eq_true] at h; exact h.1
theorem os_eq : OpS ca K (rl2 (rEqD K)) (f2 pEq) := fun Hf H vs ds o Q hx rd h q => by
  obtain ⟨x, y, z, rfl, h1, rfl⟩ := f2_some h
  unfold pEq at h1
  split at h1
  · rename_i c
    rw [Bool.and_eq_true] at c
    cases h1
    obtain ⟨v, w, S, S', e1, r1, r2⟩ := rdl2 rd rfl
    subst e1
    exact ⟨_, _, rep_dp hx r1 (shaped_lay c.1), rep_dp hx r2 (shaped_lay c.2), c.1, c.2, q _ .bl⟩
  · cases h1
theorem os_ne : OpS ca K (rl2 (rNeD K)) (f2 pNe) := fun Hf H vs ds o Q hx rd h q => by
  obtain ⟨x, y, z, rfl, h1, rfl⟩ := f2_some h
  unfold pNe at h1
  split at h1
  · rename_i c
    rw [Bool.and_eq_true] at c
    cases h1
    obtain ⟨v, w, S, S', e1, r1, r2⟩ := rdl2 rd rfl
    subst e1
    exact ⟨_, _, rep_dp hx r1 (shaped_lay c.1), rep_dp hx r2 (shaped_lay c.2), c.1, c.2, q _ .bl⟩
  · cases h1
/-! ### subscripts, len, built-ins -/
def rIxA (K : PySem.W.Frag) : L2.R2 := fun x y H Q => rIxL K x y H Q ∨ rIxT K x y H Q
theorem ix_A : IxR X (rIxA X.K) := IxR.or ix_list ix_tup
theorem atI_rep {i : Int} (r : RepL ca K Hf H S vs xs) (h : atI xs i = some d) : ∃ v T, atI vs i = some v ∧ Rep ca K Hf H T v d := by
  obtain ⟨j, h1, h2, h3, h4, h5⟩ := atI_get h
  unfold atI at h ⊢
  rw [← r.length] at h
  cases e : ixN vs.length i with
  | none =>
    rw [e] at h
    cases h
  | some k =>
    rw [e] at h
    obtain ⟨v, T, e2, r2, _⟩ := repL_at r (i := k) (d := d) h
    exact ⟨v, T, e2, r2⟩
theorem os_ix : OpS ca K (rl2 (rIxA K)) oIx := fun Hf H vs ds o Q hx rd h q => by
  match ds, h with
  | [x, .int i], h =>
    dsimp only [oIx] at h
    split at h
    · rename_i xs ei
      split at h
      · rename_i dd ea
        split at h
        · rename_i hc
          cases h
          obtain ⟨v, w, S, S', e1, r1, r2⟩ := rdl2 rd rfl
          subst e1
          obtain ⟨a, vs, T, rfl, e2, r3⟩ := rep_items hx r1 ei
          obtain ⟨v', T', e3, r4⟩ := atI_rep r3 ea
          have hc' : hot dd = false := by unfold cold at hc; simpa using hc
          have q' := q v' (r4.cold hc')
          rcases e2 with e2 | e2
          · exact .inl ⟨a, vs, i, v', rfl, rep_int r2, e2, e3, q'⟩
          · exact .inr ⟨a, vs, i, v', rfl, rep_int r2, e2, e3, q'⟩
        · cases h
      · cases h
    · cases h
theorem os_len : OpS ca K (fun xs H Q => ∃ p ys, xs = [.ref p] ∧ (SqL K H p ys ∨ SqT K H p ys) ∧ Q (.int ys.length) H) oLen := fun Hf H vs ds o Q hx rd h q => by
  match ds, h with
  | [x], h =>
    dsimp only [oLen] at h
    cases ei : items x with
    | none => rw [ei] at h; cases h
    | some xs =>
      rw [ei] at h
      cases h
      obtain ⟨v, S, e1, r1⟩ := rdl1 rd rfl
      subst e1
      obtain ⟨a, vs, T, rfl, e2, r3⟩ := rep_items hx r1 ei
      refine ⟨a, vs, rfl, e2, ?_⟩
      rw [r3.length]
      exact q _ .int
theorem os_abs : OpS ca K (fun xs H Q => ∃ i, xs = [.int i] ∧ Q (.int (if i < 0 then -i else i)) H) oAbs := fun Hf H vs ds o Q hx rd h q => by
  match ds, h with
  | [.int i], h =>
    cases h
    obtain ⟨v, S, e1, r1⟩ := rdl1 rd rfl
    subst e1
    rw [rep_int r1]
    exact ⟨i, rfl, q _ .int⟩
theorem os_max2 : OpS ca K (fun xs H Q => ∃ i j, xs = [.int i, .int j] ∧ Q (.int (if j > i then j else i)) H) oMax2 := fun Hf H vs ds o Q hx rd h q => by
  match ds, h with
  | [.int i, .int j], h =>
    cases h
    obtain ⟨v, w, S, S', e1, r1, r2⟩ := rdl2 rd rfl
    subst e1
    rw [rep_int r1, rep_int r2]
    exact ⟨i, j, rfl, q _ .int⟩
theorem os_min2 : OpS ca K (fun xs H Q => ∃ i j, xs = [.int i, .int j] ∧ Q (.int (if j < i then j else i)) H) oMin2 := fun Hf H vs ds o Q hx rd h q => by
  match ds, h with
  | [.int i, .int j], h =>
    cases h
    obtain ⟨v, w, S, S', e1, r1, r2⟩ := rdl2 rd rfl
    subst e1
    rw [rep_int r1, rep_int r2]
    exact ⟨i, j, rfl, q _ .int⟩
theorem os_int : OpS ca K (fun xs H Q => (∃ i, xs = [.int i] ∧ Q (.int i) H) ∨ ∃ k, xs = [.bl k] ∧ Q (.int (if k then 1 else 0)) H) oInt := fun Hf H vs ds o Q hx rd h q => by
  match ds, h with
  | [.int i], h =>
    cases h
    obtain ⟨v, S, e1, r1⟩ := rdl1 rd rfl
    subst e1
    rw [rep_int r1]
    exact .inl ⟨i, rfl, q _ .int⟩
  | [.bl i], h =>
    cases h
    obtain ⟨v, S, e1, r1⟩ := rdl1 rd rfl
    subst e1
    rw [rep_bl r1]
    exact .inr ⟨i, rfl, q _ .int⟩
theorem os_sum : OpS ca K (rSum K) oSum := fun Hf H vs ds o Q hx rd h q => by
  match ds, h with
  | [x], h =>
    dsimp only [oSum] at h
    cases ei : lstItems x with
    | none => rw [ei] at h; cases h
    | some xs =>
      rw [ei] at h
      cases en : asInts xs with
      | none => simp [en] at h
      | some ns =>
        simp only [Option.bind_some, en, Option.map_some, Option.some.injEq] at h
        subst h
        obtain ⟨v, S, e1, r1⟩ := rdl1 rd rfl
        subst e1
        obtain ⟨a, vs, T, rfl, e2, r3⟩ := rep_lstItems hx r1 ei
        rw [repL_ints r3 en] at e2
        exact ⟨a, ns, rfl, e2, q _ .int⟩
theorem os_list : OpS ca K (fun xs H Q => ∃ p ys, xs = [.ref p] ∧ (SqL K H p ys ∨ SqT K H p ys) ∧ ∀ l, H l = none → Q (.ref l) (upd H l (.lst ys))) oList := fun Hf H vs ds o Q hx rd h q => by
  match ds, h with
  | [x], h =>
    dsimp only [oList] at h
    split at h
    · rename_i xs ei
      obtain ⟨rfl, hc, hl⟩ := newLc_some h
      obtain ⟨v, S, e1, r1⟩ := rdl1 rd rfl
      subst e1
      obtain ⟨a, vs, T, rfl, e2, r3⟩ := rep_items hx r1 ei
      exact ⟨a, vs, rfl, e2, fun l hl => q l vs hl (repL_cold r3 hc)⟩
    · cases h
theorem os_tuple : OpS ca K (fun xs H Q => ∃ p ys, xs = [.ref p] ∧ ((SqL K H p ys ∧ ∀ l, H l = none → Q (.ref l) (upd H l (.tup ys))) ∨ (SqT K H p ys ∧ Q (.ref p) H))) oTuple := fun Hf H vs ds o Q hx rd h q => by
  match ds, h with
  | [.lst o xs], h =>
    dsimp only [oTuple] at h
    split at h
    · rename_i c
      rw [Bool.and_eq_true] at c
      cases h
      obtain ⟨v, S, e1, r1⟩ := rdl1 rd rfl
      subst e1
      obtain ⟨a, vs, T, rfl, e2, r3⟩ := rep_lst hx r1
      exact ⟨a, vs, rfl, .inl ⟨.inl (.inl e2), fun l hl => q l vs hl (repL_cold r3 c.1)⟩⟩
    · cases h
  | [.tup xs], h =>
    cases h
    obtain ⟨v, S, e1, r1⟩ := rdl1 rd rfl
    subst e1
    have r1' := r1.cold (S' := Em) rfl
    obtain ⟨a, vs, rfl, e2, r3⟩ := rep_tup hx r1
    exact ⟨a, vs, rfl, .inr ⟨.inl (.inl e2), q _ r1'⟩⟩
/-! ### isinstance with a built-in type -/
theorem rep_ty (hx : Ex Hf H) {n : String} (r : Rep ca K Hf H S v d) (h : tyName d = some n) (hs : ∀ xs, d ≠ .scr xs) : TyX K H v (.type n) := by
  cases r with
  | non => cases h; exact .base .non
  | bl => cases h; exact .base (.bl _)
  | int => cases h; exact .base (.int _)
  | str => cases h; exact .base (.str _)
  | scr e => exact absurd rfl (hs _)
  | cls => cases h
  | ty => cases h
  | lstF e r => cases h; exact .base (.lst (hx _ _ e))
  | lstO s e r => cases h; exact .base (.lst e)
  | tup e r => cases h; exact .base (.tup (hx _ _ e))
  | insF _ _ _ => cases h
  | insO _ _ _ _ => cases h
  | dicF e _ _ => cases h; exact .base (.dK (hx _ _ e))
  | dicO s e _ _ => cases h; exact .base (.dK e)
  | dctF _ _ _ => cases h
  | dctO _ _ _ _ => cases h
  | xc _ _ _ _ => cases h
end
end DL

/-! DL6: targets, statements, loops. -/
namespace DL
open PySem L2 PyProof.Rows

/-! ### more pure meanings -/
/-- several targets of a tuple -/
def gTupM : List MG → List D → Sl → Res Unit
  | [], [], st => .ok () st
  | g :: gs, d :: ds, st => (g d st).bind fun _ st1 => gTupM gs ds st1
  | _, _, _ => .fail
def gT (gs : List MG) : MG := fun d st => match d with
  | .tup ds => gTupM gs ds st
  | _ => .fail
/-- xs[i] = d, xs the slot i0's own list -/
def gIx (i0 : Nat) (mi : ME) : MG := fun d st => if cold d && (getS st i0).isSome then (mi st).bind fun k st1 => (match k with
  | .int k => match getS st1 i0 with
    | some (.lst true xs) => match L2.ixN xs.length k with
      | some j => .ok () (st1.set i0 (some (.lst true (xs.set j d))))
      | none => .fail
    | _ => .fail
  | _ => .fail) else .fail
def sPar (i j : Nat) (ms : MA) : MS := fun st => (ms st).toS fun ds st1 => match ds with
  | [x, y] => .next ((st1.set i (some x)).set j (some y))
  | _ => .fail
/-- x op= e at a slot that holds no owned thing -/
def sAug (i : Nat) (f : List D → Option Out) (m : ME) : MS := fun st => match getS st i with
  | some x => if cold x then (m st).toS fun y st1 => (match f [x, y] with
    | some (.val z) => .next (st1.set i (some z))
    | _ => .fail) else .fail
  | none => .fail
/-- a for -/
def sFor (src : Sl → Res (List D)) (g : MG) (body : MS) : MS := fun st => (src st).toS fun ds st1 => forD g body ds st1
/-- what is walked -/
def iE (m : ME) (p : D → Option (List D)) : Sl → Res (List D) := fun st => (m st).bind fun d st1 => match p d with
  | some ds => if colds ds then .ok ds st1 else .fail
  | none => .fail
def rangeD (lo : Int) (n : Nat) : List D := (List.range n).map fun i => D.int (lo + (i : Nat))
def rangeC (lo : Int) (c : Int) (n : Nat) : List D := (List.range n).map fun i => D.int (lo + (i : Nat) * c)
def small62 (i : Int) : Bool := decide (-(2 ^ 62) ≤ i ∧ i < 2 ^ 62)
section
variable {ca : Nat → Addr} {K : PySem.W.Frag} {Hf H Hf1 H1 Hf2 H2 : Hp} {S S1 S2 P : Rg} {R R1 R2 : Nat → Rg} {pp qq : Prop} {σ σ' : L2.St} {st st' : Sl} {v : V} {d : D} {vs : List V} {ds : List D} {X : Cx} {L : List Nat}

theorem Lk.set {i : Nat} {o : Option V} (h : i ∉ L) : Lk L σ (σ.set i o) := ⟨List.length_set, fun j hj => by
  rw [List.getElem?_set_ne (fun e => h (by rw [e]; exact hj))]⟩

/-! ### targets -/
/-- the pending value goes to the slot i -/
theorem PR.store (i : Nat) (p : PR ca K Hf H P (Rep ca K Hf H P v d) R σ st) : PR ca K Hf H Em True (fun j b => if j = i then P b else R j b) (σ.set i (some v)) (st.set i (some d)) where
  pend := trivial
  len := by rw [List.length_set, List.length_set]; exact p.len
  at_ := fun j d' e => by
    rcases set_get e with ⟨q1, q2⟩ | ⟨q1, q2⟩
    · subst q1
      cases q2
      have := getS_lt e
      rw [List.length_set, p.len] at this
      exact ⟨v, by simp [this], by simpa using p.pend⟩
    · obtain ⟨v', e2, r⟩ := p.at_ j d' q2
      refine ⟨v', by rw [List.getElem?_set_ne q1]; exact e2, ?_⟩
      rw [show (fun b => if j = i then P b else R j b) = R j from by funext b; rw [if_neg (Ne.symm q1)]]
      exact r
  dj := fun j k b h1 h2 => by
    split at h1 <;> split at h2
    · rename_i a c; exact a.trans c.symm
    · exact (p.dp k b h1 h2).elim
    · exact (p.dp j b h2 h1).elim
    · exact p.dj j k b h1 h2
  dp := fun _ _ q => q.elim
  w := p.w.mono fun b q => by
    rcases q with q | ⟨j, q⟩
    · exact q.elim
    · split at q
      · exact .inl q
      · exact .inr ⟨j, q⟩
theorem store_tr (i : Nat) : Tr (jn P R) Hf H (jn Em fun j b => if j = i then P b else R j b) Hf H := Tr.refl fun b q => by
  rcases q with q | ⟨j, q⟩
  · exact q.elim
  · split at q
    · exact .inl q
    · exact .inr ⟨j, q⟩
theorem cg_name {e : Expr} {i : Nat} (hg : PG X e (gName i)) (hi : i ∉ L) : CG ca X L e (gName i) (gN i) :=
  ⟨hg, fun Hf H P R σ st v d Q p h => h Hf H _ _ (store_tr i) (p.store i) (Lk.set hi)⟩
def CGs (ca : Nat → Addr) (X : Cx) (L : List Nat) (es : List Expr) (t : TGs) (gs : List MG) : Prop := PGs X es t ∧ ∀ (ds : List D) (Hf H : Hp) (R : Nat → Rg) (σ : L2.St) (st : Sl) (vs : List V) (Q : L2.St → Hp → Prop), PR ca X.K Hf H Em (RepL ca X.K Hf H Em vs ds) R σ st →
  (match gTupM gs ds st with
    | .ok _ st' => ∀ Hf' H' R' σ', Tr (jn Em R) Hf H (jn Em R') Hf' H' → PR ca X.K Hf' H' Em True R' σ' st' → Lk L σ σ' → Q σ' H'
    | _ => False) → t vs σ H Q
theorem cgs_nil : CGs ca X L [] gNil [] := ⟨pgs_nil, fun ds Hf H R σ st vs Q p h => by
  cases ds with
  | nil =>
    have r := p.pend
    cases r
    exact ⟨rfl, h Hf H R σ (Tr.refl fun _ q => q) p.drop (Lk.refl)⟩
  | cons d ds => exact h.elim⟩
theorem repL_em {ds : List D} {vs : List V} (r : RepL ca K Hf H Em vs ds) (hx : Ex Hf Hf1) : RepL ca K Hf1 H1 Em vs ds := r.keep hx fun _ q => q.elim
theorem cgs_cons {e : Expr} {es : List Expr} {t : TG} {u : TGs} {g : MG} {gs : List MG} (hg : CG ca X L e t g) (hgs : CGs ca X L es u gs)
    (hs : (assignEach (e :: es) X.env).map (·.2) = assign e X.env :: (assignEach es X.env).map (·.2)) : CGs ca X L (e :: es) (gCons t u) (g :: gs) := ⟨pgs_cons hg.1 hgs.1 hs, fun ds Hf H R σ st vs Q p h => by
  cases ds with
  | nil => exact h.elim
  | cons d ds =>
    have r := p.pend
    cases r with
    | cons r1 r2 h1 h2 h3 =>
      rename_i v vs
      have r1' := r1.mono h1
      have r2' := r2.mono h2
      refine ⟨v, vs, rfl, hg.2 Hf H Em R σ st v d _ (p.drop.put r1') ?_⟩
      rw [gTupM] at h
      cases eg : g d st with
      | fail => rw [eg] at h; exact h
      | exc x st1 => rw [eg] at h; exact h
      | ok a st1 =>
        rw [eg] at h
        intro Hf1 H1 R1 σ1 t1 p1 k1
        refine hgs.2 ds Hf1 H1 R1 σ1 st1 vs Q (p1.imp fun _ => repL_em r2' t1.fx) ?_
        have h' : (match gTupM gs ds st1 with
          | .ok _ st' => ∀ Hf' H' R' σ', Tr (jn Em R) Hf H (jn Em R') Hf' H' → PR ca X.K Hf' H' Em True R' σ' st' → Lk L σ σ' → Q σ' H'
          | _ => False) := h
        cases eq : gTupM gs ds st1 with
        | fail => rw [eq] at h'; exact h'
        | exc x st2 => rw [eq] at h'; exact h'
        | ok a st2 =>
          rw [eq] at h'
          exact fun Hf2 H2 R2 σ2 t2 p2 k2 => h' Hf2 H2 R2 σ2 (t1.trans t2) p2 (Lk.trans k1 k2)⟩
theorem cg_tup {es : List Expr} {k : Nat} {pos : Pos} {t : TGs} {gs : List MG} {n : Nat} (hc : X.calm = true) (h : CGs ca X L es t gs) (hl : gs.length = n)
    (hn : (assignEach es X.env).length = n := by rfl) (hst : (assignEach es X.env).findIdx? (·.1) = none := by rfl) : CG ca X L (.Tuple es k pos) (gTup X.K n t) (gT gs) :=
  ⟨pg_tup hc h.1 hn hst, fun Hf H P R σ st v d Q p hq => by
    cases d with
    | tup ds =>
      have r := p.pend
      obtain ⟨a, vs, rfl, e, r3⟩ := rep_tup p.w.ex r
      have hle : ∀ (gs : List MG) (ds : List D) (st : Sl) (a : Unit) (st1 : Sl), gTupM gs ds st = .ok a st1 → gs.length = ds.length := by
        intro gs
        induction gs with
        | nil => intro ds st a st1 e; cases ds with
          | nil => rfl
          | cons _ _ => cases e
        | cons g gs ih =>
          intro ds st a st1 e
          cases ds with
          | nil => cases e
          | cons d ds =>
            rw [gTupM] at e
            cases eg : g d st with
            | ok a' st' => rw [eg] at e; simp [ih ds st' a st1 e]
            | exc _ _ => rw [eg] at e; cases e
            | fail => rw [eg] at e; cases e
      have hq' : (match gTupM gs ds st with
        | .ok _ st' => ∀ Hf' H' R' σ', Tr (jn P R) Hf H (jn Em R') Hf' H' → PR ca X.K Hf' H' Em True R' σ' st' → Lk L σ σ' → Q σ' H'
        | _ => False) := hq
      cases eq : gTupM gs ds st with
      | fail => rw [eq] at hq'; exact hq'.elim
      | exc x st2 => rw [eq] at hq'; exact hq'.elim
      | ok u st2 =>
        rw [eq] at hq'
        refine ⟨a, vs, rfl, .inl (.inl e), ?_, h.2 ds Hf H R σ st vs Q (p.drop.imp fun _ => r3) ?_⟩
        · rw [r3.length, ← hle gs ds st u st2 eq, hl]
        · rw [eq]
          exact fun Hf2 H2 R2 σ2 t2 p2 k2 => hq' Hf2 H2 R2 σ2 (t2.more fun b q => q.elim (fun q => q.elim) .inr) p2 k2
    | _ => exact hq.elim⟩
/-- the region of a slot's own list -/
theorem PR.ownList {i : Nat} {xs : List D} (p : PR ca K Hf H Em True R σ st) (h : getS st i = some (.lst true xs)) : ∃ a vs, σ[i]? = some (some (.ref a)) ∧ R i a ∧ H a = some (.lst vs) ∧ RepL ca K Hf H (fun b => R i b ∧ b ≠ a) vs xs := by
  obtain ⟨v, e, r⟩ := p.at_ i _ h
  cases r with
  | lstO s e2 r => exact ⟨_, _, e, s, e2, r⟩
/-- a slot's own list is written: its items' region is as it was -/
theorem PR.write {i : Nat} {xs ys : List D} {a : Addr} {ws : List V} (p : PR ca K Hf H Em True R σ st) (h : getS st i = some (.lst true xs)) (hv : σ[i]? = some (some (.ref a))) (ha : R i a)
    (r : RepL ca K Hf H (fun b => R i b ∧ b ≠ a) ws ys) : PR ca K Hf (upd H a (.lst ws)) Em True R σ (st.set i (some (.lst true ys))) ∧ Tr (jn Em R) Hf H (jn Em R) Hf (upd H a (.lst ws)) := by
  have hk : ∀ b o, b ≠ a → H b = some o → upd H a (.lst ws) b = some o := fun b o n e => by rw [upd_ne n]; exact e
  have hf : Hf a = none := p.w.nf a (.inr ⟨i, ha⟩)
  refine ⟨⟨trivial, ?_, fun j d e => ?_, p.dj, fun _ _ q => q.elim, ⟨fun b o e => ?_, fun b q => ?_, p.w.nf, mkTp⟩⟩, ⟨fun _ _ e => e, fun b o e n => hk b o (fun z => n (.inr ⟨i, z ▸ ha⟩)) e, fun b q => .inl q, fun _ _ e => .inl e⟩⟩
  · rw [List.length_set]; exact p.len
  · rcases set_get e with ⟨q1, q2⟩ | ⟨q1, q2⟩
    · subst q1
      cases q2
      exact ⟨_, hv, .lstO ha upd_same (r.keep (fun _ _ e => e) fun b q o e => hk b o q.2 e)⟩
    · obtain ⟨v', e2, r2⟩ := p.at_ j d q2
      exact ⟨v', e2, r2.keep (fun _ _ e => e) fun b q o e => hk b o (fun z => q1 (p.dj i j a ha (z ▸ q))) e⟩
  · have := p.w.ex b o e
    exact hk b o (fun z => by subst z; rw [hf] at e; cases e) this
  · obtain ⟨o, e⟩ := p.w.dm b q
    by_cases z : b = a
    · subst z; exact ⟨_, upd_same⟩
    · exact ⟨o, hk b o z e⟩
theorem repL_set {S T : Rg} {w : V} {e : D} : ∀ {xs : List D} {vs : List V} {S : Rg} (j : Nat), RepL ca K Hf H S vs xs → Rep ca K Hf H Em w e → RepL ca K Hf H S (vs.set j w) (xs.set j e)
  | [], _, _, _, r, _ => by
    cases r
    exact .nil
  | x :: xs, _, _, 0, .cons r1 r2 h1 h2 h3, q => .cons (S1 := Em) q r2 (fun _ z => z.elim) h2 fun _ z _ => z
  | x :: xs, _, _, j + 1, .cons r1 r2 h1 h2 h3, q => .cons r1 (repL_set (S := Em) (T := Em) j r2 q) h1 h2 h3
theorem cg_ix {o i : Expr} {i0 : Nat} {mi : ME} {pos : Pos} (ho : PE X o (tVar i0)) (hi : CE ca X i mi)
    (ha : ∀ v, assign (.Subscript
        o i pos) X.env v = (do
      let ov ← holding [v] (eval
          o X.env)
      let iv ← holding [v,
          ov] (eval i X.env)
      standAt pos
      holding [v, ov,
          iv] (setItem ov iv v)
      release [v, ov, iv] [])) : CG ca X L (.Subscript o i pos) (gSub (tVar i0) (We X i) rSetL) (gIx i0 mi) :=
  ⟨pg_sub ho (we_pe X i) set_list ha, fun Hf H P R σ st v d Q p h => by
    unfold gIx at h
    by_cases hc0 : (cold d && (getS st i0).isSome) = true
    · rw [if_pos hc0] at h
      rw [Bool.and_eq_true] at hc0
      have hc := hc0.1
      have hd : hot d = false := by unfold cold at hc; simpa using hc
      have rd := p.pend.cold (S' := Em) hd
      cases em : mi st with
      | fail => rw [em] at h; exact h.elim
      | exc x st1 => rw [em] at h; exact h.elim
      | ok k st1 =>
        rw [em] at h
        cases k with
        | int k =>
          dsimp only [Res.bind] at h
          cases eg : getS st1 i0 with
          | none => rw [eg] at h; exact h.elim
          | some d1 =>
            rw [eg] at h
            cases d1 with
            | lst ow xs =>
              cases ow with
              | false => exact h.elim
              | true =>
                dsimp only at h
                cases ej : ixN xs.length k with
                | none => rw [ej] at h; exact h.elim
                | some j =>
                  rw [ej] at h
                  dsimp only at h
                  -- the list's own value stands in its slot already
                  obtain ⟨d0, e0⟩ := Option.isSome_iff_exists.mp hc0.2
                  obtain ⟨x, hx, _⟩ := p.at_ i0 d0 e0
                  refine ⟨x, hx, hi Hf H R σ st _ p.drop ?_⟩
                  rw [em]
                  intro Hf1 H1 P1 R1 v1 t1 p1
                  obtain ⟨a, vs, e1, ra, e2, r2⟩ := p1.drop.ownList eg
                  rw [hx] at e1
                  cases e1
                  refine ⟨a, vs, k, j, rfl, rep_int p1.pend, e2, by rw [r2.length]; exact ej, ?_⟩
                  obtain ⟨p2, t2⟩ := p1.drop.write eg hx ra (repL_set (S := Em) (T := Em) j r2 (rd.keep t1.fx fun _ q => q.elim))
                  exact h Hf1 _ R1 σ (((less0 t1).trans t2).more fun b q => q.elim (fun q => q.elim) .inr) p2 Lk.refl
            | _ => exact h.elim
        | _ => exact h.elim
    · rw [if_neg hc0] at h; exact h.elim⟩

/-! ### statements -/
theorem css_nil : CSs ca X L [] sNext := fun Hf H R σ st E p h => wss_of pss_nil (h Hf H R σ (Tr.refl fun _ q => q) p Lk.refl)
theorem css_cons {s : Stmt} {ss : List Stmt} {m ms : MS} (hs : CS ca X L s m) (hr : CSs ca X L ss ms) : CSs ca X L (s :: ss) (sSeq m ms) := fun Hf H R σ st E p h => by
  refine wss_of (pss_cons (ws_ps X s) (wss_pss X ss)) ?_
  refine hs Hf H R σ st _ p ?_
  unfold sSeq at h
  cases e : m st with
  | next st1 =>
    rw [e] at h
    intro Hf1 H1 R1 σ1 t1 p1 k1
    exact hr Hf1 H1 R1 σ1 st1 E p1 (PostS.from t1 k1 h)
  | ret d st1 => rw [e] at h; exact h
  | brk st1 => rw [e] at h; exact h
  | cont st1 => rw [e] at h; exact h
  | exc x st1 => rw [e] at h; exact h
  | fail => rw [e] at h; exact h
theorem css_one {s : Stmt} {m : MS} (hs : CS ca X L s m) : CSs ca X L [s] m := fun Hf H R σ st E p h => wss_of (pss_one (ws_ps X s)) (hs Hf H R σ st E p h)
/-- an expression's answer, then a statement's end -/
theorem post_toS {r : Res D} {k : D → Sl → SR} {E : Ends} {Q : VK} (h : PostS ca X L Hf H S σ (r.toS k) E) (hk : ∀ d st Hf1 H1 P R1 v, r = .ok d st → Tr S Hf H (jn P R1) Hf1 H1 → PR ca X.K Hf1 H1 P (Rep ca X.K Hf1 H1 P v d) R1 σ st → PostS ca X L Hf1 H1 (jn P R1) σ (k d st) E → Q v H1) : Post ca X Hf H S σ r Q := by
  cases r with
  | fail => exact h
  | exc x st => exact fun Hf' H' R' cls dd t p => h Hf' H' R' σ cls dd t p Lk.refl
  | ok d st => exact fun Hf' H' P R' v t p => hk d st Hf' H' P R' v rfl t p (PostS.from t (Lk.refl) h)
theorem cs_asg {tg e : Expr} {m : ME} {t : TG} {g : MG} {pos : Pos} (he : CE ca X e m) (hg : CG ca X L tg t g) (hp : PS X (.Assign [tg] e pos) (tAsg (We X e) t)) : CS ca X L (.Assign [tg] e pos) (sAsg m g) := fun Hf H R σ st E p h => by
  refine ws_of hp (he Hf H R σ st _ p ?_)
  refine post_toS h fun d st1 Hf1 H1 P1 R1 v e1 t1 p1 h1 => ?_
  refine hg.2 Hf1 H1 P1 R1 σ st1 v d _ p1 ?_
  cases eg : g d st1 with
  | fail => rw [eg] at h1; exact h1
  | exc x st2 => rw [eg] at h1; exact h1
  | ok a st2 =>
    rw [eg] at h1
    exact fun Hf2 H2 R2 σ2 t2 p2 k2 => h1 Hf2 H2 R2 σ2 t2 p2 k2
theorem cs_expr {e : Expr} {m : ME} {pos : Pos} (he : CE ca X e m) (hs : swapsWith e none pos.line X.env = pure false := by rfl) : CS ca X L (.Expr e pos) (sExpr m) := fun Hf H R σ st E p h => by
  refine ws_of (ps_expr (we_pe X e) hs) (he Hf H R σ st _ p ?_)
  refine post_toS h fun d st1 Hf1 H1 P1 R1 v e1 t1 p1 h1 => ?_
  exact h1 Hf1 H1 R1 σ (Tr.refl fun b q => q.elim (fun q => q.elim) .inr) p1.drop Lk.refl
theorem cs_ret {e : Expr} {m : ME} {pos : Pos} (he : CE ca X e m) : CS ca X L (.Return (some e) pos) (sRet m) := fun Hf H R σ st E p h => by
  refine ws_of (ps_ret (we_pe X e)) (he Hf H R σ st _ p ?_)
  refine post_toS h fun d st1 Hf1 H1 P1 R1 v e1 t1 p1 h1 => ?_
  exact h1 Hf1 H1 P1 R1 σ v (Tr.refl fun b q => q) p1 Lk.refl
theorem cs_if {c : Expr} {a b : List Stmt} {mc : MT} {ma mb : MS} {pos : Pos} (hc : CT ca X c mc) (ha : CSs ca X L a ma) (hb : CSs ca X L b mb) : CS ca X L (.If c a b pos) (sIf mc ma mb) := fun Hf H R σ st E p h => by
  refine ws_of (ps_if (wt_pt X c) (wss_pss X a) (wss_pss X b)) (hc Hf H R σ st _ p ?_)
  unfold sIf at h
  cases e : mc st with
  | fail => rw [e] at h; exact h
  | exc x st1 => rw [e] at h; exact fun Hf' H' R' cls dd t p => h Hf' H' R' σ cls dd t p Lk.refl
  | ok k st1 =>
    rw [e] at h
    intro Hf1 H1 R1 t1 p1
    cases k with
    | true => exact ha Hf1 H1 R1 σ st1 E p1 (PostS.from t1 (Lk.refl) h)
    | false => exact hb Hf1 H1 R1 σ st1 E p1 (PostS.from t1 (Lk.refl) h)
/-! ### loops -/
/-- what an iterator yields: the data ds, from any heap onwards -/
def ItD (ca : Nat → Addr) (K : PySem.W.Frag) (J : It) (Hf : Hp) (ds : List D) : Prop := ∀ Hf' H', Ex Hf Hf' → Ex Hf' H' → TpH Hf' H' →
  (∀ i, i < ds.length → J.go i H') ∧ J.stop ds.length H' ∧ ∀ i d x H2, ds[i]? = some d → J.yld i H' x H2 →
    hot d = false ∧ ∃ Hf2, Ex Hf' Hf2 ∧ Ex H' H2 ∧ Ex Hf2 H2 ∧ (∀ b o, Hf2 b = some o → Hf' b = some o ∨ H' b = none) ∧ TpH Hf2 H2 ∧ Rep ca K Hf2 H2 Em x d
def PostI (ca : Nat → Addr) (X : Cx) (Hf H : Hp) (S : Rg) (σ : L2.St) (r : Res (List D)) (Q : It → Hp → Prop) : Prop :=
  match r with
  | .ok ds st => ∀ Hf' H' R' J, Tr S Hf H (jn Em R') Hf' H' → PR ca X.K Hf' H' Em True R' σ st → ItD ca X.K J Hf' ds → Q J H'
  | .exc x st => ∀ Hf' H' R' cls dd, Tr S Hf H (jn Em R') Hf' H' → PR ca X.K Hf' H' Em (XcR ca X.K Hf' H' cls dd x) R' σ st → wX X cls dd σ H'
  | .fail => False
def CI (ca : Nat → Addr) (X : Cx) (tg iter : Expr) (wi : TI) (src : Sl → Res (List D)) : Prop := PI X tg iter wi ∧ ∀ (Hf H : Hp) (R : Nat → Rg) (σ : L2.St) (st : Sl) (Q : It → Hp → Prop), PR ca X.K Hf H Em True R σ st → PostI ca X Hf H (jn Em R) σ (src st) Q → wi σ H Q
/-- an item has come: the heap has grown by what stands -/
theorem PR.yield {Hf2 H2 : Hp} (p : PR ca K Hf H Em True R σ st) (h1 : Ex Hf Hf2) (h2 : Ex H H2) (h3 : Ex Hf2 H2) (h4 : ∀ b o, Hf2 b = some o → Hf b = some o ∨ H b = none) (h5 : TpH Hf2 H2) : PR ca K Hf2 H2 Em True R σ st ∧ Tr (jn Em R) Hf H (jn Em R) Hf2 H2 := by
  refine ⟨⟨trivial, p.len, fun i d e => ?_, p.dj, p.dp, ⟨h3, fun b q => ?_, fun b q => ?_, mkTp⟩⟩, ⟨h1, fun b o e _ => h2 b o e, fun b q => .inl q, fun b o e => ?_⟩⟩
  · obtain ⟨v, e1, r⟩ := p.at_ i d e
    exact ⟨v, e1, r.keep h1 fun b _ o e => h2 b o e⟩
  · obtain ⟨o, e⟩ := p.w.dm b q
    exact ⟨o, h2 b o e⟩
  · cases e : Hf2 b with
    | none => rfl
    | some o =>
      rcases h4 b o e with z | z
      · rw [p.w.nf b q] at z; cases z
      · obtain ⟨o, e⟩ := p.w.dm b q
        rw [e] at z; cases z
  · rcases h4 b o e with z | z
    · exact .inl z
    · exact .inr (.inr z)
/-- what stands, with all the tuples -/
def withT (Hf H : Hp) : Hp := fun b => match Hf b with
  | some o => some o
  | none => match H b with
    | some (.tup xs) => some (.tup xs)
    | _ => none
theorem withT_ex : Ex Hf (withT Hf H) := fun b o e => by unfold withT; rw [e]
theorem withT_or {b : Addr} {o : HO} (e : withT Hf H b = some o) : Hf b = some o ∨ (Hf b = none ∧ H b = some o ∧ ∃ xs, o = .tup xs) := by
  unfold withT at e
  cases e1 : Hf b with
  | some u => rw [e1] at e; exact .inl e
  | none =>
    rw [e1] at e
    dsimp only at e
    split at e
    · rename_i xs e2
      cases e
      exact .inr ⟨rfl, e2, _, rfl⟩
    · cases e
theorem withT_in (h : Ex Hf H) : Ex (withT Hf H) H := fun b o e => by
  rcases withT_or e with e | ⟨_, e, _⟩
  · exact h b o e
  · exact e
theorem withT_tp (h : Ex Hf H) : TpH (withT Hf H) H := fun b xs e => by
  unfold withT
  cases e1 : Hf b with
  | some u =>
    have := h b u e1
    rw [e] at this
    cases this
    rfl
  | none =>
    dsimp only
    rw [e]
theorem withT_fz {H2 : Hp} (t : TpH Hf H) (h2 : Ex H H2) {b : Addr} {o : HO} (e : withT Hf H2 b = some o) : Hf b = some o ∨ H b = none := by
  rcases withT_or e with e | ⟨e1, e, xs, rfl⟩
  · exact .inl e
  · cases e2 : H b with
    | none => exact .inr rfl
    | some u =>
      have := h2 b u e2
      rw [e] at this
      cases this
      exact .inl (t b xs e2)
/-- the heap has grown by what nobody has -/
theorem PR.grown {H2 : Hp} (p : PR ca K Hf H Em True R σ st) (h2 : Ex H H2) : PR ca K (withT Hf H2) H2 Em True R σ st ∧ Tr (jn Em R) Hf H (jn Em R) (withT Hf H2) H2 :=
  have hx : Ex Hf H2 := fun b o e => h2 b o (p.w.ex b o e)
  p.yield withT_ex h2 (withT_in hx) (fun b o e => withT_fz p.w.tp h2 e) (withT_tp hx)
theorem cs_for {tg iter : Expr} {body : List Stmt} {wi : TI} {src : Sl → Res (List D)} {t : TG} {g : MG} {mb : MS} {pos : Pos} (hi : CI ca X tg iter wi src) (hg : CG ca X L tg t g) (hb : CSs ca X L body mb)
    (hp : PassesOwn (model X.prog X.w) X.A X.env X.xe) (hc : X.calm = true) (hs : ∀ x, foldedSetIterable iter X.env x = pure x := by intro _; rfl) : CS ca X L (.For tg iter body [] pos) (sFor src g mb) := fun Hf H R σ st E p h => by
  refine ws_of (ps_for hp hc hi.1 hg.1 (wss_pss X body) hs) (hi.2 Hf H R σ st _ p ?_)
  unfold sFor at h
  cases e : src st with
  | fail => rw [e] at h; exact h
  | exc x st1 => rw [e] at h; exact fun Hf' H' R' cls dd t p => h Hf' H' R' σ cls dd t p Lk.refl
  | ok ds st1 =>
    rw [e] at h
    intro Hf1 H1 R1 J t1 p1 it
    have h1 := PostS.from (σ' := σ) t1 (Lk.refl) h
    clear h
    have h2 : PostS ca X L Hf1 H1 (jn Em R1) σ (forD g mb ds st1) E := h1
    clear h1
    refine ⟨fun i m σ' H' => m = ds.length - i ∧ i ≤ ds.length ∧ ∃ Hf' R' st', Tr (jn Em R1) Hf1 H1 (jn Em R') Hf' H' ∧ PR ca X.K Hf' H' Em True R' σ' st' ∧ Lk L σ σ' ∧ forD g mb (ds.drop i) st' = forD g mb ds st1,
      ⟨ds.length, by simp, Nat.zero_le _, Hf1, R1, st1, Tr.refl fun _ q => q, p1, Lk.refl, rfl⟩, ?_⟩
    rintro i m σ' H' ⟨rfl, hi', Hf', R', st', t', p', k', ef⟩
    obtain ⟨g1, g2, g3⟩ := it Hf' H' t'.fx p'.w.ex p'.w.tp
    by_cases hlt : i < ds.length
    · refine .inr ⟨g1 i hlt, fun σ2 H2 => i + 1 ≤ ds.length ∧ ∃ Hf2 R2 st2, Tr (jn Em R1) Hf1 H1 (jn Em R2) Hf2 H2 ∧ PR ca X.K Hf2 H2 Em True R2 σ2 st2 ∧ Lk L σ σ2 ∧ forD g mb (ds.drop (i + 1)) st2 = forD g mb ds st1,
        fun σ2 H2 ⟨q1, q2⟩ => ⟨ds.length - (i + 1), by omega, rfl, q1, q2⟩, fun x H2 hy => ?_⟩
      obtain ⟨d, ed⟩ : ∃ d, ds[i]? = some d := ⟨ds[i], by simp [hlt]⟩
      obtain ⟨hd, Hf2, x1, x2, x3, x4, x5, rx⟩ := g3 i d x H2 ed hy
      obtain ⟨p2, t2⟩ := p'.yield x1 x2 x3 x4 x5
      have edr : ds.drop i = d :: ds.drop (i + 1) := by
        rw [List.drop_eq_getElem_cons
            hlt]
        simp only [List.getElem?_eq_getElem hlt, Option.some.injEq] at ed
        rw [ed]
      rw [edr, forD] at ef
      have h3 : PostS ca X L Hf2 H2 (jn Em R') σ' ((g d st').toN fun st1 => match mb st1 with
        | .next st2 => forD g mb (ds.drop (i + 1)) st2
        | .cont st2 => forD g mb (ds.drop (i + 1)) st2
        | .brk st2 => .next st2
        | r => r) E := by
        refine PostS.from (t'.trans t2) k' ?_
        have := h2
        rw [← ef] at this
        exact this
      refine hg.2 Hf2 H2 Em R' σ' st' x d _ (p2.put rx) ?_
      cases eg : g d st' with
      | fail => rw [eg] at h3; exact h3
      | exc x st2 => rw [eg] at h3; exact h3
      | ok a st2 =>
        rw [eg] at h3 ef
        intro Hf3 H3 R3 σ3 t3 p3 k3
        have h4 := PostS.from t3 k3 h3
        clear h3
        refine hb Hf3 H3 R3 σ3 st2 _ p3 ?_
        dsimp only [Res.toN] at h4 ef
        cases eb : mb st2 with
        | next st4 =>
          rw [eb] at ef
          exact fun Hf4 H4 R4 σ4 t4 p4 k4 => ⟨by omega, Hf4, R4, st4, ((t'.trans t2).trans t3).trans t4, p4, Lk.trans k' (Lk.trans k3 k4), ef⟩
        | cont st4 =>
          rw [eb] at ef
          exact fun Hf4 H4 R4 σ4 t4 p4 k4 => ⟨by omega, Hf4, R4, st4, ((t'.trans t2).trans t3).trans t4, p4, Lk.trans k' (Lk.trans k3 k4), ef⟩
        | brk st4 =>
          rw [eb] at h4
          exact h4
        | ret d st4 => rw [eb] at h4; exact h4
        | exc x st4 => rw [eb] at h4; exact h4
        | fail => rw [eb] at h4; exact h4
    · have e1 : i = ds.length := by omega
      subst e1
      refine .inl ⟨g2, ?_⟩
      rw [List.drop_length, forD] at ef
      rw [← ef] at h2
      exact h2 Hf' H' R' σ' t' p' k'
end
end DL

/-! DL7: argument lists, displays, defs and their calls. -/
namespace DL
open PySem L2 PyProof.Rows

/-- arguments whose values are handed over -/
def CL (ca : Nat → Addr) (X : Cx) (es : List Expr) (m : MA) : Prop := ∀ (Hf H : Hp) (R : Nat → Rg) (σ : L2.St) (st : Sl) (Q : List V → Hp → Prop), PR ca X.K Hf H Em True R σ st → PostL ca X Hf H (jn Em R) σ (m st) Q → WL X es σ H Q

section
variable {ca : Nat → Addr} {K : PySem.W.Frag} {Hf H Hf1 H1 Hf2 H2 : Hp} {S S1 S2 P P1 P2 : Rg} {R R1 R2 : Nat → Rg} {pp qq : Prop} {σ σ' : L2.St} {st st' : Sl} {v : V} {d : D} {vs : List V} {ds : List D} {X : Cx} {L : List Nat}

/-- a pending thing beside a step of the slots alone -/
theorem PR.carry {ppf : Hp → Hp → Prop} (p1 : PR ca K Hf1 H1 P1 pp R1 σ st) (t2 : Tr (jn Em R1) Hf1 H1 (jn P2 R2) Hf2 H2) (p2 : PR ca K Hf2 H2 P2 qq R2 σ' st') :
    (∀ b, P1 b → ∀ o, H1 b = some o → H2 b = some o) ∧ (∀ b, P1 b → P2 b → False) ∧ (∀ i b, P1 b → R2 i b → False) ∧ Wl Hf2 H2 (jn (fun b => P1 b ∨ P2 b) R2) ∧ Tr (jn P1 R1) Hf1 H1 (jn (fun b => P1 b ∨ P2 b) R2) Hf2 H2 := by
  have wP : Wl Hf1 H1 P1 := p1.w.mono fun b q => .inl q
  have bs := t2.beside wP fun b q1 q2 => q2.elim (fun q => q.elim) fun ⟨i, q⟩ => p1.dp i b q1 q
  refine ⟨bs.1, fun b q1 q2 => bs.2.1 b q1 (.inl q2), fun i b q1 q2 => bs.2.1 b q1 (.inr ⟨i, q2⟩), ⟨p2.w.ex, fun b q => ?_, fun b q => ?_, mkTp⟩, ?_⟩
  · rcases q with (q | q) | q
    · exact (bs.2.2 b q).1
    · exact p2.w.dm b (.inl q)
    · exact p2.w.dm b (.inr q)
  · rcases q with (q | q) | q
    · exact (bs.2.2 b q).2
    · exact p2.w.nf b (.inl q)
    · exact p2.w.nf b (.inr q)
  · refine ((t2.with P1).more fun b q => ?_).less fun b q => ?_
    · rcases q with q | q
      · exact .inl q
      · exact q.elim (fun q => q.elim) .inr
    · rcases q with (q | q) | q
      · exact .inl q
      · exact .inr (.inl q)
      · exact .inr (.inr q)

theorem cl_nil : CL ca X [] aNil := fun Hf H R σ st Q p h => h Hf H Em R [] (Tr.refl fun _ q => q) (p.toP (fun _ q => q) .nil)
theorem cl_cons {e : Expr} {es : List Expr} {m : ME} {ms : MA} (he : CE ca X e m) (hr : CL ca X es ms) : CL ca X (e :: es) (aCons m ms) := fun Hf H R σ st Q p h => by
  refine he Hf H R σ st _ p ?_
  unfold aCons at h
  cases e1 : m st with
  | fail => rw [e1] at h; exact h
  | exc x st1 => rw [e1] at h; exact h
  | ok d st1 =>
    rw [e1] at h
    intro Hf1 H1 P1 R1 v t1 p1
    have h1 := PostL.from (less0 t1) h
    refine hr Hf1 H1 R1 σ st1 _ p1.drop ?_
    dsimp only [Res.bind] at h1
    cases e2 : ms st1 with
    | fail => rw [e2] at h1; exact h1
    | exc x st2 => rw [e2] at h1; exact h1
    | ok ds st2 =>
      rw [e2] at h1
      intro Hf2 H2 P2 R2 vs t2 p2
      obtain ⟨c1, c2, c3, c4, c5⟩ := PR.carry (ppf := fun _ _ => True) p1 t2 p2
      have hh : PostL ca X Hf H (jn Em R) σ (.ok (d :: ds) st2) Q := by
        have h2 := h
        dsimp only [Res.bind] at h2
        rw [e2] at h2
        exact h2
      exact hh Hf2 H2 (fun b => P1 b ∨ P2 b) R2 (v :: vs) (t1.trans c5) ⟨.cons (p1.pend.keep t2.fx c1) p2.pend (fun _ q => .inl q) (fun _ q => .inr q) c2, p2.len, p2.at_, p2.dj, fun i b q1 q2 => q1.elim (fun q => c3 i b q q2) fun q => p2.dp i b q q2, c4⟩
theorem wl_app : ∀ {es fs : List Expr} {σ : L2.St} {H : Hp} {Q : List V → Hp → Prop}, WL X es σ H (fun xs H1 => WL X fs σ H1 fun ys H2 => Q (xs ++ ys) H2) → WL X (es ++ fs) σ H Q
  | [], _, _, _, _, h => h
  | e :: es, fs, σ, H, Q, h => We.mk fun pins s I => thn (We.run h pins s I) fun u s1 ⟨v, H1, I1, r1, q1⟩ => ⟨v, H1, I1, r1, wl_app (es := es) q1⟩
/-- displays -/
theorem ce_lst {es : List Expr} {ms : MA} {pos : Pos} (h : CL ca X es ms) (hst : NoStar es) : CE ca X (.List es pos) (eLst ms) := fun Hf H R σ st Q p hq => by
  refine we_of (pe_lst (wa_pa X es)) (wa_wl (fun e' r' q => noStar_suf hst e' r' q _) (h Hf H R σ st _ p ?_))
  unfold eLst at hq
  cases e : ms st with
  | fail => rw [e] at hq; exact hq
  | exc x st1 => rw [e] at hq; exact hq
  | ok ds st1 =>
    rw [e] at hq
    intro Hf1 H1 P1 R1 vs t1 p1
    by_cases hl : ds.length ≤ 16777216
    · dsimp only [Res.bind] at hq
      rw [if_pos hl] at hq
      refine ⟨by rw [p1.pend.length, ← sz_eq]; exact hl, fun a ha => ?_⟩
      have hne : ∀ b, jn P1 R1 b → b ≠ a := fun b q z => by
        subst z
        obtain ⟨o, e⟩ := p1.w.dm b q
        rw [ha] at e; cases e
      obtain ⟨w1, w2⟩ := wl_new (o := .lst vs) p1.w ha
      refine hq Hf1 (upd H1 a (.lst vs)) (fun b => P1 b ∨ b = a) R1 (.ref a) (t1.trans ⟨fun _ _ e => e, fun b o e _ => upd_keep ha b o e, fun b q => ?_, fun _ _ e => .inl e⟩) ⟨.lstO (.inr rfl) upd_same ((p1.pend.keep (fun _ _ e => e) fun b _ o e => upd_keep ha b o e).mono fun b q => ⟨.inl q, hne b (.inl q)⟩), p1.len, fun i d e => ?_, p1.dj, fun i b q1 q2 => ?_, ⟨w1.ex, fun b q => ?_, fun b q => ?_, mkTp⟩⟩
      · rcases q with (q | q) | q
        · exact .inl (.inl q)
        · subst q; exact .inr ha
        · exact .inl (.inr q)
      · obtain ⟨v, e1, r⟩ := p1.at_ i d e
        exact ⟨v, e1, r.keep (fun _ _ e => e) fun b _ o e => upd_keep ha b o e⟩
      · rcases q1 with q1 | q1
        · exact p1.dp i b q1 q2
        · exact hne b (.inr ⟨i, q2⟩) q1
      · rcases q with (q | q) | q
        · exact w1.dm b (.inl q)
        · subst q; exact ⟨_, upd_same⟩
        · exact w1.dm b (.inr q)
      · rcases q with (q | q) | q
        · exact w1.nf b (.inl q)
        · subst q; exact w2
        · exact w1.nf b (.inr q)
    · dsimp only [Res.bind] at hq
      rw [if_neg hl] at hq; exact hq.elim
/-- a pending thing is let stand -/
theorem PR.standP (p : PR ca K Hf H P pp R σ st) : ∃ Hf', Ex Hf Hf' ∧ (∀ b, P b → ∀ o, H b = some o → Hf' b = some o) ∧ PR ca K Hf' H Em True R σ st ∧ Tr (jn P R) Hf H (jn Em R) Hf' H := by
  let Hf' : Hp := fun b => if Classical.propDecidable (P b) |>.decide then H b else Hf b
  have hy : ∀ b, P b → Hf' b = H b := fun b q => by
    show (if _ then _ else _) = _
    rw [if_pos (by simpa using q)]
  have hno : ∀ b, ¬ P b → Hf' b = Hf b := fun b q => by
    show (if _ then _ else _) = _
    rw [if_neg (by simpa using q)]
  have hx : Ex Hf Hf' := fun b o e => by
    by_cases q : P b
    · rw [hy b q]; exact p.w.ex b o e
    · rw [hno b q]; exact e
  refine ⟨Hf', hx, fun b q o e => by rw [hy b q]; exact e, ⟨trivial, p.len, fun i d e => ?_, p.dj, fun _ _ q => q.elim, ⟨fun b o e => ?_, fun b q => ?_, fun b q => ?_, mkTp⟩⟩, ⟨hx, fun _ _ e _ => e, fun b q => .inl (.inr (q.elim (fun q => q.elim) id)), fun b o e => ?_⟩⟩
  · obtain ⟨v, e1, r⟩ := p.at_ i d e
    exact ⟨v, e1, r.keep hx fun _ _ _ e => e⟩
  · by_cases z : P b
    · rw [hy b z] at e; exact e
    · rw [hno b z] at e; exact p.w.ex b o e
  · exact p.w.dm b (.inr (q.elim (fun q => q.elim) id))
  · obtain ⟨i, q⟩ := q.elim (fun q : Em b => q.elim) id
    rw [hno b fun z => p.dp i b z q]; exact p.w.nf b (.inr ⟨i, q⟩)
  · by_cases z : P b
    · exact .inr (.inl (.inl z))
    · rw [hno b z] at e; exact .inl e
theorem ce_tup {es : List Expr} {ms : MA} {k : Nat} {pos : Pos} (h : CL ca X es ms) (hst : NoStar es) : CE ca X (.Tuple es k pos) (eTup ms) := fun Hf H R σ st Q p hq => by
  refine we_of (pe_tup (wa_pa X es)) (wa_wl (fun e' r' q => noStar_suf hst e' r' q _) (h Hf H R σ st _ p ?_))
  unfold eTup at hq
  cases e : ms st with
  | fail => rw [e] at hq; exact hq
  | exc x st1 => rw [e] at hq; exact hq
  | ok ds st1 =>
    rw [e] at hq
    intro Hf1 H1 P1 R1 vs t1 p1
    by_cases hl : ds.length ≤ 16777216
    · dsimp only [Res.bind] at hq
      rw [if_pos hl] at hq
      refine ⟨by rw [p1.pend.length, ← sz_eq]; exact hl, fun a ha => ?_⟩
      obtain ⟨Hf2, x1, x2, p2, t2⟩ := p1.standP
      exact post_newT p2 (Post.from (t1.trans t2) hq) (fun b q => .inr q) ha (p1.pend.frz x1 x2)
    · dsimp only [Res.bind] at hq
      rw [if_neg hl] at hq; exact hq.elim

/-! ### a def's promise by its pure meaning -/
def PostC (ca : Nat → Addr) (K : PySem.W.Frag) (Hf H : Hp) (P : Rg) (vs : List V) (r : CR) (Q : VK) (E : XK) : Prop :=
  match r with
  | .ok d ps => ∀ Hf' H' P' Rp v, Tr P Hf H (jn P' Rp) Hf' H' → PR ca K Hf' H' P' (Rep ca K Hf' H' P' v d) Rp (vs.map some) ps → Q v H'
  | .exc x ps => ∀ Hf' H' Rp cls dd, Tr P Hf H (jn Em Rp) Hf' H' → PR ca K Hf' H' Em (XcR ca K Hf' H' cls dd x) Rp (vs.map some) ps → E cls dd H'
  | .fail => False
def spM (ca : Nat → Addr) (K : PySem.W.Frag) (m : MF) : Sp := fun vs H Q E => ∃ Hf P ds, RepL ca K Hf H P vs ds ∧ Wl Hf H P ∧ PostC ca K Hf H P vs (m ds) Q E

theorem getS_keepL {n : Nat} {i : Nat} (h : getS (keepL L n st) i = some d) : i < n ∧ i ∈ L ∧ getS st i = some d := by
  unfold keepL at h
  have e : getS ((List.range n).map fun j => if j ∈ L then getS st j else none) i = (if i < n then (if i ∈ L then getS st i else none) else none) := by
    unfold getS
    rw [List.getElem?_map]
    by_cases hi : i < n
    · rw [List.getElem?_range hi, if_pos hi]; rfl
    · rw [List.getElem?_eq_none (by simp; omega), if_neg hi]; rfl
  rw [e] at h
  by_cases hi : i < n
  · rw [if_pos hi] at h
    by_cases hl : i ∈ L
    · rw [if_pos hl] at h; exact ⟨hi, hl, h⟩
    · rw [if_neg hl] at h; cases h
  · rw [if_neg hi] at h; cases h
/-- a list's regions, one by one -/
theorem repL_split : ∀ {vs : List V} {ds : List D} {S : Rg}, RepL ca K Hf H S vs ds → ∃ R : Nat → Rg, (∀ i d, ds[i]? = some d → ∃ v, vs[i]? = some v ∧ Rep ca K Hf H (R i) v d) ∧ (∀ i j b, R i b → R j b → i = j) ∧ ∀ i b, R i b → S b
  | _, _, _, .nil => ⟨fun _ => Em, fun i d h => by simp at h, fun _ _ _ q => q.elim, fun _ _ q => q.elim⟩
  | _, _, _, .cons (S1 := S1) r1 r2 h1 h2 h3 => by
    obtain ⟨R, a, b, c⟩ := repL_split r2
    refine ⟨fun i => match i with | 0 => S1 | i + 1 => R i, fun i d e => ?_, fun i j x q1 q2 => ?_, fun i x q => ?_⟩
    · cases i with
      | zero => simp at e; subst e; exact ⟨_, rfl, r1⟩
      | succ i => obtain ⟨v, e1, r⟩ := a i d (by simpa using e); exact ⟨v, by simpa using e1, r⟩
    · cases i <;> cases j
      · rfl
      · exact (h3 x q1 (c _ _ q2)).elim
      · exact (h3 x q2 (c _ _ q1)).elim
      · rw [b _ _ x q1 q2]
    · cases i with
      | zero => exact h1 x q
      | succ i => exact h2 x (c i x q)
/-- the parameters as they are handed back -/
theorem PR.params {n : Nat} (p : PR ca K Hf H P pp R σ' st) (hv : vs.length = n) (hk : ∀ i ∈ L, i < n → σ'[i]? = some (vs[i]?)) (q : qq) {P' : Rg} (hP : ∀ b, P' b → P b) : PR ca K Hf H P' qq (fun i b => i ∈ L ∧ i < n ∧ R i b) (vs.map some) (keepL L n st) where
  pend := q
  len := by simp [keepL, hv]
  at_ := fun i d e => by
    obtain ⟨h1, h2, h3⟩ := getS_keepL e
    obtain ⟨v, e1, r⟩ := p.at_ i d h3
    have := hk i h2 h1
    rw [e1] at this
    have e2 : some v = vs[i]? := Option.some.inj this
    refine ⟨v, ?_, r.mono fun b q => ⟨h2, h1, q⟩⟩
    rw [List.getElem?_map, ← e2]; rfl
  dj := fun i j b q1 q2 => p.dj i j b q1.2.2 q2.2.2
  dp := fun i b q1 q2 => p.dp i b (hP b q1) q2.2.2
  w := p.w.mono fun b q => q.elim (fun q => .inl (hP b q)) fun ⟨i, q⟩ => .inr ⟨i, q.2.2⟩
theorem start_at {N : List Str} {i : Nat} (h : i < vs.length) : (L2.start N vs)[i]? = some (vs[i]?) := by
  unfold L2.start
  rw [List.getElem?_append_left (by simpa using h), List.getElem?_map]
  rw [List.getElem?_eq_getElem h]; rfl
end

section
variable {ca : Nat → Addr} {P : Program} {w : World} {K : PySem.W.Frag} {mg : Str → Option Value} {base : Heap} {L : List Nat}
theorem spM_len {n w : Nat} {mb : MS} {vs : List V} {H : Hp} {Q : VK} {E : XK} (h : spM ca K (fn n w L mb) vs H Q E) : vs.length = n := by
  obtain ⟨Hf, Pg, ds, r, w1, post⟩ := h
  rw [r.length]
  unfold fn at post
  by_cases e : ds.length = n
  · exact e
  · rw [if_neg e] at post; exact post.elim
end

section
variable {ca : Nat → Addr} {Hf H Hf1 H1 Hf2 H2 : Hp} {S P : Rg} {R R1 R2 : Nat → Rg} {σ : L2.St} {st : Sl} {v : V} {d : D} {vs : List V} {ds : List D} {X : Cx} {L : List Nat}
/-- what a callee hands back, for a caller that lends nothing -/
theorem postC_of {m : MF} {Q : VK} (p : PR ca X.K Hf H P (RepL ca X.K Hf H P vs ds) R σ st) (h : Post ca X Hf H (jn P R) σ (match m ds with | .ok d _ => .ok d st | .exc x _ => .exc x st | .fail => .fail) Q) :
    PostC ca X.K Hf H P vs (m ds) Q (fun cls dd H' => wX X cls dd σ H') := by
  have wR : Wl Hf H (tot R) := p.w.mono fun b q => .inr q
  have old : ∀ {Hf' H' : Hp} {S' P' : Rg} {pp : Prop}, Tr P Hf H S' Hf' H' → Wl Hf' H' S' → (∀ b, P' b → S' b) → pp → PR ca X.K Hf' H' P' pp R σ st ∧ Tr (jn P R) Hf H (jn P' R) Hf' H' := fun {Hf' H' S' P' pp} t w hP q => by
    have bs := t.beside wR fun b q1 q2 => by obtain ⟨i, q1⟩ := q1; exact p.dp i b q2 q1
    refine ⟨⟨q, p.len, fun i d e => ?_, p.dj, fun i b q1 q2 => bs.2.1 b ⟨i, q2⟩ (hP b q1), ⟨w.ex, fun b q => ?_, fun b q => ?_, mkTp⟩⟩, ?_⟩
    · obtain ⟨v, e1, r⟩ := p.at_ i d e
      exact ⟨v, e1, r.keep t.fx fun b q o e => bs.1 b ⟨i, q⟩ o e⟩
    · rcases q with q | q
      · exact w.dm b (hP b q)
      · exact (bs.2.2 b q).1
    · rcases q with q | q
      · exact w.nf b (hP b q)
      · exact (bs.2.2 b q).2
    · refine ((t.with (tot R)).more fun b q => ?_).less fun b q => ?_
      · exact q.elim .inr .inl
      · exact q.elim (fun q => .inr (hP b q)) .inl
  cases em : m ds with
  | fail => rw [em] at h; exact h
  | ok d ps =>
    rw [em] at h
    intro Hf' H' P' Rp v t q
    obtain ⟨p2, t2⟩ := old (P' := P') t (q.w) (fun b z => .inl z) q.pend
    exact h Hf' H' P' R v t2 p2
  | exc x ps =>
    rw [em] at h
    intro Hf' H' Rp cls dd t q
    obtain ⟨p2, t2⟩ := old (P' := Em) t (q.w) (fun b z => z.elim) q.pend
    exact h Hf' H' R cls dd t2 p2
end
end DL

/-! DL8: a call with a slot lent; what is walked; list comprehensions; methods of lists. -/
namespace DL
open PySem L2 PyProof.Rows

def iR1 (m : ME) : Sl → Res (List D) := fun st => (m st).bind fun d st1 => match d with
  | .int j => if small62 j then .ok (rangeD 0 j.toNat) st1 else .fail
  | _ => .fail
def iR2 (a b : ME) : Sl → Res (List D) := fun st => (a st).bind fun d st1 => (b st1).bind fun e st2 => match d, e with
  | .int i, .int j => if small62 i && small62 j then .ok (rangeD i (j - i).toNat) st2 else .fail
  | _, _ => .fail
def iRD (a b : ME) : Sl → Res (List D) := fun st => (a st).bind fun d st1 => (b st1).bind fun e st2 => match d, e with
  | .int i, .int j => if small62 i && small62 j then .ok (rangeC i (-1) (i - j).toNat) st2 else .fail
  | _, _ => .fail
section
variable {ca : Nat → Addr} {K : PySem.W.Frag} {Hf H Hf1 H1 Hf2 H2 : Hp} {S S1 S2 P P1 P2 : Rg} {R R1 R2 : Nat → Rg} {pp qq : Prop} {σ σ' : L2.St} {st st' : Sl} {v : V} {d : D} {vs : List V} {ds : List D} {X : Cx} {L : List Nat}

/-- what goes to a call -/
theorem repL_app' {P : Rg} (r : RepL ca K Hf H S1 vs ds) {ws : List V} {es : List D} (r2 : RepL ca K Hf H S2 ws es) (h1 : ∀ b, S1 b → P b) (h2 : ∀ b, S2 b → P b) (h3 : ∀ b, S1 b → S2 b → False) : RepL ca K Hf H P (vs ++ ws) (ds ++ es) := by
  induction ds generalizing vs S1 P with
  | nil => cases r; exact r2.mono h2
  | cons d ds ih =>
    cases r with
    | cons q1 q2 k1 k2 k3 =>
      rename_i T1 T2 v vs
      refine .cons (S2 := fun b => T2 b ∨ S2 b) q1 (ih q2 (fun b q => .inl q) (fun b q => .inr q) fun b x y => h3 b (k2 b x) y) (fun b q => h1 b (k1 b q)) (fun b q => q.elim (fun q => h1 b (k2 b q)) (h2 b)) fun b x y => ?_
      rcases y with y | y
      · exact k3 b x y
      · exact h3 b (k1 b x) y
/-- what a callee hands back, one slot lent: place j among the arguments -/
theorem postC_lent {m : MF} {Q : VK} {i j : Nat} {a : V} (p : PR ca X.K Hf H P (RepL ca X.K Hf H P vs ds) R σ st) (hv : vs[j]? = some a) (hs : σ[i]? = some (some a)) (hi : getS st i = none) (hil : i < st.length)
    (h : Post ca X Hf H (jn P R) σ (match m ds with | .ok d ps => .ok d (st.set i (getS ps j)) | .exc x ps => .exc x (st.set i (getS ps j)) | .fail => .fail) Q) :
    PostC ca X.K Hf H P vs (m ds) Q (fun cls dd H' => wX X cls dd σ H') := by
  have wR : Wl Hf H (tot R) := p.w.mono fun b q => .inr q
  have old : ∀ {Hf' H' : Hp} {P' : Rg} {Rp : Nat → Rg} {ps : Sl} {pp : Prop}, Tr P Hf H (jn P' Rp) Hf' H' → PR ca X.K Hf' H' P' pp Rp (vs.map some) ps → PR ca X.K Hf' H' P' pp (fun k b => if k = i then Rp j b else R k b) σ (st.set i (getS ps j)) ∧ Tr (jn P R) Hf H (jn P' fun k b => if k = i then Rp j b else R k b) Hf' H' := fun {Hf' H' P' Rp ps pp} t w => by
    have bs := t.beside wR fun b q1 q2 => by obtain ⟨i, q1⟩ := q1; exact p.dp i b q2 q1
    refine ⟨⟨w.pend, by rw [List.length_set]; exact p.len, fun k d e => ?_, fun k l b q1 q2 => ?_, fun k b q1 q2 => ?_, ⟨w.w.ex, fun b q => ?_, fun b q => ?_, mkTp⟩⟩, ?_⟩
    · rcases set_get e with ⟨z1, z2⟩ | ⟨z1, z2⟩
      · subst z1
        obtain ⟨v, e1, r⟩ := w.at_ j d z2
        rw [List.getElem?_map, hv] at e1
        cases e1
        exact ⟨_, hs, by simpa using r⟩
      · obtain ⟨v, e1, r⟩ := p.at_ k d z2
        refine ⟨v, e1, ?_⟩
        rw [show (fun b => if k = i then Rp j b else R k b) = R k from by funext b; rw [if_neg (Ne.symm z1)]]
        exact r.keep t.fx fun b q o e => bs.1 b ⟨k, q⟩ o e
    · split at q1 <;> split at q2
      · rename_i a c; exact a.trans c.symm
      · exact (bs.2.1 b ⟨l, q2⟩ (.inr ⟨j, q1⟩)).elim
      · exact (bs.2.1 b ⟨k, q1⟩ (.inr ⟨j, q2⟩)).elim
      · exact p.dj k l b q1 q2
    · split at q2
      · exact w.dp j b q1 q2
      · exact bs.2.1 b ⟨k, q2⟩ (.inl q1)
    · rcases q with q | ⟨k, q⟩
      · exact w.w.dm b (.inl q)
      · split at q
        · exact w.w.dm b (.inr ⟨j, q⟩)
        · exact (bs.2.2 b ⟨k, q⟩).1
    · rcases q with q | ⟨k, q⟩
      · exact w.w.nf b (.inl q)
      · split at q
        · exact w.w.nf b (.inr ⟨j, q⟩)
        · exact (bs.2.2 b ⟨k, q⟩).2
    · refine ((t.with (tot R)).more fun b q => ?_).less fun b q => ?_
      · exact q.elim .inr .inl
      · rcases q with q | ⟨k, q⟩
        · exact .inr (.inl q)
        · split at q
          · exact .inr (.inr ⟨j, q⟩)
          · exact .inl ⟨k, q⟩
  cases em : m ds with
  | fail => rw [em] at h; exact h
  | ok d ps =>
    rw [em] at h
    intro Hf' H' P' Rp v t q
    obtain ⟨p2, t2⟩ := old t q
    exact h Hf' H' P' _ v t2 p2
  | exc x ps =>
    rw [em] at h
    intro Hf' H' Rp cls dd t q
    obtain ⟨p2, t2⟩ := old t q
    exact h Hf' H' _ cls dd t2 p2
/-- the arguments of such a call: to the heap where the callee starts -/
theorem lent_args {es fs : List Expr} {e : Expr} {i : Nat} {ms ns : MA} {m : MF} {Q : VK} {E : L2.St → XK} (ha : CL ca X es ms) (he : PE X e (tVar i)) (hb : CL ca X fs ns) (p : PR ca X.K Hf H Em True R σ st)
    (h : Post ca X Hf H (jn Em R) σ (eCallL m ms i ns st) Q) (hE : E σ = fun cls dd H' => wX X cls dd σ H') : WL X (es ++ e :: fs) σ H fun vs H' => spM ca X.K m vs H' Q (E σ) := by
  refine wl_app (ha Hf H R σ st _ p ?_)
  unfold eCallL at h
  cases e1 : ms st with
  | fail => rw [e1] at h; exact h
  | exc x st1 => rw [e1] at h; exact h
  | ok ds st1 =>
    rw [e1] at h
    intro Hf1 H1 P1 R1 vs t1 p1
    have h1 := Post.from t1 h
    clear h
    dsimp only [Res.bind] at h1
    cases eg : getS st1 i with
    | none => rw [eg] at h1; exact h1.elim
    | some d0 =>
      rw [eg] at h1
      obtain ⟨v0, ev0, _⟩ := p1.at_ i d0 eg
      refine we_of he ⟨v0, ev0, hb Hf1 H1 R1 σ st1 _ p1.drop ?_⟩
      have h2 : Post ca X Hf1 H1 (jn P1 R1) σ ((ns st1).bind fun es st2 =>
          (match getS st2 i with
          | some d => if hot d then (match m (ds ++ d :: es) with
              | .ok r ps => .ok r (st2.set i (getS ps ds.length))
              | .exc x ps => .exc x (st2.set i (getS ps ds.length))
              | .fail => .fail) else (match m (ds ++ d :: es) with
              | .ok r _ => .ok r st2
              | .exc x _ => .exc x st2
              | .fail => .fail)
          | none => .fail)) Q := h1
      clear h1
      cases e2 : ns st1 with
      | fail => rw [e2] at h2; exact h2
      | exc x st2 => rw [e2] at h2; exact fun Hf' H' R' cls dd t q => h2 Hf' H' R' cls dd (t.more fun b q => q.elim (fun q => q.elim) .inr) q
      | ok es' st2 =>
        rw [e2] at h2
        intro Hf2 H2 P2 R2 ws t2 p2
        obtain ⟨c1, c2, c3, c4, c5⟩ := PR.carry (ppf := fun _ _ => True) p1 t2 p2
        have h3 := Post.from c5 h2
        clear h2
        dsimp only [Res.bind] at h3
        have r1 := p1.pend.keep t2.fx c1
        have r2 := p2.pend
        cases eg2 : getS st2 i with
        | none => rw [eg2] at h3; exact h3.elim
        | some d =>
          rw [eg2] at h3
          dsimp only at h3
          rw [hE]
          by_cases hh : hot d = true
          · rw [if_pos hh] at h3
            obtain ⟨v, ev, p3⟩ := p2.drop.take eg2
            rw [ev0] at ev
            cases ev
            -- the pending arguments, the lent slot's own
            have hd1 : ∀ b, (P1 b ∨ P2 b) → R2 i b → False := fun b q1 q2 => q1.elim (fun q => c3 i b q q2) fun q => p2.dp i b q q2
            have rr : RepL ca X.K Hf2 H2 (fun b => (P1 b ∨ P2 b) ∨ R2 i b) (vs ++ v0 :: ws) (ds ++ d :: es') :=
              repL_app' (S1 := P1) (S2 := fun b => R2 i b ∨ P2 b) r1 (.cons p3.pend r2 (fun _ q => .inl q) (fun _ q => .inr q) fun b q1 q2 => p2.dp i b q2 q1) (fun b q => .inl (.inl q)) (fun b q => q.elim .inr fun q => .inl (.inr q)) fun b q1 q2 => q2.elim (fun q => c3 i b q1 q) (c2 b q1)
            have p4 : PR ca X.K Hf2 H2 (fun b => (P1 b ∨ P2 b) ∨ R2 i b) (RepL ca X.K Hf2 H2 (fun b => (P1 b ∨ P2 b) ∨ R2 i b) (vs ++ v0 :: ws) (ds ++ d :: es')) (fun j b => j ≠ i ∧ R2 j b) σ (st2.set i none) :=
              ⟨rr, p3.len, p3.at_, p3.dj, fun k b q1 q2 => q1.elim (fun q => q.elim (fun q => c3 k b q q2.2) fun q => p2.dp k b q q2.2) fun q => q2.1 (p2.dj k i b q2.2 q), c4.mono fun b q => by
                rcases q with (q | q) | ⟨k, q⟩
                · exact .inl q
                · exact .inr ⟨i, q⟩
                · exact .inr ⟨k, q.2⟩⟩
            refine ⟨Hf2, _, _, rr, p4.w.mono fun b q => .inl q, postC_lent (i := i) (j := vs.length) (a := v0) p4 (by simp) ev0 (by rw [getS_set, if_pos rfl]; split <;> rfl) (by rw [List.length_set]; exact getS_lt eg2) ?_⟩
            rw [r1.length]
            have hset : ∀ o : Option D, (st2.set i none).set i o = st2.set i o := fun o => by rw [List.set_set]
            simp only [hset]
            refine Post.from (Tr.refl fun b q => ?_) h3
            rcases q with (q | q) | ⟨k, q⟩
            · exact .inl q
            · exact .inr ⟨i, q⟩
            · exact .inr ⟨k, q.2⟩
          · rw [if_neg hh] at h3
            have hh' : hot d = false := by simpa using hh
            obtain ⟨v, ev, rd⟩ := p2.drop.at_ i d eg2
            rw [ev0] at ev
            cases ev
            have rr : RepL ca X.K Hf2 H2 (fun b => P1 b ∨ P2 b) (vs ++ v0 :: ws) (ds ++ d :: es') :=
              repL_app' (S1 := P1) (S2 := P2) r1 (.cons (S1 := Em) (rd.cold hh') r2 (fun _ q => q.elim) (fun _ q => q) fun b q1 q2 => q1) (fun b q => .inl q) (fun b q => .inr q) c2
            have p4 : PR ca X.K Hf2 H2 (fun b => P1 b ∨ P2 b) (RepL ca X.K Hf2 H2 (fun b => P1 b ∨ P2 b) (vs ++ v0 :: ws) (ds ++ d :: es')) R2 σ st2 :=
              ⟨rr, p2.len, p2.at_, p2.dj, fun k b q1 q2 => q1.elim (fun q => c3 k b q q2) fun q => p2.dp k b q q2, c4⟩
            exact ⟨Hf2, _, _, rr, p4.w.mono fun b q => .inl q, postC_of p4 h3⟩
/-! ### what is walked -/
theorem sqL_ex {a : Addr} {xs : List V} (hx : Ex Hf H) (h : SqL K Hf a xs) : SqL K H a xs := by
  rcases h with h | h
  · refine .inl ?_
    rcases h with h | ⟨o, h⟩
    · exact .inl (hx _ _ h)
    · exact .inr ⟨o, hx _ _ h⟩
  · exact .inr h
theorem sqT_ex {a : Addr} {xs : List V} (hx : Ex Hf H) (h : SqT K Hf a xs) : SqT K H a xs := by
  rcases h with h | h
  · refine .inl ?_
    rcases h with h | ⟨o, h⟩
    · exact .inl (hx _ _ h)
    · exact .inr ⟨o, hx _ _ h⟩
  · exact .inr h
theorem colds_at {ds : List D} (h : colds ds = true) {i : Nat} {d : D} (e : ds[i]? = some d) : hot d = false := by
  unfold colds at h
  have := List.all_eq_true.mp h d (List.mem_of_getElem? e)
  unfold cold at this
  simpa using this
/-- the end of an item that makes nothing -/
theorem itd_plain {J : It} {n : Nat} (hn : ds.length = n) (h1 : ∀ H', Ex Hf H' → ∀ i, i < n → J.go i H') (h2 : ∀ H', Ex Hf H' → J.stop n H') (h3 : ∀ H', Ex Hf H' → ∀ i d x H2, ds[i]? = some d → J.yld i H' x H2 → H2 = H' ∧ hot d = false ∧ ∀ Hf', Ex Hf Hf' → Rep ca K Hf' H' Em x d) : ItD ca K J Hf ds := by
  subst hn
  intro Hf' H' x1 x2 x5
  have x3 : Ex Hf H' := fun a o e => x2 a o (x1 a o e)
  refine ⟨h1 H' x3, h2 H' x3, fun i d x H2 e y => ?_⟩
  obtain ⟨rfl, hd, r⟩ := h3 H' x3 i d x H2 e y
  exact ⟨hd, Hf', fun _ _ e => e, fun _ _ e => e, x2, fun _ _ e => .inl e, x5, r Hf' x1⟩
theorem itd_list {a : Addr} (h : SqL K Hf a vs) (r : RepL ca K Hf H Em vs ds) (hc : colds ds = true) : ItD ca K (Itl K a) Hf ds := by
  refine itd_plain rfl (fun H' x i hi => ?_) (fun H' x => ⟨vs, sqL_ex x h, by rw [r.length]; exact Nat.le_refl _⟩) fun H' x i d v H2 e y => ?_
  · have : i < vs.length := by rw [r.length]; exact hi
    exact ⟨vs, vs[i], sqL_ex x h, by simp [this]⟩
  · obtain ⟨e1, y⟩ := y
    refine ⟨e1, colds_at hc e, fun Hf' x1 => ?_⟩
    obtain ⟨v', T, e2, r2, z⟩ := repL_at r e
    have := y vs (sqL_ex x h)
    rw [e2] at this
    cases this
    exact (r2.mono z).keep x1 fun _ q => q.elim
theorem itd_tup {a : Addr} (h : SqT K Hf a vs) (r : RepL ca K Hf H Em vs ds) (hc : colds ds = true) : ItD ca K (Itt K a) Hf ds := by
  refine itd_plain rfl (fun H' x i hi => ?_) (fun H' x => ⟨vs, sqT_ex x h, by rw [r.length]; exact Nat.le_refl _⟩) fun H' x i d v H2 e y => ?_
  · have : i < vs.length := by rw [r.length]; exact hi
    exact ⟨vs, vs[i], sqT_ex x h, by simp [this]⟩
  · obtain ⟨e1, y⟩ := y
    refine ⟨e1, colds_at hc e, fun Hf' x1 => ?_⟩
    obtain ⟨v', T, e2, r2, z⟩ := repL_at r e
    have := y vs (sqT_ex x h)
    rw [e2] at this
    cases this
    exact (r2.mono z).keep x1 fun _ q => q.elim
theorem itd_range {lo : Int} {n : Nat} : ItD ca K (Itr lo n) Hf (rangeD lo n) := by
  refine itd_plain (n := n) (by simp [rangeD]) (fun H' x i hi => hi) (fun H' x => Nat.le_refl _) fun H' x i d v H2 e y => ?_
  obtain ⟨rfl, rfl⟩ := y
  have hi : i < n := by
    have := (List.getElem?_eq_some_iff.mp e).1
    simpa [rangeD] using this
  have : d = .int (lo + (i : Nat)) := by
    simp only [rangeD, List.getElem?_map, List.getElem?_range hi, Option.map_some, Option.some.injEq] at e
    exact e.symm
  subst this
  exact ⟨rfl, rfl, fun _ _ => .int⟩
/-- the pairs of an enumeration -/
def enumD : Nat → List D → List D
  | _, [] => []
  | n, d :: ds => .tup [.int (n : Int), d] :: enumD (n + 1) ds
theorem enumD_get : ∀ {ds : List D} {n i : Nat} {e : D}, (enumD n ds)[i]? = some e → ∃ d, ds[i]? = some d ∧ e = .tup [.int ((n + i : Nat) : Int), d]
  | [], n, i, e, h => by simp [enumD] at h
  | d :: ds, n, 0, e, h => by
    simp [enumD] at h
    exact ⟨d, rfl, h.symm⟩
  | d :: ds, n, i + 1, e, h => by
    rw [enumD, List.getElem?_cons_succ] at h
    obtain ⟨d', h1, h2⟩ := enumD_get h
    refine ⟨d', by simpa using h1, ?_⟩
    rw [h2, show n + 1 + i = n + (i + 1) from by omega]
theorem enumD_length : ∀ {ds : List D} {n : Nat}, (enumD n ds).length = ds.length
  | [], _ => rfl
  | d :: ds, n => by simp [enumD, enumD_length]
theorem itd_enum {a : Addr} (h : SqL K Hf a vs) (r : RepL ca K Hf H Em vs ds) (hc : colds ds = true) : ItD ca K (Ite K a) Hf (enumD 0 ds) := by
  intro Hf' H' x1 x2 x5
  have x3 : Ex Hf H' := fun a o e => x2 a o (x1 a o e)
  refine ⟨fun i hi => ?_, ⟨vs, sqL_ex x3 h, by rw [r.length, enumD_length]; exact Nat.le_refl _⟩, fun i d x H2 e y => ?_⟩
  · have : i < vs.length := by rw [r.length]; rw [enumD_length] at hi; exact hi
    exact ⟨vs, vs[i], sqL_ex x3 h, by simp [this]⟩
  · obtain ⟨T, xv, rfl, hT, rfl, y⟩ := y
    obtain ⟨d', e1, rfl⟩ := enumD_get e
    obtain ⟨v', T', e2, r2, z⟩ := repL_at r e1
    have := y vs (sqL_ex x3 h)
    rw [e2] at this
    have e3 : v' = xv := Option.some.inj this
    subst e3
    have hT' : Hf' T = none := by
      cases q : Hf' T with
      | none => rfl
      | some o => rw [x2 T o q] at hT; cases hT
    refine ⟨rfl, upd Hf' T (.tup [.int (i : Nat), v']), fun b o e => upd_keep hT' b o e, fun b o e => upd_keep hT b o e, fun b o e => ?_, fun b o e => ?_, x5.upd2, ?_⟩
    · by_cases q : b = T
      · subst q; rw [upd_same] at e ⊢; exact e
      · rw [upd_ne q] at e ⊢; exact x2 b o e
    · by_cases q : b = T
      · subst q; exact .inr hT
      · rw [upd_ne q] at e; exact .inl e
    · refine .tup upd_same (.cons (S1 := Em) (S2 := Em) (by rw [Nat.zero_add]; exact .int) (.cons (S1 := Em) (S2 := Em) ((r2.mono z).keep (fun b o e => upd_keep hT' b o (x1 b o e)) fun _ q => q.elim) .nil (fun _ q => q) (fun _ q => q) fun _ q _ => q) (fun _ q => q) (fun _ q => q) fun _ q _ => q)
/-- a value that is walked: it is let stand -/
theorem PR.walked {xs : List D} (p : PR ca K Hf H P (Rep ca K Hf H P v d) R σ st) (h : lstItems d = some xs) (hc : colds xs = true) : ∃ Hf' a vs, v = .ref a ∧ SqL K Hf' a vs ∧ RepL ca K Hf' H Em vs xs ∧ PR ca K Hf' H Em True R σ st ∧ Tr (jn P R) Hf H (jn Em R) Hf' H := by
  obtain ⟨Hf', x1, x2, p', t'⟩ := p.standP
  refine ⟨Hf', ?_⟩
  have hr := p.pend
  cases hr with
  | lstF e r => cases h; exact ⟨_, _, rfl, .inl (.inl (x1 _ _ e)), repL_cold (r.keep x1 fun _ _ _ e => e) hc, p', t'⟩
  | lstO s e r => cases h; exact ⟨_, _, rfl, .inl (.inl (x2 _ s _ e)), repL_cold (r.keep x1 fun _ _ _ e => e) hc, p', t'⟩
  | scr e => cases h; exact ⟨_, _, rfl, sqL_ex x1 e, repL_mapInt _, p', t'⟩
  | _ => cases h
theorem PR.walkedT {xs : List D} (p : PR ca K Hf H P (Rep ca K Hf H P v (.tup xs)) R σ st) : ∃ Hf' a vs, v = .ref a ∧ SqT K Hf' a vs ∧ RepL ca K Hf' H Em vs xs ∧ PR ca K Hf' H Em True R σ st ∧ Tr (jn P R) Hf H (jn Em R) Hf' H := by
  obtain ⟨Hf', x1, x2, p', t'⟩ := p.standP
  have hr := p.pend
  cases hr with
  | tup e r => exact ⟨Hf', _, _, rfl, .inl (.inl (x1 _ _ e)), repL_em r x1, p', t'⟩
def tupItems : D → Option (List D)
  | .tup xs => some xs
  | _ => none
/-- an expression's answer, then what is walked -/
theorem post_iE {r : Res D} {p : D → Option (List D)} {Q : It → Hp → Prop} {Q' : VK} (h : PostI ca X Hf H S σ (r.bind fun d st1 => match p d with | some ds => if colds ds then .ok ds st1 else .fail | none => .fail) Q)
    (hk : ∀ d ds st Hf1 H1 P R1 v, p d = some ds → colds ds = true → Tr S Hf H (jn P R1) Hf1 H1 → PR ca X.K Hf1 H1 P (Rep ca X.K Hf1 H1 P v d) R1 σ st → PostI ca X Hf1 H1 (jn P R1) σ (.ok ds st) Q → Q' v H1) : Post ca X Hf H S σ r Q' := by
  cases r with
  | fail => exact h
  | exc x st => exact h
  | ok d st =>
    dsimp only [Res.bind] at h
    intro Hf1 H1 P R1 v t1 p1
    cases e : p d with
    | none => rw [e] at h; exact h.elim
    | some ds =>
      rw [e] at h
      dsimp only at h
      by_cases hc : colds ds = true
      · rw [if_pos hc] at h
        exact hk d ds st Hf1 H1 P R1 v e hc t1 p1 fun Hf2 H2 R2 J t2 p2 i2 => h Hf2 H2 R2 J (t1.trans t2) p2 i2
      · rw [if_neg hc] at h; exact h.elim
theorem ci_list {tg e : Expr} {m : ME} (hp : PI X tg e (iList X.K (We X e))) (he : CE ca X e m) : CI ca X tg e (iList X.K (We X e)) (iE m lstItems) := ⟨hp, fun Hf H R σ st Q p h => by
  refine he Hf H R σ st _ p (post_iE h fun d ds st1 Hf1 H1 P R1 v e1 hc t1 p1 h1 => ?_)
  obtain ⟨Hf', a, vs, rfl, s1, r1, p2, t2⟩ := p1.walked e1 hc
  exact ⟨a, rfl, ⟨vs, sqL_ex p2.w.ex s1⟩, h1 Hf' H1 R1 _ t2 p2 (itd_list s1 r1 hc)⟩⟩
theorem ci_tup {tg e : Expr} {m : ME} (hp : PI X tg e (iTup X.K (We X e))) (he : CE ca X e m) : CI ca X tg e (iTup X.K (We X e)) (iE m tupItems) := ⟨hp, fun Hf H R σ st Q p h => by
  refine he Hf H R σ st _ p (post_iE h fun d ds st1 Hf1 H1 P R1 v e1 hc t1 p1 h1 => ?_)
  cases d with
  | tup xs =>
    cases e1
    obtain ⟨Hf', a, vs, rfl, s1, r1, p2, t2⟩ := p1.walkedT
    exact ⟨a, rfl, ⟨vs, sqT_ex p2.w.ex s1⟩, h1 Hf' H1 R1 _ t2 p2 (itd_tup s1 r1 hc)⟩
  | _ => cases e1⟩
/-- enumerate(list) -/
def iEn (m : ME) : Sl → Res (List D) := fun st => (m st).bind fun d st1 => match lstItems d with
  | some ds => if colds ds then .ok (enumD 0 ds) st1 else .fail
  | none => .fail
theorem ci_enum {e : Expr} {m : ME} {p pos tpos : Pos} {elts : List Expr} {kk : Nat} (hg : Gl X "enumerate") (hm : X.mg "enumerate" = none) (he : CE ca X e m) (hs : starEach [e] X.env = [(false, eval e X.env)] := by rfl) :
    CI ca X (.Tuple elts kk tpos) (.Call (.Name "enumerate" p) [e] [] pos) (iEnum X.K (tCons (We X e) tNil)) (iEn m) := ⟨pi_enum hg hm (pa_cons (we_pe X e) pa_nil hs) hs, fun Hf H R σ st Q p h => by
  refine he Hf H R σ st _ p ?_
  unfold iEn at h
  cases r : m st with
  | fail => rw [r] at h; exact h
  | exc x st => rw [r] at h; exact h
  | ok d st1 =>
    rw [r] at h
    dsimp only [Res.bind] at h
    intro Hf1 H1 P R1 v t1 p1
    cases e : lstItems d with
    | none => rw [e] at h; exact h.elim
    | some ds =>
      rw [e] at h
      dsimp only at h
      by_cases hc : colds ds = true
      · rw [if_pos hc] at h
        obtain ⟨Hf', a, vs, rfl, s1, r1, p2, t2⟩ := p1.walked e hc
        exact ⟨a, vs, rfl, sqL_ex p2.w.ex s1, h Hf' H1 R1 _ (t1.trans t2) p2 (itd_enum s1 r1 hc)⟩
      · rw [if_neg hc] at h; exact h.elim⟩
theorem small62_ok {i : Int} (h : small62 i = true) : -(2 ^ 62) ≤ i ∧ i < 2 ^ 62 := of_decide_eq_true h
theorem ci_range1 {tg a : Expr} {m : ME} {p pos : Pos} (hg : Gl X "range") (hm : X.mg "range" = none) (ha : CE ca X a m) (hst : NoStar [a] := by exact ⟨fun _ => rfl, trivial⟩) : CI ca X tg (.Call (.Name "range" p) [a] [] pos) (iRng1 (Wa X [a])) (iR1 m) :=
  ⟨pi_range1 hg hm (wa_pa X [a]) (hst.1 _), fun Hf H R σ st Q p h => by
    refine wa_wl (fun e' r' q => noStar_suf hst e' r' q _) (ha Hf H R σ st _ p ?_)
    unfold iR1 at h
    cases r : m st with
    | fail => rw [r] at h; exact h
    | exc x st => rw [r] at h; exact h
    | ok d st1 =>
      rw [r] at h
      intro Hf1 H1 P R1 v t1 p1
      dsimp only [Res.bind] at h
      cases d with
      | int j =>
        dsimp only at h
        by_cases hj : small62 j = true
        · rw [if_pos hj] at h
          have := small62_ok hj
          show ∃ j : Int, _
          rw [rep_int p1.pend]
          exact ⟨j, rfl, this.1, this.2, h Hf1 H1 R1 _ (less0 t1) p1.drop itd_range⟩
        · rw [if_neg hj] at h; exact h.elim
      | _ => exact h.elim⟩
end
end DL

/-! DL9: comprehensions; lists of ranges; slices; methods of lists. -/
namespace DL
open PySem L2 PyProof.Rows

/-- what is raised is not followed -/
def Res.noX {α : Type} (r : Res α) : Res α :=
  match r with
  | .exc _ _ => .fail
  | r => r
def wipeS (st : Sl) : List Nat → Sl
  | [] => st
  | v :: vs => (wipeS st vs).set v none
def compD (g : MG) (t : MT) (e : ME) (vs : List Nat) : List D → Sl → List D → Res (List D)
  | [], st, acc => .ok acc st
  | d :: ds, st, acc => (g d st).noX.bind fun _ st1 => (t st1).noX.bind fun k st2 => if k then (e st2).noX.bind fun y st3 => if acc.length < 16777216 then compD g t e vs ds (wipeS st3 vs) (acc ++ [y]) else .fail
    else compD g t e vs ds (wipeS st2 vs) acc
def eLc (src : Sl → Res (List D)) (g : MG) (t : MT) (e : ME) (vs : List Nat) : ME := fun st => (src st).bind fun ds st1 => (compD g t e vs ds (wipeS st1 vs) []).bind fun acc st2 => .ok (.lst true acc) st2
def tYesM : MT := fun st => .ok true st

section
variable {ca : Nat → Addr} {K : PySem.W.Frag} {Hf H Hf1 H1 Hf2 H2 : Hp} {S S1 S2 P P1 P2 : Rg} {R R1 R2 : Nat → Rg} {pp qq : Prop} {σ σ' : L2.St} {st st' : Sl} {v : V} {d : D} {vs : List V} {ds : List D} {X : Cx} {L : List Nat}

theorem wipe_get {w : List Nat} {σ : L2.St} {i : Nat} : (wipe σ w)[i]? = if i ∈ w then (if i < σ.length then some none else none) else σ[i]? := by
  induction w with
  | nil => simp [wipe]
  | cons v w ih =>
    show ((wipe σ w).set v none)[i]? = _
    by_cases e : v = i
    · subst e
      rw [List.getElem?_set_self']
      simp only [List.mem_cons_self, if_true]
      by_cases h : v < σ.length
      · rw [if_pos h]
        have : v < (wipe σ w).length := by rw [wipe_length]; exact h
        rw [List.getElem?_eq_getElem this]; rfl
      · rw [if_neg h, List.getElem?_eq_none (by rw [wipe_length]; omega)]; rfl
    · rw [List.getElem?_set_ne e, ih]
      have : (i ∈ v :: w) = (i ∈ w) := by simp [List.mem_cons, Ne.symm e]
      simp only [this]
theorem wipe_eq {w : List Nat} (hl : σ'.length = σ.length) (h : ∀ i, i ∉ w → σ'[i]? = σ[i]?) : wipe σ' w = wipe σ w := by
  apply List.ext_getElem?
  intro i
  rw [wipe_get, wipe_get, hl]
  split
  · rfl
  · exact h i (by assumption)
/-- all places but w -/
def but (n : Nat) (w : List Nat) : List Nat := (List.range n).filter fun i => decide (i ∉ w)
theorem wipe_lk {w : List Nat} (k : Lk (but σ.length w) σ σ') : wipe σ' w = wipe σ w := wipe_eq k.1 fun i hi => by
  by_cases h : i < σ.length
  · exact k.2 i (List.mem_filter.mpr ⟨List.mem_range.mpr h, by simpa using hi⟩)
  · rw [List.getElem?_eq_none (by rw [k.1]; omega), List.getElem?_eq_none (by omega)]
theorem wipe_wipe {w : List Nat} : wipe (wipe σ w) w = wipe σ w := wipe_eq (wipe_length σ w) fun i hi => by rw [wipe_get, if_neg hi]
theorem wipeS_len {w : List Nat} {st : Sl} : (wipeS st w).length = st.length := by
  induction w with
  | nil => rfl
  | cons v w ih => show ((wipeS st w).set v none).length = _; rw [List.length_set, ih]
theorem wipeS_get {w : List Nat} {st : Sl} {i : Nat} (h : getS (wipeS st w) i = some d) : i ∉ w ∧ getS st i = some d := by
  induction w with
  | nil => exact ⟨by simp, h⟩
  | cons v w ih =>
    rcases set_get (show getS ((wipeS st w).set v none) i = some d from h) with ⟨h1, h2⟩ | ⟨h1, h2⟩
    · cases h2
    · obtain ⟨h3, h4⟩ := ih h2
      exact ⟨by simp [h3, Ne.symm h1], h4⟩
/-- the slots w forgotten, on both sides -/
theorem PR.wipe (w : List Nat) (p : PR ca K Hf H P pp R σ st) : PR ca K Hf H P pp R (wipe σ w) (wipeS st w) :=
  ⟨p.pend, by rw [wipeS_len, wipe_length]; exact p.len, fun i d e => by
    obtain ⟨h1, h2⟩ := wipeS_get e
    obtain ⟨v, e1, r⟩ := p.at_ i d h2
    exact ⟨v, by rw [wipe_get, if_neg h1]; exact e1, r⟩, p.dj, p.dp, p.w⟩
theorem PR.unwipe {w : List Nat} (p : PR ca K Hf H P pp R (L2.wipe σ w) st) : PR ca K Hf H P pp R σ st :=
  ⟨p.pend, by rw [p.len, wipe_length], fun i d e => by
    obtain ⟨v, e1, r⟩ := p.at_ i d e
    rw [wipe_get] at e1
    split at e1
    · split at e1 <;> cases e1
    · exact ⟨v, e1, r⟩, p.dj, p.dp, p.w⟩
/-- the new list, beside all -/
structure Acc (ca : Nat → Addr) (K : PySem.W.Frag) (Hf H : Hp) (Dl : Addr) (A : Rg) (acc : List D) (R : Nat → Rg) (σ : L2.St) (st : Sl) : Prop where
  pr : PR ca K Hf H (fun b => b = Dl ∨ A b) (∃ vs, H Dl = some (.lst vs) ∧ RepL ca K Hf H A vs acc ∧ ¬ A Dl) R σ st
theorem repL_snoc {A B : Rg} (r : RepL ca K Hf H A vs ds) (q : Rep ca K Hf H B v d) (dj : ∀ b, A b → B b → False) : RepL ca K Hf H (fun b => A b ∨ B b) (vs ++ [v]) (ds ++ [d]) :=
  repL_app' (S1 := A) (S2 := B) r (RepL.one q) (fun _ q => .inl q) (fun _ q => .inr q) dj

theorem eLc_src {src : Sl → Res (List D)} {g : MG} {t : MT} {e : ME} {w : List Nat} {Q : VK} (h : Post ca X Hf H S σ (eLc src g t e w st) Q) {Q' : It → Hp → Prop}
    (hk : ∀ ds st1 Hf1 H1 R1 J, Tr S Hf H (jn Em R1) Hf1 H1 → PR ca X.K Hf1 H1 Em True R1 σ st1 → ItD ca X.K J Hf1 ds → Post ca X Hf1 H1 (jn Em R1) σ ((compD g t e w ds (wipeS st1 w) []).bind fun acc st2 => .ok (.lst true acc) st2) Q → Q' J H1) : PostI ca X Hf H S σ (src st) Q' := by
  unfold eLc at h
  cases r : src st with
  | fail => rw [r] at h; exact h
  | exc x st1 => rw [r] at h; exact h
  | ok ds st1 =>
    rw [r] at h
    exact fun Hf1 H1 R1 J t1 p1 i1 => hk ds st1 Hf1 H1 R1 J t1 p1 i1 (Post.from t1 h)
/-- the reading of a list comprehension, from its parts' meanings in the blocks -/
theorem lc_read {wi : TI} {src : Sl → Res (List D)} {tg elt iter : Expr} {t : TG} {g : MG} {tt : TT} {mt : MT} {te : TE} {me : ME} {w : List Nat}
    (hi : CI ca X tg iter wi src)
    (hg : ∀ (Hf H : Hp) (P : Rg) (R : Nat → Rg) (σ : L2.St) (st : Sl) (v : V) (d : D) (Q : L2.St → Hp → Prop), PR ca X.K Hf H P (Rep ca X.K Hf H P v d) R σ st →
      (match g d st with
        | .ok _ st' => ∀ Hf' H' R' σ', Tr (jn P R) Hf H (jn Em R') Hf' H' → PR ca X.K Hf' H' Em True R' σ' st' → Lk (but σ.length w) σ σ' → Q σ' H'
        | _ => False) → t v σ H Q)
    (ht : ∀ (Hf H : Hp) (R : Nat → Rg) (σ : L2.St) (st : Sl) (Q : Bool → Hp → Prop), PR ca X.K Hf H Em True R σ st → (match mt st with
        | .ok k st' => ∀ Hf' H' R', Tr (jn Em R) Hf H (jn Em R') Hf' H' → PR ca X.K Hf' H' Em True R' σ st' → Q k H'
        | _ => False) → tt σ H Q)
    (he : ∀ (Hf H : Hp) (R : Nat → Rg) (σ : L2.St) (st : Sl) (Q : VK), PR ca X.K Hf H Em True R σ st → (match me st with
        | .ok d st' => ∀ Hf' H' P R' v, Tr (jn Em R) Hf H (jn P R') Hf' H' → PR ca X.K Hf' H' P (Rep ca X.K Hf' H' P v d) R' σ st' → Q v H'
        | _ => False) → te σ H Q)
    {Q : VK} (p : PR ca X.K Hf H Em True R σ st) (h : Post ca X Hf H (jn Em R) σ (eLc src g mt me w st) Q) : tLc wi t tt te w σ H Q := by
  refine hi.2 Hf H R σ st _ p (eLc_src h fun ds st1 Hf1 H1 R1 J t1 p1 it h1 => ?_)
  clear h t1 p
  intro Dl hD
  have hD1 : Hf1 Dl = none := (wl_new (o := .lst []) p1.w hD).2
  refine ⟨fun i m H' => m = ds.length - i ∧ i ≤ ds.length ∧ ∃ Hf' R' st' A acc, Tr (jn Em R1) Hf1 H1 (jn (fun b => b = Dl ∨ A b) R') Hf' H' ∧ Acc ca X.K Hf' H' Dl A acc R' (L2.wipe σ w) st' ∧ compD g mt me w (ds.drop i) st' acc = compD g mt me w ds (wipeS st1 w) [],
    ⟨ds.length, by simp, Nat.zero_le _, Hf1, R1, wipeS st1 w, Em, [], ?_, ⟨?_⟩, rfl⟩, ?_⟩
  · refine ⟨fun _ _ e => e, fun b o e _ => upd_keep hD b o e, fun b q => ?_, fun _ _ e => .inl e⟩
    rcases q with (q | q) | q
    · subst q; exact .inr hD
    · exact q.elim
    · exact .inl (.inr q)
  · have := (p1.wipe w).grow (o := .lst []) hD (P' := fun b => b = Dl ∨ Em b) (qq := ∃ vs, (upd H1 Dl (.lst [])) Dl = some (.lst vs) ∧ RepL ca X.K Hf1 (upd H1 Dl (.lst [])) Em vs [] ∧ ¬ Em Dl) ⟨[], upd_same, .nil, fun q => q⟩ (fun b q => q.elim id fun q => q.elim)
    exact this
  rintro i m H' ⟨rfl, hi', Hf', R', st', A, acc, t', ac, ef⟩
  have p' := ac.pr
  obtain ⟨g1, g2, g3⟩ := it Hf' H' t'.fx p'.w.ex p'.w.tp
  by_cases hlt : i < ds.length
  · refine .inr ⟨g1 i hlt, fun H2 => i + 1 ≤ ds.length ∧ ∃ Hf2 R2 st2 A2 acc2, Tr (jn Em R1) Hf1 H1 (jn (fun b => b = Dl ∨ A2 b) R2) Hf2 H2 ∧ Acc ca X.K Hf2 H2 Dl A2 acc2 R2 (L2.wipe σ w) st2 ∧ compD g mt me w (ds.drop (i + 1)) st2 acc2 = compD g mt me w ds (wipeS st1 w) [],
      fun H2 ⟨q1, q2⟩ => ⟨ds.length - (i + 1), by omega, rfl, q1, q2⟩, fun x H2 hy => ?_⟩
    obtain ⟨d, ed⟩ : ∃ d, ds[i]? = some d := ⟨ds[i], by simp [hlt]⟩
    obtain ⟨hd, Hf2, x1, x2, x3, x4, x5, rx⟩ := g3 i d x H2 ed hy
    obtain ⟨p2, t2⟩ := p'.drop.yield x1 x2 x3 x4 x5
    have edr : ds.drop i = d :: ds.drop (i + 1) := by
      rw [List.drop_eq_getElem_cons
          hlt]
      simp only [List.getElem?_eq_getElem hlt, Option.some.injEq] at ed
      rw [ed]
    rw [edr, compD] at ef
    have hnf : compD g mt me w ds (wipeS st1 w) [] = .fail → False := fun z => by rw [z] at h1; exact h1
    -- the new list is beside the slots, all the way
    obtain ⟨vs0, eD, rA, nA⟩ := p'.pend
    refine hg Hf2 H2 Em R' (L2.wipe σ w) st' x d _ (p2.put rx) ?_
    cases eg : g d st' with
    | fail => rw [eg] at ef; exact hnf ef.symm
    | exc x0 st2 => rw [eg] at ef; exact hnf ef.symm
    | ok a st2 =>
      rw [eg] at ef
      intro Hf3 H3 R3 σ3 t3 p3 k3
      have ew : L2.wipe σ3 w = L2.wipe σ w := by rw [wipe_lk k3, wipe_wipe]
      refine ⟨ew, ?_⟩
      refine ht Hf3 H3 R3 σ3 st2 _ p3 ?_
      dsimp only [Res.bind, Res.noX] at ef
      cases et : mt st2 with
      | fail => rw [et] at ef; exact hnf ef.symm
      | exc x0 st4 => rw [et] at ef; exact hnf ef.symm
      | ok k st4 =>
        rw [et] at ef
        dsimp only at ef
        intro Hf4 H4 R4 t4 p4
        have tA := (t2.trans t3).trans t4
        have pAcc : PR ca X.K Hf' H' (fun b => b = Dl ∨ A b) True R' (L2.wipe σ w) st' := p'.imp fun _ => trivial
        cases k with
        | false =>
          show _ ≤ _ ∧ _
          rw [if_neg (by decide)] at ef
          obtain ⟨c1, c2, c3, c4, c5⟩ := PR.carry (ppf := fun _ _ => True) pAcc tA p4
          refine ⟨by omega, Hf4, R4, wipeS st4 w, A, acc, (t'.trans c5).less (fun b q => ?_), ⟨?_⟩, ef⟩
          · rcases q with q | q
            · exact .inl (.inl q)
            · exact .inr q
          · have p5 : PR ca X.K Hf4 H4 (fun b => b = Dl ∨ A b) (∃ vs, H4 Dl = some (.lst vs) ∧ RepL ca X.K Hf4 H4 A vs acc ∧ ¬ A Dl) R4 σ3 st4 :=
              ⟨⟨vs0, c1 Dl (.inl rfl) _ eD, rA.keep tA.fx (fun b q => c1 b (.inr q)), nA⟩, p4.len, p4.at_, p4.dj, c3, c4.mono fun b q => by
                rcases q with q | q
                · exact .inl (.inl q)
                · exact .inr q⟩
            have := p5.wipe w
            rw [ew] at this
            exact this
        | true =>
          show te σ3 H4 _
          rw [if_pos rfl] at ef
          refine he Hf4 H4 R4 σ3 st4 _ p4 ?_
          cases ee : me st4 with
          | fail => rw [ee] at ef; exact hnf ef.symm
          | exc x0 st5 => rw [ee] at ef; exact hnf ef.symm
          | ok y st5 =>
            rw [ee] at ef
            dsimp only at ef
            intro Hf5 H5 P5 R5 vy t5 p5
            obtain ⟨c1, c2, c3, c4, c5⟩ := PR.carry (ppf := fun _ _ => True) pAcc (tA.trans t5) p5
            by_cases hl : acc.length < 16777216
            · rw [if_pos hl] at ef
              have eD5 := c1 Dl (.inl rfl) _ eD
              have rA5 := rA.keep (tA.trans t5).fx (fun b q => c1 b (.inr q))
              refine ⟨vs0, eD5, by rw [rA.length, ← sz_eq]; exact hl, by omega, Hf5, R5, wipeS st5 w, fun b => A b ∨ P5 b, acc ++ [y], ?_, ⟨?_⟩, ef⟩
              · refine ((t'.trans c5).trans ⟨fun _ _ e => e, fun b o e n => ?_, fun b q => .inl q, fun _ _ e => .inl e⟩).less fun b q => ?_
                · rw [upd_ne fun z => n (.inl (.inl (.inl z)))]; exact e
                · rcases q with (q | q | q) | q
                  · exact .inl (.inl (.inl q))
                  · exact .inl (.inl (.inr q))
                  · exact .inl (.inr q)
                  · exact .inr q
              · have hnD : ∀ b, (A b ∨ P5 b) → b ≠ Dl := fun b q z => by
                  subst z
                  rcases q with q | q
                  · exact nA q
                  · exact c2 b (.inl rfl) q
                have hk : ∀ b o, b ≠ Dl → H5 b = some o → upd H5 Dl (.lst (vs0 ++ [vy])) b = some o := fun b o n e => by rw [upd_ne n]; exact e
                have rN := (repL_snoc rA5 p5.pend fun b q1 q2 => c2 b (.inr q1) q2).keep (H' := upd H5 Dl (.lst (vs0 ++ [vy]))) (fun _ _ e => e) fun b q o e => hk b o (hnD b q) e
                have p6 : PR ca X.K Hf5 (upd H5 Dl (.lst (vs0 ++ [vy]))) (fun b => b = Dl ∨ A b ∨ P5 b) (∃ vs, (upd H5 Dl (.lst (vs0 ++ [vy]))) Dl = some (.lst vs) ∧ RepL ca X.K Hf5 (upd H5 Dl (.lst (vs0 ++ [vy]))) (fun b => A b ∨ P5 b) vs (acc ++ [y]) ∧ ¬ (A Dl ∨ P5 Dl)) R5 σ3 st5 :=
                  ⟨⟨_, upd_same, rN, fun q => hnD Dl q rfl⟩, p5.len, fun k d e => by
                    obtain ⟨v, e1, r⟩ := p5.at_ k d e
                    exact ⟨v, e1, r.keep (fun _ _ e => e) fun b q o e => hk b o (fun z => c3 k b (.inl z) q) e⟩, p5.dj, fun k b q1 q2 => by
                    rcases q1 with q | q | q
                    · exact c3 k b (.inl q) q2
                    · exact c3 k b (.inr q) q2
                    · exact p5.dp k b q q2, ⟨fun b o e => by
                      by_cases z : b = Dl
                      · subst z
                        have := c4.nf b (.inl (.inl (.inl rfl)))
                        rw [this] at e; cases e
                      · exact hk b o z (c4.ex b o e), fun b q => by
                      by_cases z : b = Dl
                      · subst z; exact ⟨_, upd_same⟩
                      · obtain ⟨o, e⟩ := c4.dm b (by
                          rcases q with (q | q | q) | q
                          · exact .inl (.inl (.inl q))
                          · exact .inl (.inl (.inr q))
                          · exact .inl (.inr q)
                          · exact .inr q)
                        exact ⟨o, hk b o z e⟩, fun b q => c4.nf b (by
                          rcases q with (q | q | q) | q
                          · exact .inl (.inl (.inl q))
                          · exact .inl (.inl (.inr q))
                          · exact .inl (.inr q)
                          · exact .inr q), mkTp⟩⟩
                have := p6.wipe w
                rw [ew] at this
                exact this
            · rw [if_neg hl] at ef; exact (hnf ef.symm).elim
  · have e1 : i = ds.length := by omega
    subst e1
    refine .inl ⟨g2, ?_⟩
    rw [List.drop_length, compD] at ef
    rw [← ef] at h1
    have h2 : Post ca X Hf1 H1 (jn Em R1) σ (.ok (.lst true acc) st') Q := h1
    obtain ⟨vs0, eD, rA, nA⟩ := p'.pend
    exact h2 Hf' H' (fun b => b = Dl ∨ A b) R' (.ref Dl) t' ((p'.unwipe).imp fun _ => .lstO (.inl rfl) eD (rA.mono fun b q => ⟨.inr q, fun z => nA (z ▸ q)⟩))

/-- a reading keeps a meaning -/
def CER (ca : Nat → Addr) (X : Cx) (te : TE) (m : ME) : Prop := ∀ (Hf H : Hp) (R : Nat → Rg) (σ : L2.St) (st : Sl) (Q : VK), PR ca X.K Hf H Em True R σ st → Post ca X Hf H (jn Em R) σ (m st) Q → te σ H Q
theorem ce_of {e : Expr} {te : TE} {m : ME} (hp : PE X e te) (h : CER ca X te m) : CE ca X e m := fun Hf H R σ st Q p hq => we_of hp (h Hf H R σ st Q p hq)
theorem not_but {n i : Nat} {w : List Nat} (h : i ∈ w) : i ∉ but n w := fun q => by
  have := (List.mem_filter.mp q).2
  simp at this
  exact this h
/-- the block of a comprehension -/
abbrev bk (X : Cx) (scope : Scope) (s : Shared) (H : Hp) (C : Addr) (cl : List (Str × Addr)) (fp : List Addr) : Cx := X.blk s H scope (compEnvC scope cl C X.env) fp
def TeB (X : Cx) (scope : Scope) (e : Expr) : TE := fun σ H Q => ∀ s H0 C cl fp, We (bk X scope s H0 C cl fp) e σ H Q
def TtB (X : Cx) (scope : Scope) (e : Expr) : TT := fun σ H Q => ∀ s H0 C cl fp, Wt (bk X scope s H0 C cl fp) e σ H Q
theorem lc_cer {wi : TI} {src : Sl → Res (List D)} {tg elt iter : Expr} {scope : Scope} {t : TG} {g : MG} {me : ME} {w : List Nat}
    (hi : CI ca X tg iter wi src) (hg : ∀ n s H C cl fp, CG ca (bk X scope s H C cl fp) (but n w) tg t g) (he : ∀ s H C cl fp, CE ca (bk X scope s H C cl fp) elt me) : CER ca X (tLc wi t tYes (TeB X scope elt) w) (eLc src g tYesM me w) :=
  fun Hf H R σ st Q p h => lc_read (elt := elt) (mt := tYesM) hi (fun Hf H P R σ st v d Q p h => (hg σ.length {} H 0 [] []).2 Hf H P R σ st v d Q p h) (fun Hf H R σ st Q p h => h Hf H R (Tr.refl fun _ q => q) p)
    (fun Hf H R σ st Q p h s H0 C cl fp => he s H0 C cl fp Hf H R σ st Q p (by
      cases e : me st with
      | ok d st1 => rw [e] at h; exact h
      | exc x st1 => rw [e] at h; exact h.elim
      | fail => rw [e] at h; exact h)) p h
theorem pe_teB {scope : Scope} {elt : Expr} : ∀ (s : Shared) (H : Hp) (C : Addr) (cl : List (Str × Addr)) (fp : List Addr), PE (bk X scope s H C cl fp) elt (TeB X scope elt) := fun s H C cl fp => ⟨fun pins s1 σ H1 Q I h => h s H C cl fp pins s1 I⟩
theorem pt_ttB {scope : Scope} {c : Expr} : ∀ (s : Shared) (H : Hp) (C : Addr) (cl : List (Str × Addr)) (fp : List Addr), PTs (bk X scope s H C cl fp) [c] (TtB X scope c) := fun s H C cl fp => pts_one ⟨fun pins s1 σ H1 Q I h => h s H C cl fp pins s1 I⟩
/-- [elt for tg in iter] -/
theorem ce_lc {wi : TI} {src : Sl → Res (List D)} {tg elt iter : Expr} {scope : Scope} {own : List (Str × Nat)} {pos : Pos} {t : TG} {g : MG} {me : ME} (hc : X.calm = true) (hN : X.N.Nodup) (hi : CI ca X tg iter wi src) (ok : BlkOk X.N X.env.scope scope own)
    (hg : ∀ n s H C cl fp, CG ca (bk X scope s H C cl fp) (but n (own.map (·.2))) tg t g) (he : ∀ s H C cl fp, CE ca (bk X scope s H C cl fp) elt me) (hs : ∀ x, foldedSetIterable iter X.env x = pure x := by intro _; rfl) :
    CE ca X (.ListComp elt [⟨tg, iter, [], 0⟩] scope pos) (eLc src g tYesM me (own.map (·.2))) :=
  ce_of (pe_lc hc hN hi.1 ok (fun s H C cl fp => (hg 0 s H C cl fp).1) (fun _ _ _ _ _ => pts_nil) pe_teB hs) (lc_cer hi hg he)
/-! ### list(range(..)) -/
end
end DL

/-! DL10: slices; methods of lists; is of truth values. -/
namespace DL
open PySem L2 PyProof.Rows

def cutO (lo hi : Option Int) : List D → Option Out
  | [x] => match lstItems x with
    | some xs => newLc (cutD xs lo hi)
    | none => none
  | _ => none
def oSl01 : List D → Option Out
  | [x, .int b] => cutO none (some b) [x]
  | _ => none
def oIsB : List D → Option Out
  | [.bl a, .bl b] => some (.val (.bl (decide (a = b))))
  | _ => none
def oNotB : List D → Option Out
  | [.bl a, .bl b] => some (.val (.bl (!decide (a = b))))
  | _ => none
def isLst (d : D) : Bool := (lstItems d).isSome
/-- a method that only looks: the receiver a slot -/
def eMt (i : Nat) (f : List D → Option Out) (os : List Opd) : ME := fun st => match getS st i with
  | some d0 => if isLst d0 then opds os st fun gs st2 => (match (getS st2 i).bind fun x => (gs st2).bind fun ys => f (x :: ys) with
    | some o => .ok o.d st2
    | none => .fail) else .fail
  | none => .fail
/-- xs.append(e), xs the slot i's own list -/
def eApp (i : Nat) (m : ME) : ME := fun st => match getS st i with
  | some d0 => if isLst d0 then (m st).bind fun d st1 => (match getS st1 i with
    | some (.lst true xs) => if xs.length < 16777216 then .ok .non (st1.set i (some (.lst true (xs ++ [d])))) else .fail
    | _ => .fail) else .fail
  | none => .fail
def ext2 : Option D → D → Option (List D)
  | some (.lst true xs), .lst _ ys => if colds ys && decide (xs.length + ys.length ≤ 16777216) then some (xs ++ ys) else none
  | _, _ => none
/-- xs.extend(e) -/
def eExt (i : Nat) (m : ME) : ME := fun st => match getS st i with
  | some d0 => if isLst d0 then (m st).bind fun d st1 => (match ext2 (getS st1 i) d with
    | some zs => .ok .non (st1.set i (some (.lst true zs)))
    | none => .fail) else .fail
  | none => .fail
section
variable {ca : Nat → Addr} {K : PySem.W.Frag} {Hf H Hf1 H1 Hf2 H2 : Hp} {S S1 S2 P P1 P2 : Rg} {R R1 R2 : Nat → Rg} {pp qq : Prop} {σ σ' : L2.St} {st st' : Sl} {v : V} {d : D} {vs : List V} {ds xs : List D} {X : Cx} {L : List Nat}

/-! ### slices of lists -/
theorem repL_cut {lo hi : Option Int} (r : RepL ca K Hf H S vs xs) (hc : colds (cutD xs lo hi) = true) : RepL ca K Hf H Em (cutV vs lo hi) (cutD xs lo hi) := by
  have rd : ∀ (n : Nat) {S : Rg} {vs : List V} {xs : List D}, RepL ca K Hf H S vs xs → RepL ca K Hf H S (vs.drop n) (xs.drop n) := by
    intro n
    induction n with
    | zero => intro S vs xs r; exact r
    | succ n ih =>
      intro S vs xs r
      cases r with
      | nil => exact .nil
      | cons r1 r2 h1 h2 h3 => exact (ih r2).mono h2
  have rt : ∀ (n : Nat) {S : Rg} {vs : List V} {xs : List D}, RepL ca K Hf H S vs xs → RepL ca K Hf H S (vs.take n) (xs.take n) := by
    intro n
    induction n with
    | zero => intro S vs xs r; exact .nil
    | succ n ih =>
      intro S vs xs r
      cases r with
      | nil => exact .nil
      | cons r1 r2 h1 h2 h3 => exact .cons r1 (ih r2) h1 h2 h3
  refine repL_cold (S := S) ?_ hc
  unfold cutV cutD
  rw [r.length]
  exact rt _ (rd _ r)
theorem os_cut {lo hi : Option Int} {x : D} {o : Out} {Q : VK} (hx : Ex Hf H) (r1 : Rep ca K Hf H S v x) (h : cutO lo hi [x] = some o) (q : OutQ ca K Hf H o Q) : rSlL K v lo hi H Q := by
  dsimp only [cutO] at h
  split at h
  · rename_i xs ei
    obtain ⟨rfl, hc, hl⟩ := newLc_some h
    obtain ⟨a, vs, T, rfl, e2, r3⟩ := rep_lstItems hx r1 ei
    exact ⟨a, vs, rfl, e2, fun p hp => q p _ hp (repL_cut r3 hc)⟩
  · cases h
/-- xs[::-1] -/
theorem repL_rev (r : RepL ca K Hf H Em vs xs) : RepL ca K Hf H Em vs.reverse xs.reverse := by
  induction xs generalizing vs with
  | nil => cases r; exact .nil
  | cons d ds ih =>
    cases r with
    | cons r1 r2 h1 h2 h3 =>
      rw [List.reverse_cons,
          List.reverse_cons]
      exact repL_app' (S1 := Em) (S2 := Em) (ih (r2.mono h2)) (RepL.one (r1.mono h1)) (fun _ q => q) (fun _ q => q) fun _ q _ => q
/-! ### methods that look -/
theorem rep_isLst (hx : Ex Hf H) (r : Rep ca K Hf H S v d) (h : isLst d = true) : tyV K "list" v H := by
  obtain ⟨xs, e⟩ := Option.isSome_iff_exists.mp h
  obtain ⟨a, vs, T, rfl, e2, r3⟩ := rep_lstItems hx r e
  exact .inl ⟨rfl, vs, e2⟩
/-! ### methods that write -/
theorem ce_app {o e : Expr} {i : Nat} {m : ME} {apos cpos : Pos} (ho : PE X o (tVar i)) (he : CE ca X e m)
    (hbase : attributeBase o "append" X.env (eval o X.env) = eval o X.env := by rfl)
    (hfew : ((backTo cpos (starEach [e] X.env)).all (fun x => !x.1) &&
        (backToKw cpos (keywordEach [] X.env)).all (fun x => x.1.isSome)
      && decide ([e].length + ([] : List Keyword).length + (if ([] : List Keyword).isEmpty then 0 else 1) < 30)) = true := by rfl)
    (hline : (apos.endLine == cpos.line) = true := by rfl) (hs : starEach [e] X.env = (false, eval e X.env) :: starEach [] X.env := by rfl) :
    CE ca X (.Call (.Attribute o "append" apos) [e] [] cpos) (eApp i m) := fun Hf H R σ st Q p h => by
  refine we_of (pe_bm PySem.F.plainAttrs_list PySem.F.slot_list_append PySem.F.type_list_append mt_append ho (pa_cons (we_pe X e) pa_nil hs) hbase hfew hline hs rfl) ?_
  unfold eApp at h
  cases g : getS st i with
  | none => rw [g] at h; exact h.elim
  | some d0 =>
    rw [g] at h
    dsimp only at h
    by_cases hl : isLst d0 = true
    · rw [if_pos hl] at h
      obtain ⟨x, ex, rx⟩ := p.at_ i d0 g
      refine ⟨x, ex, rep_isLst p.w.ex rx hl, he Hf H R σ st _ p ?_⟩
      cases em : m st with
      | fail => rw [em] at h; exact h
      | exc x0 st1 => rw [em] at h; exact h
      | ok d st1 =>
        rw [em] at h
        have h0 : Post ca X Hf H (jn Em R) σ (match getS st1 i with
          | some (.lst true xs) => if xs.length < 16777216 then .ok .non (st1.set i (some (.lst true (xs ++ [d])))) else .fail
          | _ => .fail) Q := h
        clear h
        intro Hf1 H1 P1 R1 v t1 p1
        cases g1 : getS st1 i with
        | none => rw [g1] at h0; exact h0.elim
        | some dx =>
          rw [g1] at h0
          cases dx with
          | lst ow xs =>
            cases ow with
            | false => exact h0.elim
            | true =>
              dsimp only at h0
              by_cases hz : xs.length < 16777216
              · rw [if_pos hz] at h0
                obtain ⟨a, vs, e1, ra, e2, r2⟩ := p1.drop.ownList g1
                rw [ex] at e1
                cases e1
                refine ⟨a, vs, v, rfl, rfl, e2, by rw [r2.length, ← sz_eq]; exact hz, ?_⟩
                have hk : ∀ b o, b ≠ a → H1 b = some o → upd H1 a (.lst (vs ++ [v])) b = some o := fun b o n e => by rw [upd_ne n]; exact e
                have hPa : ∀ b, P1 b → b ≠ a := fun b q z => by subst z; exact p1.dp i b q ra
                have rN := (repL_snoc r2 p1.pend fun b q1 q2 => p1.dp i b q2 q1.1).keep (H' := upd H1 a (.lst (vs ++ [v]))) (fun _ _ e => e) fun b q o e => hk b o (q.elim (fun q => q.2) (hPa b)) e
                refine h0 Hf1 (upd H1 a (.lst (vs ++ [v]))) Em (fun j b => if j = i then R1 i b ∨ P1 b else R1 j b) .non (t1.trans ⟨fun _ _ e => e, fun b o e n => hk b o (fun z => n (.inr ⟨i, z ▸ ra⟩)) e, fun b q => ?_, fun _ _ e => .inl e⟩) ⟨.non, by rw [List.length_set]; exact p1.len, fun j d' e => ?_, fun j k b q1 q2 => ?_, fun _ _ q => q.elim, ⟨fun b o e => ?_, fun b q => ?_, fun b q => ?_, mkTp⟩⟩
                · rcases q with q | ⟨j, q⟩
                  · exact q.elim
                  · split at q
                    · exact .inl (q.elim (fun q => .inr ⟨i, q⟩) .inl)
                    · exact .inl (.inr ⟨j, q⟩)
                · rcases set_get e with ⟨q1, q2⟩ | ⟨q1, q2⟩
                  · subst q1
                    cases q2
                    refine ⟨_, ex, ?_⟩
                    rw [show (fun b => if i = i then R1 i b ∨ P1 b else R1 i b) = (fun b => R1 i b ∨ P1 b) from by funext b; rw [if_pos rfl]]
                    exact .lstO (.inl ra) upd_same (rN.mono fun b q => q.elim (fun q => ⟨.inl q.1, q.2⟩) fun q => ⟨.inr q, hPa b q⟩)
                  · obtain ⟨v', e3, r3⟩ := p1.at_ j d' q2
                    refine ⟨v', e3, ?_⟩
                    rw [show (fun b => if j = i then R1 i b ∨ P1 b else R1 j b) = R1 j from by funext b; rw [if_neg (Ne.symm q1)]]
                    exact r3.keep (fun _ _ e => e) fun b q o e => hk b o (fun z => q1 (p1.dj i j a ra (z ▸ q))) e
                · split at q1 <;> split at q2
                  · rename_i z1 z2; exact z1.trans z2.symm
                  · rename_i z1 z2
                    rcases q1 with q1 | q1
                    · exact z1.trans (p1.dj i k b q1 q2)
                    · exact (p1.dp k b q1 q2).elim
                  · rename_i z1 z2
                    rcases q2 with q2 | q2
                    · exact (p1.dj j i b q1 q2).trans z2.symm
                    · exact (p1.dp j b q2 q1).elim
                  · exact p1.dj j k b q1 q2
                · have hf : Hf1 a = none := p1.w.nf a (.inr ⟨i, ra⟩)
                  have := p1.w.ex b o e
                  exact hk b o (fun z => by subst z; rw [hf] at e; cases e) this
                · have : jn P1 R1 b := by
                    rcases q with q | ⟨j, q⟩
                    · exact q.elim
                    · split at q
                      · exact q.elim (fun q => .inr ⟨i, q⟩) .inl
                      · exact .inr ⟨j, q⟩
                  obtain ⟨o, e⟩ := p1.w.dm b this
                  by_cases z : b = a
                  · subst z; exact ⟨_, upd_same⟩
                  · exact ⟨o, hk b o z e⟩
                · have : jn P1 R1 b := by
                    rcases q with q | ⟨j, q⟩
                    · exact q.elim
                    · split at q
                      · exact q.elim (fun q => .inr ⟨i, q⟩) .inl
                      · exact .inr ⟨j, q⟩
                  exact p1.w.nf b this
              · rw [if_neg hz] at h0; exact h0.elim
          | _ => exact h0.elim
    · rw [if_neg hl] at h; exact h.elim
end
end DL

/-! DL11: instances: made, their fields stored and read, properties, methods. -/
namespace DL
open PySem L2 PyProof.Rows

/-- C(..): a new instance goes to __init__ (f), which keeps its parameter 0 -/
def eMake (C : Nat) (f : MF) (ms : MA) : ME := fun st => (ms st).bind fun ds st1 => match f (.ins true C [] :: ds) with
  | .ok .non ps => (match getS ps 0 with
    | some d => .ok d st1
    | none => .fail)
  | .exc x _ => .exc x st1
  | _ => .fail
def putD (f : Str) (d : D) : List (Str × D) → List (Str × D)
  | [] => [(f, d)]
  | (g, x) :: r => if g = f then (g, d) :: r else (g, x) :: putD f d r
/-- self.f = e, self the slot i's own instance of the class C -/
def sFldM (C i : Nat) (f : Str) (m : ME) : MS := fun st => (m st).toS fun d st1 => match getS st1 i with
  | some (.ins true C' fs) => if C' = C ∧ fs.length < 1000 ∧ cold d = true then .next (st1.set i (some (.ins true C' (putD f d fs)))) else .fail
  | _ => .fail
/-- o.f -/
def oFld (C : Nat) (f : Str) : List D → Option Out
  | [.ins _ C' fs] => if C' = C then (match fs.lookup f with
    | some d => if cold d then some (.val d) else none
    | none => none) else none
  | _ => none

section
variable {ca : Nat → Addr} {K : PySem.W.Frag} {Hf H Hf1 H1 Hf2 H2 : Hp} {S S1 S2 P P1 P2 : Rg} {R R1 R2 : Nat → Rg} {pp qq : Prop} {σ σ' : L2.St} {st st' : Sl} {v : V} {d : D} {vs : List V} {ds xs : List D} {X : Cx} {L : List Nat}

/-! ### reading a field -/
theorem lookup_keys {α β : Type} : ∀ {fs : List (Str × α)} {gs : List (Str × β)} {f : Str} {j : Nat} {b : β}, fs.map (·.1) = gs.map (·.1) → gs.lookup f = some b → ∃ (j : Nat) (a : α), fs.lookup f = some a ∧ (fs.map (·.2))[j]? = some a ∧ (gs.map (·.2))[j]? = some b
  | [], [], _, _, _, _, h => by cases h
  | [], _ :: _, _, _, _, e, _ => by cases e
  | _ :: _, [], _, _, _, e, _ => by cases e
  | (x, a) :: fs, (y, b') :: gs, f, j, b, e, h => by
    simp only [List.map_cons,
        List.cons.injEq] at e
    obtain ⟨rfl, e⟩ := e
    rw [List.lookup_cons] at h ⊢
    cases hq : (f == x) with
    | true =>
      rw [hq] at h
      cases h
      exact ⟨0, a, rfl, rfl, rfl⟩
    | false =>
      rw [hq] at h
      obtain ⟨k, a', h1, h2, h3⟩ := lookup_keys (j := 0) e h
      exact ⟨k + 1, a', h1, by simpa using h2, by simpa using h3⟩
theorem rep_ins {o : Bool} {C : Nat} {gs : List (Str × D)} (hx : Ex Hf H) (r : Rep ca K Hf H S v (.ins o C gs)) : ∃ a dx fs T, v = .ref a ∧ H a = some (.ins (ca C) dx fs) ∧ fs.map (·.1) = gs.map (·.1) ∧ RepL ca K Hf H T (fs.map (·.2)) (gs.map (·.2)) := by
  cases r with
  | insF e k r => exact ⟨_, _, _, Em, rfl, hx _ _ e, k, r⟩
  | insO s e k r => exact ⟨_, _, _, _, rfl, e, k, r⟩
theorem os_fld {C : Nat} {f : Str} : OpS ca K (rl1 fun x H Q => ∃ a dx fs v, x = .ref a ∧ H a = some (.ins (ca C) dx fs) ∧ fs.lookup f = some v ∧ Q v H) (oFld C f) := fun Hf H vs ds o Q hx rd h q => by
  match ds, h with
  | [.ins ow C' gs], hh =>
    dsimp only [oFld] at hh
    by_cases hC : C' = C
    · rw [if_pos hC] at hh
      subst hC
      cases el : gs.lookup f with
      | none => rw [el] at hh; cases hh
      | some dd =>
        rw [el] at hh
        dsimp only at hh
        by_cases hc : cold dd = true
        · rw [if_pos hc] at hh
          cases hh
          obtain ⟨v, S, e1, r1⟩ := rdl1 rd rfl
          subst e1
          obtain ⟨a, dx, fs, T, rfl, e2, k, r⟩ := rep_ins hx r1
          obtain ⟨j, v', h1, h2, h3⟩ := lookup_keys (j := 0) k el
          obtain ⟨v2, T2, e3, r2, _⟩ := repL_at r h3
          rw [h2] at e3
          cases e3
          have hd : hot dd = false := by unfold cold at hc; simpa using hc
          exact ⟨a, dx, fs, v', rfl, e2, h1, q v' (r2.cold hd)⟩
        · rw [if_neg hc] at hh; cases hh
    · rw [if_neg hC] at hh; cases hh
/-- a property whose getter hands back the field f' -/
theorem ce_prop {e : Expr} {oe : Opd} {C : Nat} {f f' : Str} {p g : Addr} {k : Nat} {fd : FuncData} {ps : List Str} {pos : Pos} (c : Cls X.K (ca C)) (hp : PropOf X.K (ca C) f p g) (F : FnOk X.prog X.w X.K X.mg X.base (L2.CX X.prog X.w) k g fd ps (getSp (ca C) f')) (hr : Room (k + 1) X.A) (hb : Binds X.K fd ps []) (he : CO ca X e oe)
    (hab : attributeBase e f X.env (eval e X.env) = eval e X.env := by rfl) : CE ca X (.Attribute e f pos) (eOp (oFld C f') [oe]) :=
  ce_op (es := [e]) (fun σ H Q h => we_of (pe_prop (E := E0) (we_pe X e) c hp F hr hb .nil passL hab) (by
    refine ⟨fun pins s I => ?_⟩
    refine thn (We.run h pins s I) fun u s1 hh => ?_
    obtain ⟨x, H1, I1, r1, a, dx, fs, v, e1, e2, e3, q⟩ := hh
    exact ⟨x, H1, I1, r1, a, dx, fs, e1, e2, a, dx, fs, v, rfl, e2, e3, q⟩)) (.cons he .nil) os_fld

/-! ### storing a field -/
theorem putD_keys {f : Str} {y : V} {d : D} : ∀ {fs : List (Str × V)} {gs : List (Str × D)}, fs.map (·.1) = gs.map (·.1) → (putF f y fs).map (·.1) = (putD f d gs).map (·.1)
  | [], [], _ => rfl
  | [], _ :: _, e => by cases e
  | _ :: _, [], e => by cases e
  | (x, a) :: fs, (y', b) :: gs, e => by
    simp only [List.map_cons,
        List.cons.injEq] at e
    obtain ⟨rfl, e⟩ := e
    rw [putF, putD]
    split
    · simp [e]
    · simp [putD_keys (f := f) (y := y) (d := d) e]
theorem putD_rep {f : Str} {y : V} {d : D} (rd : Rep ca K Hf H Em y d) : ∀ {S : Rg} {fs : List (Str × V)} {gs : List (Str × D)}, fs.map (·.1) = gs.map (·.1) → RepL ca K Hf H S (fs.map (·.2)) (gs.map (·.2)) → RepL ca K Hf H S ((putF f y fs).map (·.2)) ((putD f d gs).map (·.2))
  | _, [], [], _, _ => (RepL.one rd).mono fun _ q => q.elim
  | _, [], _ :: _, e, _ => by cases e
  | _, _ :: _, [], e, _ => by cases e
  | _, (x, a) :: fs, (y', b) :: gs, e, r => by
    simp only [List.map_cons,
        List.cons.injEq] at e
    obtain ⟨rfl, e⟩ := e
    rw [putF, putD]
    cases r with
    | cons r1 r2 h1 h2 h3 =>
      split
      · exact .cons (S1 := Em) rd r2 (fun _ q => q.elim) h2 fun _ q _ => q
      · exact .cons r1 (putD_rep rd e r2) h1 h2 h3
theorem PR.ownIns {i C : Nat} {gs : List (Str × D)} (p : PR ca K Hf H Em True R σ st) (h : getS st i = some (.ins true C gs)) : ∃ a dx fs, σ[i]? = some (some (.ref a)) ∧ R i a ∧ H a = some (.ins (ca C) dx fs) ∧ fs.map (·.1) = gs.map (·.1) ∧ RepL ca K Hf H (fun b => R i b ∧ b ≠ a) (fs.map (·.2)) (gs.map (·.2)) := by
  obtain ⟨v, e, r⟩ := p.at_ i _ h
  cases r with
  | insO s e2 k r => exact ⟨_, _, _, e, s, e2, k, r⟩
theorem PR.writeIns {i C : Nat} {gs ys : List (Str × D)} {a dx : Addr} {ws : List (Str × V)} (p : PR ca K Hf H Em True R σ st) (h : getS st i = some (.ins true C gs)) (hv : σ[i]? = some (some (.ref a))) (ha : R i a) (hk : ws.map (·.1) = ys.map (·.1))
    (r : RepL ca K Hf H (fun b => R i b ∧ b ≠ a) (ws.map (·.2)) (ys.map (·.2))) : PR ca K Hf (upd H a (.ins (ca C) dx ws)) Em True R σ (st.set i (some (.ins true C ys))) ∧ Tr (jn Em R) Hf H (jn Em R) Hf (upd H a (.ins (ca C) dx ws)) := by
  have hk' : ∀ b o, b ≠ a → H b = some o → upd H a (.ins (ca C) dx ws) b = some o := fun b o n e => by rw [upd_ne n]; exact e
  have hf : Hf a = none := p.w.nf a (.inr ⟨i, ha⟩)
  refine ⟨⟨trivial, ?_, fun j d e => ?_, p.dj, fun _ _ q => q.elim, ⟨fun b o e => ?_, fun b q => ?_, p.w.nf, mkTp⟩⟩, ⟨fun _ _ e => e, fun b o e n => hk' b o (fun z => n (.inr ⟨i, z ▸ ha⟩)) e, fun b q => .inl q, fun _ _ e => .inl e⟩⟩
  · rw [List.length_set]; exact p.len
  · rcases set_get e with ⟨q1, q2⟩ | ⟨q1, q2⟩
    · subst q1
      cases q2
      exact ⟨_, hv, .insO ha upd_same hk (r.keep (fun _ _ e => e) fun b q o e => hk' b o q.2 e)⟩
    · obtain ⟨v', e2, r2⟩ := p.at_ j d q2
      exact ⟨v', e2, r2.keep (fun _ _ e => e) fun b q o e => hk' b o (fun z => q1 (p.dj i j a ha (z ▸ q))) e⟩
  · have := p.w.ex b o e
    exact hk' b o (fun z => by subst z; rw [hf] at e; cases e) this
  · obtain ⟨o, e⟩ := p.w.dm b q
    by_cases z : b = a
    · subst z; exact ⟨_, upd_same⟩
    · exact ⟨o, hk' b o z e⟩
theorem cs_fld {o value : Expr} {i C : Nat} {f : Str} {m : ME} {pos pos' : Pos} (c : Cls X.K (ca C)) (n : NoAttr X.K (ca C) f) (ho : PE X o (tVar i)) (he : CE ca X value m) (hs : swapsWith value (some (.Attribute o f pos')) pos.line X.env = pure false := by rfl) :
    CS ca X L (.Assign [.Attribute o f pos'] value pos) (sFldM C i f m) := fun Hf H R σ st E p h => by
  refine ws_of (ps_fld ho (we_pe X value) hs) (he Hf H R σ st _ p ?_)
  refine post_toS h fun d st1 Hf1 H1 P1 R1 v e1 t1 p1 h1 => ?_
  cases g : getS st1 i with
  | none => rw [g] at h1; exact h1.elim
  | some dx =>
    rw [g] at h1
    cases dx with
    | ins ow C' gs =>
      cases ow with
      | false => exact h1.elim
      | true =>
        dsimp only at h1
        by_cases hc : C' = C ∧ gs.length < 1000 ∧ cold d = true
        · rw [if_pos hc] at h1
          obtain ⟨rfl, hl, hcd⟩ := hc
          have hd : hot d = false := by unfold cold at hcd; simpa using hcd
          obtain ⟨a, dx, fs, ev, ra, e2, kk, r2⟩ := p1.drop.ownIns g
          have hlen : fs.length = gs.length := by
            have := congrArg List.length kk
            simpa using this
          refine ⟨.ref a, ev, a, _, dx, fs, rfl, e2, c, n, by omega, ?_⟩
          obtain ⟨p2, t2⟩ := p1.drop.writeIns (dx := dx) g ev ra (putD_keys (f := f) (y := v) (d := d) kk) (putD_rep (p1.pend.cold hd) kk r2)
          exact h1 Hf1 _ R1 σ (t2.more fun b q => q.elim (fun q => q.elim) .inr) p2 Lk.refl
        · rw [if_neg hc] at h1; exact h1.elim
    | _ => exact h1.elim

/-! ### an instance made -/
/-- what __init__ hands back -/
theorem postC_make {C : Nat} {m : MF} {Q : VK} {x dx : Addr} (p : PR ca X.K Hf H P (RepL ca X.K Hf H P vs ds) R σ st) (hx : H x = none) (hdx : H dx = none) (hne : dx ≠ x)
    (h : Post ca X Hf H (jn P R) σ (match m (.ins true C [] :: ds) with
      | .ok .non ps => (match getS ps 0 with | some d => .ok d st | none => .fail)
      | .exc x _ => .exc x st
      | _ => .fail) Q) :
    spM ca X.K m (.ref x :: vs) (upd (upd H dx (.own x)) x (.ins (ca C) dx [])) (fun v H2 => v = .non ∧ Q (.ref x) H2) (fun cls dd H' => wX X cls dd σ H') := by
  have hx' : (upd H dx (.own x)) x = none := by rw [upd_ne (Ne.symm hne)]; exact hx
  have k1 : Ex H (upd H dx (.own x)) := upd_keep hdx
  have k2 : Ex H (upd (upd H dx (.own x)) x (.ins (ca C) dx [])) := fun b o e => upd_keep hx' b o (k1 b o e)
  have w1 := (wl_new (o := .own x) p.w hdx)
  have w2 := (wl_new (o := .ins (ca C) dx []) w1.1 hx')
  have hnx : ∀ b, jn P R b → b ≠ x := fun b q z => by subst z; obtain ⟨o, e⟩ := p.w.dm b q; rw [hx] at e; cases e
  have rr : RepL ca X.K Hf (upd (upd H dx (.own x)) x (.ins (ca C) dx [])) (fun b => b = x ∨ P b) (.ref x :: vs) (.ins true C [] :: ds) :=
    .cons (S1 := fun b => b = x) (S2 := P) (.insO rfl upd_same rfl .nil) (p.pend.keep (fun _ _ e => e) fun b _ o e => k2 b o e) (fun b q => .inl q) (fun b q => .inr q) fun b q1 q2 => hnx b (.inl q2) q1
  have pr : PR ca X.K Hf (upd (upd H dx (.own x)) x (.ins (ca C) dx [])) (fun b => b = x ∨ P b) (RepL ca X.K Hf (upd (upd H dx (.own x)) x (.ins (ca C) dx [])) (fun b => b = x ∨ P b) (.ref x :: vs) (.ins true C [] :: ds)) R σ st :=
    ⟨rr, p.len, fun i d e => by
      obtain ⟨v, e1, r⟩ := p.at_ i d e
      exact ⟨v, e1, r.keep (fun _ _ e => e) fun b _ o e => k2 b o e⟩, p.dj, fun i b q1 q2 => q1.elim (fun q => hnx b (.inr ⟨i, q2⟩) q) fun q => p.dp i b q q2, ⟨w2.1.ex, fun b q => by
      rcases q with (q | q) | q
      · subst q; exact ⟨_, upd_same⟩
      · exact w2.1.dm b (.inl q)
      · exact w2.1.dm b (.inr q), fun b q => by
      rcases q with (q | q) | q
      · subst q; exact w2.2
      · exact w2.1.nf b (.inl q)
      · exact w2.1.nf b (.inr q), mkTp⟩⟩
  have t0 : Tr (jn P R) Hf H (jn (fun b => b = x ∨ P b) R) Hf (upd (upd H dx (.own x)) x (.ins (ca C) dx [])) := ⟨fun _ _ e => e, fun b o e _ => k2 b o e, fun b q => by
    rcases q with (q | q) | q
    · subst q; exact .inr hx
    · exact .inl (.inl q)
    · exact .inl (.inr q), fun _ _ e => .inl e⟩
  refine ⟨Hf, fun b => b = x ∨ P b, .ins true C [] :: ds, rr, pr.w.mono fun b q => .inl q, ?_⟩
  have wR : Wl Hf (upd (upd H dx (.own x)) x (.ins (ca C) dx [])) (tot R) := pr.w.mono fun b q => .inr q
  have old : ∀ {Hf' H' : Hp} {S' P' : Rg} {pp : Prop}, Tr (fun b => b = x ∨ P b) Hf (upd (upd H dx (.own x)) x (.ins (ca C) dx [])) S' Hf' H' → Wl Hf' H' S' → (∀ b, P' b → S' b) → pp → PR ca X.K Hf' H' P' pp R σ st ∧ Tr (jn P R) Hf H (jn P' R) Hf' H' := fun {Hf' H' S' P' pp} t w hP q => by
    have bs := t.beside wR fun b q1 q2 => by obtain ⟨i, q1⟩ := q1; exact pr.dp i b q2 q1
    refine ⟨⟨q, p.len, fun i d e => ?_, p.dj, fun i b q1 q2 => bs.2.1 b ⟨i, q2⟩ (hP b q1), ⟨w.ex, fun b q => ?_, fun b q => ?_, mkTp⟩⟩, ?_⟩
    · obtain ⟨v, e1, r⟩ := pr.at_ i d e
      exact ⟨v, e1, r.keep t.fx fun b q o e => bs.1 b ⟨i, q⟩ o e⟩
    · rcases q with q | q
      · exact w.dm b (hP b q)
      · exact (bs.2.2 b q).1
    · rcases q with q | q
      · exact w.nf b (hP b q)
      · exact (bs.2.2 b q).2
    · refine t0.trans (((t.with (tot R)).more fun b q => ?_).less fun b q => ?_)
      · exact q.elim .inr .inl
      · exact q.elim (fun q => .inr (hP b q)) .inl
  cases em : m (.ins true C [] :: ds) with
  | fail => rw [em] at h; exact h
  | ok d ps =>
    rw [em] at h
    cases d with
    | non =>
      dsimp only at h
      cases eg : getS ps 0 with
      | none => rw [eg] at h; exact h.elim
      | some d' =>
        rw [eg] at h
        intro Hf' H' P' Rp v t q
        obtain ⟨v', e1, r0⟩ := q.at_ 0 d' eg
        cases e1
        obtain ⟨p2, t2⟩ := old (P' := Rp 0) (pp := Rep ca X.K Hf' H' (Rp 0) (.ref x) d') t q.w (fun b z => .inr ⟨0, z⟩) r0
        exact ⟨rep_non q.pend, h Hf' H' (Rp 0) R (.ref x) t2 p2⟩
    | _ => exact h.elim
  | exc y ps =>
    rw [em] at h
    intro Hf' H' Rp cls dd t q
    obtain ⟨p2, t2⟩ := old (P' := Em) t q.w (fun b z => z.elim) q.pend
    exact h Hf' H' R cls dd t2 p2
end
end DL

/-! DL12: == and != of instances by an own __eq__; isinstance; methods called. -/
namespace DL
open PySem L2 PyProof.Rows

/-- a value is let stand -/
def eFz (m : ME) : ME := fun st => (m st).bind fun d st1 => .ok (frz d) st1
def insC : D → Option Nat
  | .ins false C _ => some C
  | _ => none
/-- a == b (a != b: neg) of two instances of the class C that stand, by the meaning of __eq__ -/
def eEqI (neg : Bool) (C : Nat) (f : MF) (oa ob : Opd) : ME := fun st => opds [oa, ob] st fun gs st2 => match gs st2 with
  | some [x, y] => if insC x = some C ∧ insC y = some C then (match f [x, y] with
    | .ok (.bl k) _ => .ok (.bl (if neg then !k else k)) st2
    | _ => .fail) else .fail
  | _ => .fail

section
variable {ca : Nat → Addr} {K : PySem.W.Frag} {Hf H Hf1 H1 Hf2 H2 : Hp} {S S1 S2 P P1 P2 : Rg} {R R1 R2 : Nat → Rg} {pp qq : Prop} {σ σ' : L2.St} {st st' : Sl} {v : V} {d : D} {vs : List V} {ds xs : List D} {X : Cx} {L : List Nat}
theorem ce_fz {e : Expr} {m : ME} (h : CE ca X e m) : CE ca X e (eFz m) := fun Hf H R σ st Q p hq => by
  refine h Hf H R σ st Q p ?_
  unfold eFz at hq
  cases r : m st with
  | fail => rw [r] at hq; exact hq
  | exc x st1 => rw [r] at hq; exact hq
  | ok d st1 =>
    rw [r] at hq
    intro Hf1 H1 P1 R1 v t1 p1
    obtain ⟨Hf2, x1, x2, p2, t2⟩ := p1.standP
    exact hq Hf2 H1 Em R1 v (t1.trans t2) (p2.put (p1.pend.frz x1 x2))

/-! ### rich comparison by an own __eq__ -/
/-- what the written part says of a class with an own __eq__ and no own __ne__ -/
structure OwnEqC (K : PySem.W.Frag) (C f : Addr) : Prop where
  eq : PySem.W.findIn K (.ref C) "__eq__" = some (some (.ref f))
  fn : PySem.W.isFn K (.ref
      f) = true
  ne : ∃ (of : Obj) (nm q : Str) (N : Addr) (bs : List Value) (hdct : Bool) (sn : List Str) (sub : List Value) (ab : Bool) (col : Option Bool) (dd : Option Addr) (k0 k1 k2 k3 k5 : Option Value) (newId : String),
    K.lookup C = some (excClassObj nm q C N bs [.type "object"] hdct sn sub ab col dd k0 k1 k2 k3 k5 newId) ∧ PySem.W.nsOkIn K N = true ∧ PySem.W.nsIn K N "__eq__" = some (some (.ref f)) ∧ PySem.W.nsIn K N "__ne__" = some none ∧ K.lookup f = some of ∧ of.cls = .type "function"
theorem ns_some {h : Heap} {N : Addr} {m : Str → Option Value} {x : Str} {u : Value} (k : K.In h) (G : h.Ns N m) (e : PySem.W.nsIn K N x = some (some u)) : m x = some u := by
  obtain ⟨ob, ents, epoch, gets, dat, _, finds⟩ := G
  unfold PySem.W.nsIn at e
  split at e
  · rename_i c d ents' n' sl look
    have same := k _ _ look
    rw [gets] at same
    cases same
    cases dat
    split at e
    · rename_i en found
      cases e
      rw [← finds]
      show (findBy _ _ _) = _
      unfold findBy
      rw [← Array.find?_toList, found]
      rfl
    · split at e <;> cases e
  · cases e
end

section
variable {ca : Nat → Addr} {Hf H Hf1 H1 Hf2 H2 : Hp} {S P : Rg} {R R1 R2 : Nat → Rg} {σ : L2.St} {st : Sl} {v : V} {d : D} {vs : List V} {ds : List D} {X : Cx} {L : List Nat}
/-! ### isinstance -/
/-- what the written part says of an own class, for isinstance of its instances -/
structure InsTy (K : PySem.W.Frag) (C : Addr) : Prop where
  cl : Cls K C
  ha : PySem.W.findIn K (.ref C) "__class__" = some (some
      (.builtin "object.__class__"))
  hn : PySem.W.specialIn K (.builtin "object.__class__") "__get__" = some (some
      (.builtin "getset_descriptor.__get__"))
  htk : PySem.W.takesIn K (.builtin
      "object.__class__") = some true
  hm : PySem.W.mroIn K C (.type
      "object") = some true
def noScr : D → Bool
  | .scr _ => false
  | _ => true
/-- isinstance(x, T), T a built-in type -/
def oIsiB (T : String) : List D → Option Out
  | [x, .ty t] => if t = T ∧ noScr x = true then ((tyName x).bind fun n => L2.kitB n T).map fun b => .val (.bl b) else none
  | _ => none
theorem os_isiB {K : PySem.W.Frag} {T : String} : OpS ca K (rIsi K) (oIsiB T) := fun Hf H vs ds o Q hx rd h q => by
  match ds, h with
  | [x, .ty t], hh =>
    dsimp only [oIsiB] at hh
    by_cases hc : t = T ∧ noScr x = true
    · rw [if_pos hc] at hh
      obtain ⟨rfl, hs⟩ := hc
      cases en : tyName x with
      | none => rw [en] at hh; cases hh
      | some n =>
        rw [en] at hh
        cases ek : L2.kitB n t with
        | none => simp [ek] at hh
        | some b =>
          simp only [Option.bind_some, ek, Option.map_some, Option.some.injEq] at hh
          subst hh
          obtain ⟨v, w, S, S', e1, r1, r2⟩ := rdl2 rd rfl
          subst e1
          cases r2
          exact ⟨v, .ty t, .type n, .type t, b, rfl, .ty t, rep_ty hx r1 en (fun xs e => by subst e; cases hs), kit_ty ek, q _ .bl⟩
    · rw [if_neg hc] at hh; cases hh
/-- isinstance(x, (T, U)) of two built-in types -/
def oIsi2 (T U : String) : List D → Option Out
  | [x, .tup [.ty t, .ty u]] => if t = T ∧ u = U ∧ noScr x = true then (match (tyName x).bind fun n => L2.kitB n T, (tyName x).bind fun n => L2.kitB n U with
    | some a, some b => some (.val (.bl (a || b)))
    | _, _ => none) else none
  | _ => none
theorem os_isi2 {K : PySem.W.Frag} {T U : String} : OpS ca K (rIsiT K) (oIsi2 T U) := fun Hf H vs ds o Q hx rd h q => by
  match ds, h with
  | [x, .tup [.ty t, .ty u]], hh =>
    dsimp only [oIsi2] at hh
    by_cases hc : t = T ∧ u = U ∧ noScr x = true
    · rw [if_pos hc] at hh
      obtain ⟨rfl, rfl, hs⟩ := hc
      cases en : tyName x with
      | none => rw [en] at hh; cases hh
      | some n =>
        rw [en] at hh
        simp only [Option.bind_some] at hh
        cases ek : L2.kitB n t with
        | none => simp [ek] at hh
        | some b =>
          cases ek2 : L2.kitB n u with
          | none => simp [ek, ek2] at hh
          | some b2 =>
            simp only [ek, ek2, Option.some.injEq] at hh
            subst hh
            obtain ⟨v, w, S, S', e1, r1, r2⟩ := rdl2 rd rfl
            subst e1
            obtain ⟨a, vs, rfl, e2, r3⟩ := rep_tup hx r2
            cases r3 with
            | cons q1 q2 _ _ _ => cases q2 with
              | cons q3 q4 _ _ _ =>
                cases q4
                cases q1
                cases q3
                refine ⟨v, a, [.ty t, .ty u], .type n, [.type t, .type u], b || b2, rfl, e2, .cons (.ty t) (.cons (.ty u) .nil), rep_ty hx r1 en (fun xs e => by subst e; cases hs), ?_, q _ .bl⟩
                refine kitAny_cons (kit_ty ek) (fun hb => ?_) fun hb => by rw [hb]; rfl
                subst hb
                exact kitAny_cons (kit_ty ek2) (fun hb => by subst hb; exact kitAny_nil) fun hb => by rw [hb]; rfl
    · rw [if_neg hc] at hh; cases hh
/-! ### methods called -/
end
end DL

/-! DL13: a, b = x, y; len of instances; tests; what is not followed; [.. for .. for ..]. -/
namespace DL
open PySem L2 PyProof.Rows

def eLenI (C : Nat) (f : MF) (oa : Opd) : ME := fun st => opds [oa] st fun gs st2 => match gs st2 with
  | some [x] => if insC x = some C then (match f [x] with
    | .ok (.int n) _ => if 0 ≤ n ∧ n < 2 ^ 63 then .ok (.int n) st2 else .fail
    | _ => .fail) else .fail
  | _ => .fail
def sFail : MS := fun _ => .fail
section
variable {ca : Nat → Addr} {K : PySem.W.Frag} {Hf H Hf1 H1 Hf2 H2 : Hp} {S S1 S2 P P1 P2 : Rg} {R R1 R2 : Nat → Rg} {pp qq : Prop} {σ σ' : L2.St} {st st' : Sl} {v w : V} {d e : D} {vs : List V} {ds xs : List D} {X : Cx} {L : List Nat}
/-! ### a, b = x, y -/
theorem PR.store2 {i j : Nat} (hij : i ≠ j) (p : PR ca K Hf H P (RepL ca K Hf H P [v, w] [d, e]) R σ st) : ∃ R', PR ca K Hf H Em True R' ((σ.set i (some v)).set j (some w)) ((st.set i (some d)).set j (some e)) ∧ Tr (jn P R) Hf H (jn Em R') Hf H := by
  obtain ⟨S1, S2, q1, q2, h1, h2, h3⟩ : ∃ S1 S2 : Rg, Rep ca K Hf H S1 v d ∧ Rep ca K Hf H S2 w e ∧ (∀ b, S1 b → P b) ∧ (∀ b, S2 b → P b) ∧ ∀ b, S1 b → S2 b → False := by
    have r := p.pend
    cases r with
    | cons a b c1 c2 c3 =>
      cases b with
      | cons a' b' c1' c2' c3' => exact ⟨_, _, a, a', c1, fun b q => c2 b (c1' b q), fun b q1 q2 => c3 b q1 (c1' b q2)⟩
  have p1 : PR ca K Hf H S1 (Rep ca K Hf H S1 v d) R σ st := p.toP h1 q1
  have p2 := p1.store i
  have p3 : PR ca K Hf H S2 (Rep ca K Hf H S2 w e) (fun k b => if k = i then S1 b else R k b) (σ.set i (some v)) (st.set i (some d)) :=
    ⟨q2, p2.len, p2.at_, p2.dj, fun k b x y => by
      split at y
      · exact h3 b y x
      · exact p.dp k b (h2 b x) y, p.w.mono fun b q => by
      rcases q with q | ⟨k, q⟩
      · exact .inl (h2 b q)
      · split at q
        · exact .inl (h1 b q)
        · exact .inr ⟨k, q⟩⟩
  refine ⟨_, p3.store j, Tr.refl fun b q => ?_⟩
  rcases q with q | ⟨k, q⟩
  · exact q.elim
  · split at q
    · exact .inl (h2 b q)
    · split at q
      · exact .inl (h1 b q)
      · exact .inr ⟨k, q⟩
theorem cs_par {i j : Nat} {x y : Str} {a b : Expr} {ms : MA} {px py pt pos : Pos} {kt k2 pt2} (hc : X.calm = true) (hN : X.N.Nodup) (hi : X.N[i]? = some x) (hj : X.N[j]? = some y) (hij : i ≠ j)
    (hx : X.env.scope.names.lookup x = some .local) (hy : X.env.scope.names.lookup y = some .local) (hL1 : i ∉ L) (hL2 : j ∉ L) (ha : CL ca X [a, b] ms) (hst : NoStar [a, b])
    (hw : swappedStores [.Tuple [.Name x px, .Name y py] kt
        pt] (.Tuple [a, b] k2 pt2) X.env = pure (some [x, y]))
    (hs : swapsWithSole [.Tuple [.Name x px, .Name y py] kt pt]
        (.Tuple [a, b] k2 pt2) pos.line X.env = pure false := by rfl) :
    CS ca X L (.Assign [.Tuple [.Name x px, .Name y py] kt pt] (.Tuple [a, b] k2 pt2) pos) (sPar i j ms) := fun Hf H R σ st E p h => by
  refine ws_of (ps_par hc hN hi hj hij hx hy (wa_pa X [a, b]) hw hs) ?_
  refine wa_wl (fun e' r' q => noStar_suf hst e' r' q _) (ha Hf H R σ st _ p ?_)
  unfold sPar at h
  cases e1 : ms st with
  | fail => rw [e1] at h; exact h
  | exc x st1 => rw [e1] at h; exact fun Hf' H' R' cls dd t q => h Hf' H' R' σ cls dd t q Lk.refl
  | ok ds st1 =>
    rw [e1] at h
    intro Hf1 H1 P1 R1 vs t1 p1
    dsimp only [Res.toS] at h
    match ds, h with
    | [d1, d2], h =>
      obtain ⟨v1, v2, rfl⟩ : ∃ v1 v2, vs = [v1, v2] := by
        have := p1.pend
        cases this with
        | cons a b _ _ _ => cases b with
          | cons a' b' _ _ _ => cases b'; exact ⟨_, _, rfl⟩
      obtain ⟨R', p2, t2⟩ := PR.store2 hij p1
      exact ⟨v1, v2, rfl, h Hf1 H1 R' _ (t1.trans t2) p2 ((Lk.set hL1).trans (Lk.set hL2))⟩

/-! ### tests -/
theorem isTrue_cmpV {l r : Expr} {op : CmpOp} {pos : Pos} {env : Env} {whole : Sem Value} : isTrue (.Compare l [op] [r] pos) env whole = (do let c ← eval (.Compare l [op] [r] pos) env; holding [c] (truthy c)) := by
  rw [isTrue_Compare1, eval_Compare1]
  simp only [bind_assoc]
theorem ct_cmp {a b : Expr} {op : CmpOp} {pos : Pos} {m : ME} (h : CE ca X (.Compare a [op] [b] pos) m) : CT ca X (.Compare a [op] [b] pos) (tE m) := by
  refine ct_e ⟨fun pins s σ H Q I hw => ?_⟩ h
  rw [isTrue_cmpV]
  refine wpAny_bind (thn (We.run hw pins s I) fun v s1 ⟨x, H1, I1, r1, q1⟩ => wpAny_holding ?_)
  obtain ⟨d, rfl, q⟩ := q1
  cases r1
  exact wpAny_truthy_bool ⟨H1,
      I1, q⟩
/-- an expression of any other form -/
theorem ct_val {e : Expr} {m : ME} (h : CE ca X e m) (he : ∀ whole, isTrue e X.env whole = (do let v ← whole; standAt e.pos; holding [v] (truthy v)) := by intro _; rfl) : CT ca X e (tE m) :=
  ct_e (pt_val (we_pe X e) he) h
structure Ww (X : Cx) (e : Expr) (σ : L2.St) (H : Hp) (Q : Bool → Hp → Prop) : Prop where
  run : ∀ (whole : Sem Value) (pins : List (Addr × Obj)) (s : Shared), Inv X pins σ H s → wpAny (model X.prog X.w) X.A (isTrue e X.env whole) (TP X pins σ Q) X.xe s
def CW (ca : Nat → Addr) (X : Cx) (e : Expr) (m : MT) : Prop := ∀ (Hf H : Hp) (R : Nat → Rg) (σ : L2.St) (st : Sl) (Q : Bool → Hp → Prop), PR ca X.K Hf H Em True R σ st → PostB ca X Hf H (jn Em R) σ (m st) Q → Ww X e σ H Q
theorem ww_pw (X : Cx) (e : Expr) : PW X e (Ww X e) := ⟨fun wh pins s _ _ _ I h => h.run wh pins s I⟩
theorem ct_w {e : Expr} {m : MT} (h : CW ca X e m) : CT ca X e m := fun Hf H R σ st Q p hq => ⟨fun pins s I => (h Hf H R σ st Q p hq).run _ pins s I⟩
theorem cw_and1 {a : Expr} {m : MT} {pos : Pos} (h : CT ca X a m) : CW ca X (.BoolOp .And [a] pos) m := fun Hf H R σ st Q p hq => ⟨fun wh pins s I => (pw_and1 (wt_pt X a)).run wh pins s σ H Q I (h Hf H R σ st Q p hq)⟩
theorem cw_or1 {a : Expr} {m : MT} {pos : Pos} (h : CT ca X a m) : CW ca X (.BoolOp .Or [a] pos) m := fun Hf H R σ st Q p hq => ⟨fun wh pins s I => (pw_or1 (wt_pt X a)).run wh pins s σ H Q I (h Hf H R σ st Q p hq)⟩
theorem post_tB {r : Res Bool} {k : Bool → Sl → Res Bool} {Q Q' : Bool → Hp → Prop} (h : PostB ca X Hf H S σ (r.bind k) Q) (hk : ∀ b st Hf1 H1 R1, Tr S Hf H (jn Em R1) Hf1 H1 → PR ca X.K Hf1 H1 Em True R1 σ st → PostB ca X Hf1 H1 (jn Em R1) σ (k b st) Q → Q' b H1) : PostB ca X Hf H S σ r Q' := by
  cases r with
  | fail => exact h
  | exc x st1 => exact h
  | ok b st1 => exact fun Hf1 H1 R1 t1 p1 => hk b st1 Hf1 H1 R1 t1 p1 (PostB.from t1 h)
theorem cw_and {a b : Expr} {r : List Expr} {ma mb : MT} {pos : Pos} (ha : CT ca X a ma) (hb : CW ca X (.BoolOp .And (b :: r) pos) mb) : CW ca X (.BoolOp .And (a :: b :: r) pos) (tAndM ma mb) := fun Hf H R σ st Q p hq => ⟨fun wh pins s I => by
  refine (pw_and (wt_pt X a) (ww_pw X _)).run wh pins s σ H Q I (ha Hf H R σ st _ p ?_)
  refine post_tB hq fun c st1 Hf1 H1 R1 t1 p1 h1 => ?_
  cases c with
  | true => exact hb Hf1 H1 R1 σ st1 Q p1 h1
  | false => exact h1 Hf1 H1 R1 (Tr.refl fun _ q => q) p1⟩
theorem cw_or {a b : Expr} {r : List Expr} {ma mb : MT} {pos : Pos} (ha : CT ca X a ma) (hb : CW ca X (.BoolOp .Or (b :: r) pos) mb) : CW ca X (.BoolOp .Or (a :: b :: r) pos) (tOrM ma mb) := fun Hf H R σ st Q p hq => ⟨fun wh pins s I => by
  refine (pw_or (wt_pt X a) (ww_pw X _)).run wh pins s σ H Q I (ha Hf H R σ st _ p ?_)
  refine post_tB hq fun c st1 Hf1 H1 R1 t1 p1 h1 => ?_
  cases c with
  | true => exact h1 Hf1 H1 R1 (Tr.refl fun _ q => q) p1
  | false => exact hb Hf1 H1 R1 σ st1 Q p1 h1⟩
theorem ct_not {a : Expr} {ma : MT} {pos : Pos} (ha : CT ca X a ma) : CT ca X (.UnaryOp .Not a pos) (tNotM ma) := fun Hf H R σ st Q p hq => by
  refine wt_of (pt_not (wt_pt X a)) (ha Hf H R σ st _ p ?_)
  exact post_tB hq fun c st1 Hf1 H1 R1 t1 p1 h1 => h1 Hf1 H1 R1 (Tr.refl fun _ q => q) p1
/-! ### len of an instance -/
/-- what the written part says of a class with an own special method -/
structure OwnSpC (K : PySem.W.Frag) (C f : Addr) (name : Str) : Prop where
  obj : ∃ (of : Obj) (nm q : Str) (N : Addr) (bs : List Value) (hdct : Bool) (sn : List Str) (sub : List Value) (ab : Bool) (col : Option Bool) (dd : Option Addr) (k0 k1 k2 k3 k5 : Option Value) (newId : String),
    K.lookup C = some (excClassObj nm q C N bs [.type "object"] hdct sn sub ab col dd k0 k1 k2 k3 k5 newId) ∧ PySem.W.nsOkIn K N = true ∧ PySem.W.nsIn K N name = some (some (.ref f)) ∧ K.lookup f = some of ∧ of.cls = .type "function"
theorem OwnSpC.at {C f : Addr} {name : Str} {pins : List (Addr × Obj)} {s : Shared} {a dx : Addr} {fs : List (Str × V)} {y : Option Value} (c : OwnSpC X.K C f name) (I : Inv X pins σ H s) (ha : H a = some (.ins C dx fs)) (hB : typeLookup (.type "object") name = pure y) : s.heap.OwnSpecial a C f "object" name := by
  obtain ⟨of, nm, q, N, bs, hdct, sn, sub, ab, col, dd, k0, k1, k2, k3, k5, newId, hC, hN0, hN1, hf, hfc⟩ := c.obj
  have hk : X.K.In s.heap := I.kIn
  have hNs : s.heap.Ns N (s.heap.nsMap N) := .of_isNs (PySem.W.isNs_of_in hk hN0)
  obtain ⟨mA, J, _⟩ :=
      ins_get I.hok ha
  exact ⟨_, of, nm, q, N, bs, _, hdct, sn, sub, ab, col, dd, k0, k1, k2, k3, k5, newId, _, y, J.obj, rfl, hk _ _ hC, hNs, ns_some hk hNs hN1, hk _ _ hf, hfc, PySem.F.mro_object, hB⟩
end
end DL

/-! DL14: [e for x in xs for y in ys if t]. -/
namespace DL
open PySem L2 PyProof.Rows
def comp2D (g : MG) (src1 : Sl → Res (List D)) (g1 : MG) (t1 : MT) (e : ME) (vs vs1 : List Nat) : List D → Sl → List D → Res (List D)
  | [], st, acc => .ok acc st
  | d :: ds, st, acc => (g d st).noX.bind fun _ st1 => (src1 st1).noX.bind fun ds1 st2 => (compD g1 t1 e vs1 ds1 (wipeS st2 vs1) acc).bind fun acc' st3 => comp2D g src1 g1 t1 e vs vs1 ds (wipeS st3 vs) acc'
def eLc2 (src : Sl → Res (List D)) (g : MG) (src1 : Sl → Res (List D)) (g1 : MG) (t1 : MT) (e : ME) (vs vs1 : List Nat) : ME := fun st => (src st).bind fun ds st1 => (comp2D g src1 g1 t1 e vs vs1 ds (wipeS st1 vs) []).bind fun acc st2 => .ok (.lst true acc) st2
section
variable {ca : Nat → Addr} {K : PySem.W.Frag} {Hf H Hf1 H1 Hf2 H2 : Hp} {S S1 S2 P P1 P2 : Rg} {R R1 R2 : Nat → Rg} {pp qq : Prop} {σ σ' : L2.St} {st st' : Sl} {v : V} {d : D} {vs : List V} {ds : List D} {X : Cx} {L : List Nat}
theorem compD_noX {g : MG} {t : MT} {e : ME} {w : List Nat} {x : Xc} {st' : Sl} : ∀ (ds : List D) (st : Sl) (acc : List D), compD g t e w ds st acc ≠ .exc x st'
  | [], st, acc => by rw [compD]; exact fun h => by cases h
  | d :: ds, st, acc => by
    rw [compD]
    intro h
    cases eg : g d st with
    | fail => rw [eg] at h; cases h
    | exc x0 st2 => rw [eg] at h; cases h
    | ok a st2 =>
      rw [eg] at h
      dsimp only [Res.bind, Res.noX] at h
      cases et : t st2 with
      | fail => rw [et] at h; cases h
      | exc x0 st4 => rw [et] at h; cases h
      | ok k st4 =>
        rw [et] at h
        dsimp only at h
        cases k with
        | false => exact compD_noX ds _ _ h
        | true =>
          rw [if_pos rfl] at h
          cases ee : e st4 with
          | fail => rw [ee] at h; cases h
          | exc x0 st5 => rw [ee] at h; cases h
          | ok y st5 =>
            rw [ee] at h
            dsimp only at h
            split at h
            · exact compD_noX ds _ _ h
            · cases h
/-- a loop of a comprehension, from a state with the new list -/
theorem lc_loop {t : TG} {g : MG} {tt : TT} {mt : MT} {te : TE} {me : ME} {w : List Nat}
    (hg : ∀ (Hf H : Hp) (P : Rg) (R : Nat → Rg) (σ : L2.St) (st : Sl) (v : V) (d : D) (Q : L2.St → Hp → Prop), PR ca X.K Hf H P (Rep ca X.K Hf H P v d) R σ st →
      (match g d st with
        | .ok _ st' => ∀ Hf' H' R' σ', Tr (jn P R) Hf H (jn Em R') Hf' H' → PR ca X.K Hf' H' Em True R' σ' st' → Lk (but σ.length w) σ σ' → Q σ' H'
        | _ => False) → t v σ H Q)
    (ht : ∀ (Hf H : Hp) (R : Nat → Rg) (σ : L2.St) (st : Sl) (Q : Bool → Hp → Prop), PR ca X.K Hf H Em True R σ st → (match mt st with
        | .ok k st' => ∀ Hf' H' R', Tr (jn Em R) Hf H (jn Em R') Hf' H' → PR ca X.K Hf' H' Em True R' σ st' → Q k H'
        | _ => False) → tt σ H Q)
    (he : ∀ (Hf H : Hp) (R : Nat → Rg) (σ : L2.St) (st : Sl) (Q : VK), PR ca X.K Hf H Em True R σ st → (match me st with
        | .ok d st' => ∀ Hf' H' P R' v, Tr (jn Em R) Hf H (jn P R') Hf' H' → PR ca X.K Hf' H' P (Rep ca X.K Hf' H' P v d) R' σ st' → Q v H'
        | _ => False) → te σ H Q)
    {J : It} {Dl : Addr} {A0 : Rg} {acc0 : List D} {st1 : Sl} {Fin : Hp → Prop} (it : ItD ca X.K J Hf1 ds) (ac0 : Acc ca X.K Hf1 H1 Dl A0 acc0 R1 (L2.wipe σ w) st1)
    (h1 : match compD g mt me w ds st1 acc0 with
      | .ok acc' st' => ∀ Hf' H' A' R', Tr (jn (fun b => b = Dl ∨ A0 b) R1) Hf1 H1 (jn (fun b => b = Dl ∨ A' b) R') Hf' H' → Acc ca X.K Hf' H' Dl A' acc' R' (L2.wipe σ w) st' → Fin H'
      | _ => False) :
    ∃ W : Nat → Nat → Hp → Prop, (∃ m, W 0 m H1) ∧ ∀ i m H, W i m H → (J.stop i H ∧ Fin H) ∨ (J.go i H ∧ ∃ Nx : Hp → Prop, (∀ H', Nx H' → ∃ m', m' < m ∧ W (i + 1) m' H') ∧ ∀ x H', J.yld i H x H' → t x (L2.wipe σ w) H' fun σ2 H2 => L2.wipe σ2 w = L2.wipe σ w ∧ tt σ2 H2 fun b H3 =>
      if b = true then te σ2 H3 fun y H4 => ∃ acc, H4 Dl = some (.lst acc) ∧ acc.length < sizeLine ∧ Nx (upd H4 Dl (.lst (acc ++ [y]))) else Nx H3) := by
  refine ⟨fun i m H' => m = ds.length - i ∧ i ≤ ds.length ∧ ∃ Hf' R' st' A acc, Tr (jn (fun b => b = Dl ∨ A0 b) R1) Hf1 H1 (jn (fun b => b = Dl ∨ A b) R') Hf' H' ∧ Acc ca X.K Hf' H' Dl A acc R' (L2.wipe σ w) st' ∧ compD g mt me w (ds.drop i) st' acc = compD g mt me w ds st1 acc0,
    ⟨ds.length, by simp, Nat.zero_le _, Hf1, R1, st1, A0, acc0, Tr.refl fun _ q => q, ac0, rfl⟩, ?_⟩
  rintro i m H' ⟨rfl, hi', Hf', R', st', A, acc, t', ac, ef⟩
  have p' := ac.pr
  obtain ⟨g1, g2, g3⟩ := it Hf' H' t'.fx p'.w.ex p'.w.tp
  by_cases hlt : i < ds.length
  · refine .inr ⟨g1 i hlt, fun H2 => i + 1 ≤ ds.length ∧ ∃ Hf2 R2 st2 A2 acc2, Tr (jn (fun b => b = Dl ∨ A0 b) R1) Hf1 H1 (jn (fun b => b = Dl ∨ A2 b) R2) Hf2 H2 ∧ Acc ca X.K Hf2 H2 Dl A2 acc2 R2 (L2.wipe σ w) st2 ∧ compD g mt me w (ds.drop (i + 1)) st2 acc2 = compD g mt me w ds st1 acc0,
      fun H2 ⟨q1, q2⟩ => ⟨ds.length - (i + 1), by omega, rfl, q1, q2⟩, fun x H2 hy => ?_⟩
    obtain ⟨d, ed⟩ : ∃ d, ds[i]? = some d := ⟨ds[i], by simp [hlt]⟩
    obtain ⟨hd, Hf2, x1, x2, x3, x4, x5, rx⟩ := g3 i d x H2 ed hy
    obtain ⟨p2, t2⟩ := p'.drop.yield x1 x2 x3 x4 x5
    have edr : ds.drop i = d :: ds.drop (i + 1) := by
      rw [List.drop_eq_getElem_cons
          hlt]
      simp only [List.getElem?_eq_getElem hlt, Option.some.injEq] at ed
      rw [ed]
    rw [edr, compD] at ef
    have hnf : compD g mt me w ds st1 acc0 = .fail → False := fun z => by rw [z] at h1; exact h1
    -- the new list is beside the slots, all the way
    obtain ⟨vs0, eD, rA, nA⟩ := p'.pend
    refine hg Hf2 H2 Em R' (L2.wipe σ w) st' x d _ (p2.put rx) ?_
    cases eg : g d st' with
    | fail => rw [eg] at ef; exact hnf ef.symm
    | exc x0 st2 => rw [eg] at ef; exact hnf ef.symm
    | ok a st2 =>
      rw [eg] at ef
      intro Hf3 H3 R3 σ3 t3 p3 k3
      have ew : L2.wipe σ3 w = L2.wipe σ w := by rw [wipe_lk k3, wipe_wipe]
      refine ⟨ew, ?_⟩
      refine ht Hf3 H3 R3 σ3 st2 _ p3 ?_
      dsimp only [Res.bind, Res.noX] at ef
      cases et : mt st2 with
      | fail => rw [et] at ef; exact hnf ef.symm
      | exc x0 st4 => rw [et] at ef; exact hnf ef.symm
      | ok k st4 =>
        rw [et] at ef
        dsimp only at ef
        intro Hf4 H4 R4 t4 p4
        have tA := (t2.trans t3).trans t4
        have pAcc : PR ca X.K Hf' H' (fun b => b = Dl ∨ A b) True R' (L2.wipe σ w) st' := p'.imp fun _ => trivial
        cases k with
        | false =>
          show _ ≤ _ ∧ _
          rw [if_neg (by decide)] at ef
          obtain ⟨c1, c2, c3, c4, c5⟩ := PR.carry (ppf := fun _ _ => True) pAcc tA p4
          refine ⟨by omega, Hf4, R4, wipeS st4 w, A, acc, (t'.trans c5).less (fun b q => ?_), ⟨?_⟩, ef⟩
          · rcases q with q | q
            · exact .inl (.inl q)
            · exact .inr q
          · have p5 : PR ca X.K Hf4 H4 (fun b => b = Dl ∨ A b) (∃ vs, H4 Dl = some (.lst vs) ∧ RepL ca X.K Hf4 H4 A vs acc ∧ ¬ A Dl) R4 σ3 st4 :=
              ⟨⟨vs0, c1 Dl (.inl rfl) _ eD, rA.keep tA.fx (fun b q => c1 b (.inr q)), nA⟩, p4.len, p4.at_, p4.dj, c3, c4.mono fun b q => by
                rcases q with q | q
                · exact .inl (.inl q)
                · exact .inr q⟩
            have := p5.wipe w
            rw [ew] at this
            exact this
        | true =>
          show te σ3 H4 _
          rw [if_pos rfl] at ef
          refine he Hf4 H4 R4 σ3 st4 _ p4 ?_
          cases ee : me st4 with
          | fail => rw [ee] at ef; exact hnf ef.symm
          | exc x0 st5 => rw [ee] at ef; exact hnf ef.symm
          | ok y st5 =>
            rw [ee] at ef
            dsimp only at ef
            intro Hf5 H5 P5 R5 vy t5 p5
            obtain ⟨c1, c2, c3, c4, c5⟩ := PR.carry (ppf := fun _ _ => True) pAcc (tA.trans t5) p5
            by_cases hl : acc.length < 16777216
            · rw [if_pos hl] at ef
              have eD5 := c1 Dl (.inl rfl) _ eD
              have rA5 := rA.keep (tA.trans t5).fx (fun b q => c1 b (.inr q))
              refine ⟨vs0, eD5, by rw [rA.length, ← sz_eq]; exact hl, by omega, Hf5, R5, wipeS st5 w, fun b => A b ∨ P5 b, acc ++ [y], ?_, ⟨?_⟩, ef⟩
              · refine ((t'.trans c5).trans ⟨fun _ _ e => e, fun b o e n => ?_, fun b q => .inl q, fun _ _ e => .inl e⟩).less fun b q => ?_
                · rw [upd_ne fun z => n (.inl (.inl (.inl z)))]; exact e
                · rcases q with (q | q | q) | q
                  · exact .inl (.inl (.inl q))
                  · exact .inl (.inl (.inr q))
                  · exact .inl (.inr q)
                  · exact .inr q
              · have hnD : ∀ b, (A b ∨ P5 b) → b ≠ Dl := fun b q z => by
                  subst z
                  rcases q with q | q
                  · exact nA q
                  · exact c2 b (.inl rfl) q
                have hk : ∀ b o, b ≠ Dl → H5 b = some o → upd H5 Dl (.lst (vs0 ++ [vy])) b = some o := fun b o n e => by rw [upd_ne n]; exact e
                have rN := (repL_snoc rA5 p5.pend fun b q1 q2 => c2 b (.inr q1) q2).keep (H' := upd H5 Dl (.lst (vs0 ++ [vy]))) (fun _ _ e => e) fun b q o e => hk b o (hnD b q) e
                have p6 : PR ca X.K Hf5 (upd H5 Dl (.lst (vs0 ++ [vy]))) (fun b => b = Dl ∨ A b ∨ P5 b) (∃ vs, (upd H5 Dl (.lst (vs0 ++ [vy]))) Dl = some (.lst vs) ∧ RepL ca X.K Hf5 (upd H5 Dl (.lst (vs0 ++ [vy]))) (fun b => A b ∨ P5 b) vs (acc ++ [y]) ∧ ¬ (A Dl ∨ P5 Dl)) R5 σ3 st5 :=
                  ⟨⟨_, upd_same, rN, fun q => hnD Dl q rfl⟩, p5.len, fun k d e => by
                    obtain ⟨v, e1, r⟩ := p5.at_ k d e
                    exact ⟨v, e1, r.keep (fun _ _ e => e) fun b q o e => hk b o (fun z => c3 k b (.inl z) q) e⟩, p5.dj, fun k b q1 q2 => by
                    rcases q1 with q | q | q
                    · exact c3 k b (.inl q) q2
                    · exact c3 k b (.inr q) q2
                    · exact p5.dp k b q q2, ⟨fun b o e => by
                      by_cases z : b = Dl
                      · subst z
                        have := c4.nf b (.inl (.inl (.inl rfl)))
                        rw [this] at e; cases e
                      · exact hk b o z (c4.ex b o e), fun b q => by
                      by_cases z : b = Dl
                      · subst z; exact ⟨_, upd_same⟩
                      · obtain ⟨o, e⟩ := c4.dm b (by
                          rcases q with (q | q | q) | q
                          · exact .inl (.inl (.inl q))
                          · exact .inl (.inl (.inr q))
                          · exact .inl (.inr q)
                          · exact .inr q)
                        exact ⟨o, hk b o z e⟩, fun b q => c4.nf b (by
                          rcases q with (q | q | q) | q
                          · exact .inl (.inl (.inl q))
                          · exact .inl (.inl (.inr q))
                          · exact .inl (.inr q)
                          · exact .inr q), mkTp⟩⟩
                have := p6.wipe w
                rw [ew] at this
                exact this
            · rw [if_neg hl] at ef; exact (hnf ef.symm).elim
  · have e1 : i = ds.length := by omega
    subst e1
    refine .inl ⟨g2, ?_⟩
    rw [List.drop_length, compD] at ef
    rw [← ef] at h1
    exact h1 Hf' H' A R' t' ac
theorem wipe_sub {w w1 : List Nat} (h : ∀ i ∈ w1, i ∈ w) : L2.wipe (L2.wipe σ w1) w = L2.wipe σ w := wipe_eq (wipe_length σ w1) fun i hi => by rw [wipe_get, if_neg fun q => hi (h i q)]
theorem eLc2_src {src : Sl → Res (List D)} {g : MG} {src1 : Sl → Res (List D)} {g1 : MG} {t : MT} {e : ME} {w w1 : List Nat} {Q : VK} (h : Post ca X Hf H S σ (eLc2 src g src1 g1 t e w w1 st) Q) {Q' : It → Hp → Prop}
    (hk : ∀ ds st1 Hf1 H1 R1 J, Tr S Hf H (jn Em R1) Hf1 H1 → PR ca X.K Hf1 H1 Em True R1 σ st1 → ItD ca X.K J Hf1 ds → Post ca X Hf1 H1 (jn Em R1) σ ((comp2D g src1 g1 t e w w1 ds (wipeS st1 w) []).bind fun acc st2 => .ok (.lst true acc) st2) Q → Q' J H1) : PostI ca X Hf H S σ (src st) Q' := by
  unfold eLc2 at h
  cases r : src st with
  | fail => rw [r] at h; exact h
  | exc x st1 => rw [r] at h; exact h
  | ok ds st1 =>
    rw [r] at h
    exact fun Hf1 H1 R1 J t1 p1 i1 => hk ds st1 Hf1 H1 R1 J t1 p1 i1 (Post.from t1 h)
theorem lc2_read {wi wi1 : TI} {src src1 : Sl → Res (List D)} {tg elt iter : Expr} {t t1 : TG} {g g1 : MG} {tt1 : TT} {mt1 : MT} {te : TE} {me : ME} {w w1 : List Nat} (hw : ∀ i ∈ w1, i ∈ w)
    (hi : CI ca X tg iter wi src)
    (hg : ∀ (Hf H : Hp) (P : Rg) (R : Nat → Rg) (σ : L2.St) (st : Sl) (v : V) (d : D) (Q : L2.St → Hp → Prop), PR ca X.K Hf H P (Rep ca X.K Hf H P v d) R σ st →
      (match g d st with
        | .ok _ st' => ∀ Hf' H' R' σ', Tr (jn P R) Hf H (jn Em R') Hf' H' → PR ca X.K Hf' H' Em True R' σ' st' → Lk (but σ.length w) σ σ' → Q σ' H'
        | _ => False) → t v σ H Q)
    (hi1 : ∀ (Hf H : Hp) (R : Nat → Rg) (σ : L2.St) (st : Sl) (Q : It → Hp → Prop), PR ca X.K Hf H Em True R σ st → (match src1 st with
        | .ok ds st' => ∀ Hf' H' R' J, Tr (jn Em R) Hf H (jn Em R') Hf' H' → PR ca X.K Hf' H' Em True R' σ st' → ItD ca X.K J Hf' ds → Q J H'
        | _ => False) → wi1 σ H Q)
    (hg1 : ∀ (Hf H : Hp) (P : Rg) (R : Nat → Rg) (σ : L2.St) (st : Sl) (v : V) (d : D) (Q : L2.St → Hp → Prop), PR ca X.K Hf H P (Rep ca X.K Hf H P v d) R σ st →
      (match g1 d st with
        | .ok _ st' => ∀ Hf' H' R' σ', Tr (jn P R) Hf H (jn Em R') Hf' H' → PR ca X.K Hf' H' Em True R' σ' st' → Lk (but σ.length w1) σ σ' → Q σ' H'
        | _ => False) → t1 v σ H Q)
    (ht1 : ∀ (Hf H : Hp) (R : Nat → Rg) (σ : L2.St) (st : Sl) (Q : Bool → Hp → Prop), PR ca X.K Hf H Em True R σ st → (match mt1 st with
        | .ok k st' => ∀ Hf' H' R', Tr (jn Em R) Hf H (jn Em R') Hf' H' → PR ca X.K Hf' H' Em True R' σ st' → Q k H'
        | _ => False) → tt1 σ H Q)
    (he : ∀ (Hf H : Hp) (R : Nat → Rg) (σ : L2.St) (st : Sl) (Q : VK), PR ca X.K Hf H Em True R σ st → (match me st with
        | .ok d st' => ∀ Hf' H' P R' v, Tr (jn Em R) Hf H (jn P R') Hf' H' → PR ca X.K Hf' H' P (Rep ca X.K Hf' H' P v d) R' σ st' → Q v H'
        | _ => False) → te σ H Q)
    {Q : VK} (p : PR ca X.K Hf H Em True R σ st) (h : Post ca X Hf H (jn Em R) σ (eLc2 src g src1 g1 mt1 me w w1 st) Q) : tLc2 wi t tYes wi1 t1 tt1 te w w1 σ H Q := by
  refine hi.2 Hf H R σ st _ p (eLc2_src h fun ds st1 Hf1 H1 R1 J t1' p1 it h1 => ?_)
  clear h t1' p
  intro Dl hD
  have hD1 : Hf1 Dl = none := (wl_new (o := .lst []) p1.w hD).2
  refine ⟨fun i m H' => m = ds.length - i ∧ i ≤ ds.length ∧ ∃ Hf' R' st' A acc, Tr (jn Em R1) Hf1 H1 (jn (fun b => b = Dl ∨ A b) R') Hf' H' ∧ Acc ca X.K Hf' H' Dl A acc R' (L2.wipe σ w) st' ∧ comp2D g src1 g1 mt1 me w w1 (ds.drop i) st' acc = comp2D g src1 g1 mt1 me w w1 ds (wipeS st1 w) [],
    ⟨ds.length, by simp, Nat.zero_le _, Hf1, R1, wipeS st1 w, Em, [], ?_, ⟨?_⟩, rfl⟩, ?_⟩
  · refine ⟨fun _ _ e => e, fun b o e _ => upd_keep hD b o e, fun b q => ?_, fun _ _ e => .inl e⟩
    rcases q with (q | q) | q
    · subst q; exact .inr hD
    · exact q.elim
    · exact .inl (.inr q)
  · have := (p1.wipe w).grow (o := .lst []) hD (P' := fun b => b = Dl ∨ Em b) (qq := ∃ vs, (upd H1 Dl (.lst [])) Dl = some (.lst vs) ∧ RepL ca X.K Hf1 (upd H1 Dl (.lst [])) Em vs [] ∧ ¬ Em Dl) ⟨[], upd_same, .nil, fun q => q⟩ (fun b q => q.elim id fun q => q.elim)
    exact this
  rintro i m H' ⟨rfl, hi', Hf', R', st', A, acc, t', ac, ef⟩
  have p' := ac.pr
  obtain ⟨g1', g2, g3⟩ := it Hf' H' t'.fx p'.w.ex p'.w.tp
  by_cases hlt : i < ds.length
  · refine .inr ⟨g1' i hlt, fun H2 => i + 1 ≤ ds.length ∧ ∃ Hf2 R2 st2 A2 acc2, Tr (jn Em R1) Hf1 H1 (jn (fun b => b = Dl ∨ A2 b) R2) Hf2 H2 ∧ Acc ca X.K Hf2 H2 Dl A2 acc2 R2 (L2.wipe σ w) st2 ∧ comp2D g src1 g1 mt1 me w w1 (ds.drop (i + 1)) st2 acc2 = comp2D g src1 g1 mt1 me w w1 ds (wipeS st1 w) [],
      fun H2 ⟨q1, q2⟩ => ⟨ds.length - (i + 1), by omega, rfl, q1, q2⟩, fun x H2 hy => ?_⟩
    obtain ⟨d, ed⟩ : ∃ d, ds[i]? = some d := ⟨ds[i], by simp [hlt]⟩
    obtain ⟨hd, Hf2, x1, x2, x3, x4, x5, rx⟩ := g3 i d x H2 ed hy
    obtain ⟨p2, t2⟩ := p'.drop.yield x1 x2 x3 x4 x5
    have edr : ds.drop i = d :: ds.drop (i + 1) := by
      rw [List.drop_eq_getElem_cons
          hlt]
      simp only [List.getElem?_eq_getElem hlt, Option.some.injEq] at ed
      rw [ed]
    rw [edr, comp2D] at ef
    have hnf : comp2D g src1 g1 mt1 me w w1 ds (wipeS st1 w) [] = .fail → False := fun z => by rw [z] at h1; exact h1
    obtain ⟨vs0, eD, rA, nA⟩ := p'.pend
    refine hg Hf2 H2 Em R' (L2.wipe σ w) st' x d _ (p2.put rx) ?_
    cases eg : g d st' with
    | fail => rw [eg] at ef; exact hnf ef.symm
    | exc x0 st2 => rw [eg] at ef; exact hnf ef.symm
    | ok a st2 =>
      rw [eg] at ef
      intro Hf3 H3 R3 σ3 t3 p3 k3
      have ew : L2.wipe σ3 w = L2.wipe σ w := by rw [wipe_lk k3, wipe_wipe]
      refine ⟨ew, ?_⟩
      unfold tYes
      dsimp only
      rw [if_pos rfl]
      refine hi1 Hf3 H3 R3 σ3 st2 _ p3 ?_
      dsimp only [Res.bind, Res.noX] at ef
      cases et : src1 st2 with
      | fail => rw [et] at ef; exact hnf ef.symm
      | exc x0 st4 => rw [et] at ef; exact hnf ef.symm
      | ok ds1 st4 =>
        rw [et] at ef
        dsimp only at ef
        intro Hf4 H4 R4 J1 t4 p4 it1
        have tA := (t2.trans t3).trans t4
        have pAcc : PR ca X.K Hf' H' (fun b => b = Dl ∨ A b) True R' (L2.wipe σ w) st' := p'.imp fun _ => trivial
        obtain ⟨c1, c2, c3, c4, c5⟩ := PR.carry (ppf := fun _ _ => True) pAcc tA p4
        have p5 : PR ca X.K Hf4 H4 (fun b => b = Dl ∨ A b) (∃ vs, H4 Dl = some (.lst vs) ∧ RepL ca X.K Hf4 H4 A vs acc ∧ ¬ A Dl) R4 σ3 st4 :=
          ⟨⟨vs0, c1 Dl (.inl rfl) _ eD, rA.keep tA.fx (fun b q => c1 b (.inr q)), nA⟩, p4.len, p4.at_, p4.dj, c3, c4.mono fun b q => by
            rcases q with q | q
            · exact .inl (.inl q)
            · exact .inr q⟩
        refine lc_loop hg1 ht1 he it1 ⟨p5.wipe w1⟩ ?_
        cases ec : compD g1 mt1 me w1 ds1 (wipeS st4 w1) acc with
        | fail => rw [ec] at ef; exact hnf ef.symm
        | exc x0 st5 => exact compD_noX _ _ _ ec
        | ok acc' st5 =>
          rw [ec] at ef
          intro Hf5 H5 A5 R5 t5 ac5
          have q5 := ac5.pr.wipe w
          rw [wipe_sub hw, ew] at q5
          exact ⟨by omega, Hf5, R5, wipeS st5 w, A5, acc', (t'.trans (c5.less fun b q => by
            rcases q with q | q
            · exact .inl (.inl q)
            · exact .inr q)).trans t5, ⟨q5⟩, ef⟩
  · have e1 : i = ds.length := by omega
    subst e1
    refine .inl ⟨g2, ?_⟩
    rw [List.drop_length, comp2D] at ef
    rw [← ef] at h1
    have h2 : Post ca X Hf1 H1 (jn Em R1) σ (.ok (.lst true acc) st') Q := h1
    obtain ⟨vs0, eD, rA, nA⟩ := p'.pend
    exact h2 Hf' H' (fun b => b = Dl ∨ A b) R' (.ref Dl) t' ((p'.unwipe).imp fun _ => .lstO (.inl rfl) eD (rA.mono fun b q => ⟨.inr q, fun z => nA (z ▸ q)⟩))
/-- [elt for tg in iter for tg1 in iter1 (if c)] -/
def TiB (X : Cx) (scope : Scope) (wi : Cx → TI) : TI := fun σ H Q => ∀ s H0 C cl fp, wi (bk X scope s H0 C cl fp) σ H Q
theorem pi_tiB {scope : Scope} {tg iter : Expr} {wi : Cx → TI} (h : ∀ s H C cl fp, PI (bk X scope s H C cl fp) tg iter (wi (bk X scope s H C cl fp))) : ∀ (s : Shared) (H : Hp) (C : Addr) (cl : List (Str × Addr)) (fp : List Addr), PI (bk X scope s H C cl fp) tg iter (TiB X scope wi) := fun s H C cl fp => ⟨fun pins s1 σ H1 Q I q => (h s H C cl fp).run pins s1 σ H1 Q I (q s H C cl fp)⟩
theorem lc2_cer {wi : TI} {wi1 : Cx → TI} {src src1 : Sl → Res (List D)} {tg tg1 elt iter iter1 : Expr} {scope : Scope} {t t1 : TG} {g g1 : MG} {tt1 : TT} {me : ME} {mt1 : MT} {w w1 : List Nat} (hw : ∀ i ∈ w1, i ∈ w)
    (hi : CI ca X tg iter wi src) (hg : ∀ n s H C cl fp, CG ca (bk X scope s H C cl fp) (but n w) tg t g)
    (hi1 : ∀ s H C cl fp, CI ca (bk X scope s H C cl fp) tg1 iter1 (wi1 (bk X scope s H C cl fp)) src1) (hg1 : ∀ n s H C cl fp, CG ca (bk X scope s H C cl fp) (but n w1) tg1 t1 g1)
    (ht : ∀ (Hf H : Hp) (R : Nat → Rg) (σ : L2.St) (st : Sl) (Q : Bool → Hp → Prop), PR ca X.K Hf H Em True R σ st → (match mt1 st with
        | .ok k st' => ∀ Hf' H' R', Tr (jn Em R) Hf H (jn Em R') Hf' H' → PR ca X.K Hf' H' Em True R' σ st' → Q k H'
        | _ => False) → tt1 σ H Q)
    (he : ∀ s H C cl fp, CE ca (bk X scope s H C cl fp) elt me) : CER ca X (tLc2 wi t tYes (TiB X scope wi1) t1 tt1 (TeB X scope elt) w w1) (eLc2 src g src1 g1 mt1 me w w1) :=
  fun Hf H R σ st Q p h => lc2_read (elt := elt) hw hi (fun Hf H P R σ st v d Q p h => (hg σ.length {} H 0 [] []).2 Hf H P R σ st v d Q p h)
    (fun Hf H R σ st Q p h s H0 C cl fp => (hi1 s H0 C cl fp).2 Hf H R σ st Q p (by
      cases e : src1 st with
      | ok d st1 => rw [e] at h; exact h
      | exc x st1 => rw [e] at h; exact h.elim
      | fail => rw [e] at h; exact h))
    (fun Hf H P R σ st v d Q p h => (hg1 σ.length {} H 0 [] []).2 Hf H P R σ st v d Q p h) ht
    (fun Hf H R σ st Q p h s H0 C cl fp => he s H0 C cl fp Hf H R σ st Q p (by
      cases e : me st with
      | ok d st1 => rw [e] at h; exact h
      | exc x st1 => rw [e] at h; exact h.elim
      | fail => rw [e] at h; exact h)) p h
theorem ce_lc2If {wi : TI} {wi1 : Cx → TI} {src src1 : Sl → Res (List D)} {tg tg1 elt iter iter1 c : Expr} {scope : Scope} {own : List (Str × Nat)} {pos : Pos} {t t1 : TG} {g g1 : MG} {me : ME} {mt : MT} (vs1 : List Nat) (hc : X.calm = true) (hN : X.N.Nodup) (hi : CI ca X tg iter wi src) (ok : BlkOk X.N X.env.scope scope own) (hv : ∀ i ∈ vs1, i ∈ own.map (·.2))
    (hg : ∀ n s H C cl fp, CG ca (bk X scope s H C cl fp) (but n (own.map (·.2))) tg t g)
    (hi1 : ∀ s H C cl fp, CI ca (bk X scope s H C cl fp) tg1 iter1 (wi1 (bk X scope s H C cl fp)) src1) (hg1 : ∀ n s H C cl fp, CG ca (bk X scope s H C cl fp) (but n vs1) tg1 t1 g1)
    (ht : ∀ s H C cl fp, CT ca (bk X scope s H C cl fp) c mt) (he : ∀ s H C cl fp, CE ca (bk X scope s H C cl fp) elt me) (hs : ∀ x, foldedSetIterable iter X.env x = pure x := by intro _; rfl) (hs1 : ∀ env x, foldedSetIterable iter1 env x = pure x := by intro _ _; rfl) :
    CE ca X (.ListComp elt [⟨tg, iter, [], 0⟩, ⟨tg1, iter1, [c], 0⟩] scope pos) (eLc2 src g src1 g1 mt me (own.map (·.2)) vs1) :=
  ce_of (pe_lc2 hc hN hi.1 ok hv (fun s H C cl fp => (hg 0 s H C cl fp).1) (fun _ _ _ _ _ => pts_nil) (pi_tiB fun s H C cl fp => (hi1 s H C cl fp).1) (fun s H C cl fp => (hg1 0 s H C cl fp).1) pt_ttB pe_teB hs hs1)
    (lc2_cer hv hi hg hi1 hg1 (fun Hf H R σ st Q p h s H0 C cl fp => ht s H0 C cl fp Hf H R σ st Q p (by
      cases e : mt st with
      | ok d st1 => rw [e] at h; exact h
      | exc x st1 => rw [e] at h; exact h.elim
      | fail => rw [e] at h; exact h)) he)
end
end DL

/-! DL15: short forms for printed derivations; getters; a law's end. -/
namespace DL
open PySem L2 PyProof.Rows ClX
section
variable {ca : Nat → Addr} {K : PySem.W.Frag} {Hf H : Hp} {S : Rg} {R : Nat → Rg} {σ : L2.St} {st : Sl} {v : V} {d : D} {vs : List V} {ds : List D} {X : Cx} {L : List Nat}
/-- a name in the slot i -/
theorem en (i : Nat) {x : Str} {pos : Pos} (hN : X.N[i]? = some x := by rfl) (hv : Vis X.env.scope x := by first | exact Or.inl rfl | exact Or.inr (Or.inl rfl) | exact Or.inr (Or.inr rfl)) (hd : (x == ("__debug__" : Str)) = false := by decide)
    (hcd : (x == ("__classdict__" : Str)) = false := by decide) : CE ca X (.Name x pos) (eN i) := ce_n (pe_var hN hv hd hcd)
theorem emv (i : Nat) {x : Str} {pos : Pos} (hN : X.N[i]? = some x := by rfl) (hv : Vis X.env.scope x := by first | exact Or.inl rfl | exact Or.inr (Or.inl rfl) | exact Or.inr (Or.inr rfl)) (hd : (x == ("__debug__" : Str)) = false := by decide)
    (hcd : (x == ("__classdict__" : Str)) = false := by decide) : CE ca X (.Name x pos) (eMv i) := ce_mv (pe_var hN hv hd hcd)
theorem es (i : Nat) {x : Str} {pos : Pos} (hN : X.N[i]? = some x := by rfl) (hv : Vis X.env.scope x := by first | exact Or.inl rfl | exact Or.inr (Or.inl rfl) | exact Or.inr (Or.inr rfl)) (hd : (x == ("__debug__" : Str)) = false := by decide)
    (hcd : (x == ("__classdict__" : Str)) = false := by decide) : CO ca X (.Name x pos) (.s i) := co_s (pe_var hN hv hd hcd)
theorem gn (i : Nat) {x : Str} {pos : Pos} (hN : X.N.Nodup) (hi : X.N[i]? = some x := by rfl) (hx : Loc X.env.scope x := by first | exact .inl rfl | exact .inr rfl) (hL : i ∉ L := by decide)
    (hf : X.fn x = true ∨ X.env.scope.names.lookup x = some .local := by first | exact .inl rfl | exact .inr rfl) : CG ca X L (.Name x pos) (gName i) (gN i) := cg_name (pg_name hN hi hx hf) hL
theorem cs_set (i : Nat) {x : Str} {e : Expr} {m : ME} {pos pos' : Pos} (hN : X.N.Nodup) (he : CE ca X e m) (hi : X.N[i]? = some x := by rfl) (hx : Loc X.env.scope x := by first | exact .inl rfl | exact .inr rfl) (hL : i ∉ L := by decide)
    (hs : swapsWith e (some (.Name x pos')) pos.line X.env = pure false := by rfl) (hf : X.fn x = true ∨ X.env.scope.names.lookup x = some .local := by first | exact .inl rfl | exact .inr rfl) : CS ca X L (.Assign [.Name x pos'] e pos) (sAsg m (gN i)) :=
  cs_asg he (cg_name (pg_name hN hi hx hf) hL) (ps_set hN hi hx (we_pe X e) hs hf)
theorem cs_asgT {tg e : Expr} {m : ME} {t : TG} {g : MG} {pos : Pos} (he : CE ca X e m) (hg : CG ca X L tg t g) (hs : swapsWithSole [tg] e pos.line X.env = pure false := by rfl) (hw : swappedStores [tg] e X.env = pure none := by rfl)
    (h1 : (assignEach [tg] X.env).map (·.2) = [assign tg X.env] := by rfl) : CS ca X L (.Assign [tg] e pos) (sAsg m g) := cs_asg he hg (ps_asg (we_pe X e) hg.1 hs hw h1)
theorem relRef (a : Addr) : RelV (.ref a) (.ref a) := rfl
theorem relTy (n : String) : RelV (.ty n) (.type n) := rfl
/-- a constant of a class -/
theorem ce_cval {x f : Str} {w : Value} {p pos : Pos} {C : Addr} {mc : Value} (hg : Gl X x) (hm : X.mg x = some (.ref C)) (r : CRead X.K C mc) (k : CVal X.K C mc f v w) (rd : ∀ Hf H, Rep ca X.K Hf H Em v d)
    (hd : (x == ("__debug__" : Str)) = false := by decide) (hb : attributeBase (.Name x p) f X.env (eval (.Name x p) X.env) = eval (.Name x p) X.env := by rfl) : CE ca X (.Attribute (.Name x p) f pos) (eC d) := by
  refine ce_c (v := v) ⟨fun pins s σ H Q I h => ?_⟩ rd
  exact (pe_cval (pe_glob hg hm (relRef _) hd) hb).run pins s σ H Q I ⟨C, mc, v, w, rfl, r, k, h⟩
/-- a built-in type, a class, as values -/
theorem ce_ty {x : Str} {T : String} {p : Pos} (hg : Gl X x) (hm : X.mg x = none) (hv : bootBuiltins x = some (.type T)) (hn : x ≠ "__name__" := by decide) (hd : (x == ("__debug__" : Str)) = false := by decide) : CE ca X (.Name x p) (eC (.ty T)) :=
  ce_c (pe_bltn hg hm hv (relTy _) hn hd) fun _ _ => .ty
theorem ce_cls {x : Str} {C : Nat} {p : Pos} (hg : Gl X x) (hm : X.mg x = some (.ref (ca C))) (hd : (x == ("__debug__" : Str)) = false := by decide) : CE ca X (.Name x p) (eC (.cls C)) :=
  ce_c (pe_glob hg hm (relRef _) hd) fun _ _ => .cls
end
/-- a property's getter -/
theorem getter_ok {CX : CXT} {P : Program} {w : World} {K : PySem.W.Frag} {mg : Str → Option Value} {base : Heap} {k : Nat} {fa C : Addr} {name qual f : Str} {st : Stmt} {fd : FuncData} {N : List Str} {p1 p2 p3 : Pos} (F : Fun K name qual st fa fd) (S : FnScope N ["self"] (defScope st))
    (hN : N[0]? = some ("self" : Str)) (hb : defBody st = [.Return (some (.Attribute (.Name "self" p1) f p2)) p3]) (c : Cls K C) (n : NoAttr K C f) : FnOk P w K mg base CX (k + 1) fa fd ["self"] (getSp C f) := by
  obtain ⟨oc, od, kV, doc, pm, an, cdv, ct, osl, rfl, lk, hcd⟩ :=
      F.ex
  exact fn_getter lk hcd S hN hb c n
/-- a law's promise from its meaning -/
theorem sp_law {ca : Nat → Addr} {K : PySem.W.Frag} {m : MF} {n : Nat} (h : ∀ ns : List Int, ns.length ≤ n → ∃ ps, m [.scr ns] = .ok (.bl true) ps) (H : Hp) (a : Addr) (ns : List Int) (hn : ns.length ≤ n) (hS : SqL K H a (ns.map V.int)) :
    spM ca K m [.ref a] H (fun v _ => v = .bl true) fun _ _ _ => False := by
  refine ⟨H, Em, [.scr ns], RepL.one (.scr hS), ⟨fun _ _ e => e, fun _ q => q.elim, fun _ q => q.elim, fun _ _ e => e⟩, ?_⟩
  obtain ⟨ps, e⟩ := h ns hn
  rw [e]
  exact fun Hf' H' P' Rp v t p => rep_bl p.pend
theorem law_cx {P : Program} {w : World} {H : Hp} {s : Shared} {e : Value} {s' : Shared} (h : L2.CX P w [] H s (fun _ _ _ => False) e s') : False := by
  obtain ⟨a, B, H', cls, d, _, _, _, _, _, _, _, hE⟩ := h
  exact hE
end DL

/-! DL16: blocks, checked by computing. -/
namespace DL
open PySem L2 PyProof.Rows
def blkB (N : List Str) (sc scope : Scope) (own : List (Str × Nat)) : Bool :=
  scope.names.all (fun y => decide (scope.names.lookup y.1 = some y.2)) && (own.all (fun p => decide (N[p.2]? = some p.1)) &&
  (scope.names.all (fun y => !decide (y.2 = .free) || (decide (sc.names.lookup y.1 = some .cell) || decide (sc.names.lookup y.1 = some .free))) &&
  scope.names.all (fun y => !(decide (y.2 = .local) || decide (y.2 = .cell)) || (decide (y.1 ∈ own.map (·.1)) || !decide (y.1 ∈ N)))))
theorem blk_of {N : List Str} {sc scope : Scope} {own : List (Str × Nat)} (hk : scope.kind = .function) (h : blkB N sc scope own = true) : BlkOk N sc scope own := by
  unfold blkB at h
  simp only [Bool.and_eq_true, List.all_eq_true, Bool.or_eq_true, Bool.not_eq_true', decide_eq_true_eq, decide_eq_false_iff_not] at h
  obtain ⟨h1, h2, h3, h4⟩ := h
  refine ⟨hk, fun y hy => h1 y hy, fun p hp => h2 p hp, fun y hy hf => ?_, fun y hy hl => ?_⟩
  · rcases h3 y hy with q | q
    · exact absurd hf q
    · exact q
  · rcases h4 y hy with q | q
    · rcases hl with hl | hl
      · rw [hl] at q; simp at q
      · rw [hl] at q; simp at q
    · exact q
section
variable {ca : Nat → Addr} {X : Cx} {L : List Nat}
/-- a block's own name stored -/
theorem gb (i : Nat) {n : Nat} {w : List Nat} {x : Str} {pos : Pos} (hN : X.N.Nodup) (hi : X.N[i]? = some x := by rfl) (hx : Loc X.env.scope x := by first | exact .inl rfl | exact .inr rfl) (hL : i ∈ w := by decide)
    (hf : X.fn x = true ∨ X.env.scope.names.lookup x = some .local := by first | exact .inl rfl | exact .inr rfl) : CG ca X (but n w) (.Name x pos) (gName i) (gN i) := cg_name (pg_name hN hi hx hf) (not_but hL)
end
end DL

/-! DL17: enumerate over a tuple: how it is made, how it yields, how it ends; over the library's Draws. -/
namespace DL
open PySem L2 PyProof.Rows
open Sem (wp)
/-- the two objects that enumerate(tuple) lays -/
abbrev etI (t : Addr) : Obj := { cls := .type "tuple_iterator", data := .fields #[.ref t, .int 0 0] }
abbrev etE (it : Addr) : Obj :=
  { cls := .type "enumerate",
    data := .fields #[.none, .bool false, .ref it, rawInt 0, .none, .none] }
abbrev etH (h : Heap) (t : Addr) : Heap := (h.push (etI t)).push (etE h.objs.size)
abbrev etO (dc : Option Addr) (xs : Array Value) (n : Nat) (sl : Array (Option Value)) : Obj := { cls := .type "tuple", dict := dc, data := .seq xs n, slots := sl }
theorem et_new (t : Addr) (xs : Array Value) (n : Nat) (dc : Option Addr) (sl : Array (Option Value)) :
    Meets (Builtin.«enumerate.__new__» ⟨[.type "enumerate", .ref t], []⟩) fun _ R s => s.heap.get? t = some (etO dc xs n sl) ∧ R (.ok (.ret (.ref (s.heap.push (etI t)).objs.size))) { s with heap := etH s.heap t } :=
  .of_wp fun pr wo Ar R st hst => by
    rcases st with ⟨hp, gs, dr, tk, os⟩
    rcases hst with ⟨ht, hR⟩
    have sub := sub_enumerate
    have isT : Heap.IsTuple (Shared.heap ⟨hp, gs, dr, tk, os⟩) t xs := ⟨_, ht, rfl, n, rfl⟩
    have ends : ∀ {P : Prop}, P → P := id
    wp_walk using AutoSeq1.wpAny_loadPart' ht
    refine wpAny_stack_any fun _ =>
      wpAny_pure ?_
    split
    case _ c _ _ _ _ _ =>
      cases hc : (c == Value.type "enumerate") <;>
        (wp_walk using AutoSeq1.wpAny_loadPart' ht, wpAny_pyIter_tuple isT) <;>
        exact ends ⟨_, rfl, hR⟩
    all_goals
      wp_walk using AutoSeq1.wpAny_loadPart' ht, wpAny_pyIter_tuple isT
      exact ends ⟨_, rfl, hR⟩
section
variable {pr : Program} {wo : World} {Ar : Around} {Ex' : Value → Shared → Prop} {st : Shared}
/-- the call enumerate(t) -/
theorem et_call {t : Addr} {xs : Array Value} {Q : Value → Shared → Prop} (ht : st.heap.IsTuple t xs) (hq : Q (.ref (st.heap.objs.size + 1)) { st with heap := etH st.heap t }) :
    wpAny (model pr wo) Ar (call (.type "enumerate") [.ref t]) Q Ex' st := by
  rcases ht with ⟨⟨cl, dc, dat, sl⟩, ho, hcl, n, hdat⟩
  obtain rfl : cl = .type "tuple" := hcl
  obtain rfl : dat = .seq xs n := hdat
  have sz : (st.heap.push (etI t)).objs.size = st.heap.objs.size + 1 := Heap.size_push ..
  have at1 : (etH st.heap t).get? (st.heap.objs.size + 1) = some (etE st.heap.objs.size) := by
    rw [← sz]
    exact Heap.get?_push_size _
        rfl
  have args : ∀ obj, _ := fun obj => F.args_object_init_2 obj (Value.ref t)
  refine callType_new F.called_enumerate (by decide) (F.typeCall_enumerate_1 _) (F.newCall_enumerate_1 _) args
    F.entry_enumerate_new (et_new t xs n dc sl) ⟨ho, ?_⟩
  show (∃ _, _) ∧ _
  rw [sz]
  exact ⟨⟨_, at1, rfl⟩, hq⟩
/-- its end -/
theorem et_end {e it t : Addr} {i : Nat} {xs : Array Value} {old : Value} {Q : Option Value → Shared → Prop} (hh : Ar.handled = none) (he : IsEnum st.heap e it i old) (hi : st.heap.IsTupleIter it t i)
    (ht : st.heap.IsTuple t xs) (hx : xs[i]? = none) (hq : ∀ h', Heap.ExtBut it st.heap h' → Q none { st with heap := h' }) : wpAny (model pr wo) Ar (pyNext (.ref e)) Q Ex' st := by
  have ty : st.TypeIs (.ref e) "enumerate" := ⟨_, he, rfl⟩
  have inner := fun {Q'} {E'} k => wpAny_nextOf_tuple_end (prog := pr) (w := wo) (A := Ar.in1) (Q := Q') (E := E') (s := st) hh hi ht hx k
  unfold pyNext
  refine wpAny_bind (wpAny_attempt
      ?_)
  refine wpAny_callSpecial?_slot (name := Str.ofString "__next__") ty F.slot_enumerate_next ?_
  refine wpAny_call_entry F.slot_enumerate_next ty F.entry_enumerate_next ?_ (F.args_enumerate_next_1 _)
  refine wpAny_bind (m := field (.ref e) 2) ?_
  refine wpAny_field he rfl (x := .ref it) rfl (wpAny_bind ?_)
  refine wpAny_nextOf_tuple_end hh hi ht hx fun h' x ext ⟨o, ho, hc⟩ => ?_
  refine wpAny_bind ?_
  exact wpAny_isInstance (T := "StopIteration") (b := true)
    ⟨o, ho, hc⟩ isSubtype_stop (wpAny_pure (hq _ ext))
end
/-- the tuple at a, each item in a new pair with its number -/
def IteT (K : PySem.W.Frag) (a : Addr) : It where
  go := fun i H => ∃ ys y, SqT K H a ys ∧ ys[i]? = some y
  yld := fun i H v H' => ∃ T x, v = .ref T ∧ H T = none ∧ H' = upd H T (.tup [.int (i : Nat), x]) ∧ ∀ ys, SqT K H a ys → ys[i]? = some x
  stop := fun i H => ∃ ys : List V, SqT K H a ys ∧ ys.length ≤ i
/-- how the enumeration stands before its turn i -/
structure EtAt (a e it : Addr) (i : Nat) (h : Heap) : Prop where
  en : ∃ old, IsEnum h e it ((i : Nat) : Int) old
  iter : h.IsTupleIter it a i
  n1 : e ≠ it
  n2 : e ≠ a
  n3 : a ≠ it
theorem two_mem {b e it : Addr} (h : b ∈ [e, it]) : b = e ∨ b = it := by simpa using h
theorem turn_enumT {P : Program} {w : World} {K : PySem.W.Frag} {elts : List Expr} {kk : Nat} {tpos : Pos} (a e it : Addr) : Turn P w K (.Tuple elts kk tpos) (IteT K a) [e, it] e (EtAt a e it) where
  mem := List.mem_cons_self
  obj := by
    intro i h z b hb
    obtain ⟨old, he⟩ := z.en
    obtain ⟨o, ho, _, hd⟩ := z.iter
    rcases two_mem hb with rfl | rfl
    · exact ⟨_, he, fun _ q => nomatch q⟩
    · refine ⟨o, ho, fun v q => ?_⟩
      rw [hd] at q
      cases q
  keep := by
    intro i h h' z k
    obtain ⟨old, he⟩ := z.en
    exact ⟨⟨old, k e (List.mem_cons_self) _ he⟩, z.iter.at fun o q => k it (by simp) o q, z.n1, z.n2, z.n3⟩
  item := by
    intro X e1 e2 e3 calm i pins s σ H E I fresh z go
    subst e1 e2 e3
    obtain ⟨old, he⟩ := z.en
    obtain ⟨ys, y, hq, hy⟩ := go
    obtain ⟨us, rel, isT, _⟩ := I.tuple hq
    obtain ⟨u, hu, ru⟩ := rel.get hy
    have isT' : s.heap.IsTuple a us.toArray := isT
    have below : ∀ b ∈ [e, it], b < s.heap.objs.size := fun b hb => by
      rcases two_mem hb with rfl | rfl
      · exact Heap.lt_size he
      · obtain ⟨_, q, _⟩ := z.iter
        exact Heap.lt_size q
    have ilt : i < us.toArray.size := by simpa using (List.getElem?_eq_some_iff.mp hu).1
    have draws := Draws.tuple (prog := X.prog) (w := X.w) (A := X.A.in1) (I.ok.hd calm) it a z.n3 us.toArray
    refine wpAny_pyNext_enum_itemD draws he ⟨z.iter, isT'⟩ ilt z.n1 (by simp [z.n1, z.n2]) fun xv h1 tk at_i out st1 newT size kept => ?_
    obtain rfl : u = xv := by
      have q : us.toArray[i]? = some u := by simpa using hu
      exact Option.some.inj (q.symm.trans at_i)
    refine ⟨_, rfl, ?_⟩
    refine wpAny_letOwnedTupleGo_enum (s := { s with heap := h1, toks := tk + 1 }) out fun h2 en2 same => ?_
    have eN : s.heap.objs.size ≠ e := Nat.ne_of_gt (below e List.mem_cons_self)
    have T2 : h2.get? s.heap.objs.size = some { cls := .type "tuple", data := .seq #[.int i tk, u] } := (same.2 _ eN).trans newT
    have pair : Vals [V.int (i : Nat), y] [.int i tk, u] := .cons ⟨_, rfl⟩ (.cons ru .nil)
    have ok : ObjOk X.prog X.w (upd H s.heap.objs.size (.tup [.int (i : Nat), y])) h2 s.heap.objs.size
        (.tup [.int (i : Nat), y]) := ⟨show 2 ≤ sizeLine from by decide, _, pair, ⟨_, T2, rfl, _, rfl⟩⟩
    have stays : ∀ b o, b ∉ [e, it] → s.heap.get? b = some o → h2.get? b = some o := fun b o nb q => by
      have b1 : b ≠ e := fun h => nb (by simp [h])
      have b2 : b ≠ it := fun h => nb (by simp [h])
      exact (same.2 b b1).trans (kept b o b1 b2 q)
    have J := I.turnedNew (t' := tk + 1) (ch := [e, it]) stays fresh (Nat.le_refl _) ok
    refine ⟨.ref s.heap.objs.size, _, J, rfl, ⟨_, y, rfl, I.hok.fresh (Nat.le_refl _), rfl, ?_⟩, ⟨⟨u, ?_⟩, ?_, z.n1, z.n2, z.n3⟩, ?_⟩
    · intro ws hws
      rw [I.tuple_inj hws hq]
      exact hy
    · rw [show ((i + 1 : Nat) : Int) = (i : Int) + 1 by omega]
      exact en2
    · exact st1.1.at fun o q => (same.2 it z.n1.symm).trans q
    · intro b hb
      rw [upd_ne (Nat.ne_of_lt (below b hb))]
      exact (fresh b hb).1
  done := by
    intro X e1 e2 e3 calm i pins s σ H E I fresh z stop
    subst e1 e2 e3
    obtain ⟨old, he⟩ := z.en
    obtain ⟨ys, hq, le⟩ := stop
    obtain ⟨us, rel, isT, _⟩ := I.tuple hq
    have isT' : s.heap.IsTuple a us.toArray := isT
    have len := rel.length
    have none_at : us.toArray[i]? = none := by
      simp
      omega
    have ft := fresh it (by simp)
    refine et_end (I.ok.hd calm) he z.iter isT' none_at fun h' ext => ⟨rfl, ?_⟩
    exact I.turned (t' := s.toks) (fun b o nb q => ext b o nb q) ft.1 ft.2.1 ft.2.2.2.1 ft.2.2.2.2.1 ft.2.2.2.2.2
  self := by
    intro A i s Q E z h
    obtain ⟨_, he⟩ := z.en
    exact wpAny_pyIter_enum he h
def iEnumT (K : PySem.W.Frag) (ta : TA) : TI := fun σ H R => ta σ H fun vs H1 => ∃ a ys, vs = [.ref a] ∧ SqT K H1 a ys ∧ R (IteT K a) H1
theorem pi_enumT {X : Cx} {e : Expr} {ta : TA} {p pos tpos : Pos} {elts : List Expr} {kk : Nat} (hg : Gl X "enumerate") (hm : X.mg "enumerate" = none) (ha : PA X [e] ta)
    (one : starEach [e] X.env = [(false, eval e X.env)] := by rfl) : PI X (.Tuple elts kk tpos) (.Call (.Name "enumerate" p) [e] [] pos) (iEnumT X.K ta) := by
  constructor
  intro pins s σ H R I h
  refine Call_ (ld_blt I hg hm boot_enumerate ?_)
  refine PyProof.Rows.callWith_type1 (thn (ha.run pos pins s σ H _ I h) ?_) one rfl
  rintro us s1 ⟨vs, H1, I1, rel, a, ys, rfl, hq, goal⟩
  obtain ⟨u, rfl, ru⟩ := vals1 rel
  obtain rfl : u = .ref a := ru
  obtain ⟨its, _, isT, _⟩ := I1.tuple hq
  have isT' : s1.heap.IsTuple a its.toArray := isT
  have alt : a < s1.heap.objs.size := by
    obtain ⟨o, ho, _⟩ := isT'
    exact Heap.lt_size ho
  have sz : (s1.heap.push (etI a)).objs.size = s1.heap.objs.size + 1 := Heap.size_push ..
  have en : IsEnum (etH s1.heap a) (s1.heap.objs.size + 1) s1.heap.objs.size 0 .none := by
    show (etH s1.heap a).get? _ = _
    rw [← sz]
    exact Heap.get?_push_size _
        rfl
  have itr : (etH s1.heap a).IsTupleIter s1.heap.objs.size a 0 := ⟨_, Heap.get?_push_of_some _ (Heap.get?_push_size _ rfl), rfl, rfl⟩
  have grown : ∀ b o, s1.heap.get? b = some o → (etH s1.heap a).get? b = some o := fun b o q => Heap.get?_push_of_some _ (Heap.get?_push_of_some _ q)
  refine et_call isT' (wpAny_pyIter_enum en ?_)
  have I2 := I1.kept (t' := s1.toks) grown
  refine ⟨s1.heap.objs.size + 1, [s1.heap.objs.size + 1, s1.heap.objs.size], _, _, H1, rfl, I2, turn_enumT a (s1.heap.objs.size + 1) s1.heap.objs.size,
    ⟨⟨.none, en⟩, itr, Nat.succ_ne_self _, Nat.ne_of_gt (Nat.lt_succ_of_lt alt), Nat.ne_of_lt alt⟩, ?_, goal⟩
  intro b hb
  have up : s1.heap.objs.size ≤ b := by
    rcases two_mem hb with rfl | rfl
    · exact Nat.le_succ _
    · exact Nat.le_refl _
  exact I1.fpOk up (I1.hok.fresh up)
section
variable {ca : Nat → Addr} {K : PySem.W.Frag} {Hf H : Hp} {vs : List V} {ds : List D} {X : Cx}
theorem itd_enumT {a : Addr} (h : SqT K Hf a vs) (r : RepL ca K Hf H Em vs ds) (hc : colds ds = true) : ItD ca K (IteT K a) Hf (enumD 0 ds) := by
  intro Hf' H' x1 x2 x5
  have x3 : Ex Hf H' := fun a o e => x2 a o (x1 a o e)
  refine ⟨fun i hi => ?_, ⟨vs, sqT_ex x3 h, by rw [r.length, enumD_length]; exact Nat.le_refl _⟩, fun i d x H2 e y => ?_⟩
  · have : i < vs.length := by rw [r.length]; rw [enumD_length] at hi; exact hi
    exact ⟨vs, vs[i], sqT_ex x3 h, by simp [this]⟩
  · obtain ⟨T, xv, rfl, hT, rfl, y⟩ := y
    obtain ⟨d', e1, rfl⟩ := enumD_get e
    obtain ⟨v', T', e2, r2, z⟩ := repL_at r e1
    have := y vs (sqT_ex x3 h)
    rw [e2] at this
    have e3 : v' = xv := Option.some.inj this
    subst e3
    have hT' : Hf' T = none := by
      cases q : Hf' T with
      | none => rfl
      | some o => rw [x2 T o q] at hT; cases hT
    refine ⟨rfl, upd Hf' T (.tup [.int (i : Nat), v']), fun b o e => upd_keep hT' b o e, fun b o e => upd_keep hT b o e, fun b o e => ?_, fun b o e => ?_, x5.upd2, ?_⟩
    · by_cases q : b = T
      · subst q; rw [upd_same] at e ⊢; exact e
      · rw [upd_ne q] at e ⊢; exact x2 b o e
    · by_cases q : b = T
      · subst q; exact .inr hT
      · rw [upd_ne q] at e; exact .inl e
    · refine .tup upd_same (.cons (S1 := Em) (S2 := Em) (by rw [Nat.zero_add]; exact .int) (.cons (S1 := Em) (S2 := Em) ((r2.mono z).keep (fun b o e => upd_keep hT' b o (x1 b o e)) fun _ q => q.elim) .nil (fun _ q => q) (fun _ q => q) fun _ q _ => q) (fun _ q => q) (fun _ q => q) fun _ q _ => q)
/-- enumerate(tuple) -/
def iEnT (m : ME) : Sl → Res (List D) := fun st => (m st).bind fun d st1 => match tupItems d with
  | some ds => if colds ds then .ok (enumD 0 ds) st1 else .fail
  | none => .fail
theorem ci_enumT {e : Expr} {m : ME} {p pos tpos : Pos} {elts : List Expr} {kk : Nat} (hg : Gl X "enumerate") (hm : X.mg "enumerate" = none) (he : CE ca X e m) (hs : starEach [e] X.env = [(false, eval e X.env)] := by rfl) :
    CI ca X (.Tuple elts kk tpos) (.Call (.Name "enumerate" p) [e] [] pos) (iEnumT X.K (tCons (We X e) tNil)) (iEnT m) := ⟨pi_enumT hg hm (pa_cons (we_pe X e) pa_nil hs) hs, fun Hf H R σ st Q p h => by
  refine he Hf H R σ st _ p ?_
  unfold iEnT at h
  cases r : m st with
  | fail => rw [r] at h; exact h
  | exc x st => rw [r] at h; exact h
  | ok d st1 =>
    rw [r] at h
    dsimp only [Res.bind] at h
    intro Hf1 H1 P R1 v t1 p1
    cases d with
    | tup ds =>
      dsimp only [tupItems] at h
      by_cases hc : colds ds = true
      · rw [if_pos hc] at h
        obtain ⟨Hf', a, vs, rfl, s1, r1, p2, t2⟩ := p1.walkedT
        exact ⟨a, vs, rfl, sqT_ex p2.w.ex s1, h Hf' H1 R1 _ (t1.trans t2) p2 (itd_enumT s1 r1 hc)⟩
      · rw [if_neg hc] at h; exact h.elim
    | _ => exact h.elim⟩
end
end DL

/-! DL18: a law's end. -/
namespace DL
open PySem L2 PyProof.Rows
end DL

/-! DL19: lists of whole numbers as data; loops read. -/
namespace DL
open PySem (Str)
open L2 (atI ixN)
def nums (l : List Int) : List D := l.map D.int
theorem nums_nil : nums [] = [] := rfl
theorem nums_cons (a : Int) (l : List Int) : nums (a :: l) = .int a :: nums l := rfl
theorem nums_len (l : List Int) : (nums l).length = l.length := by unfold nums; rw [List.length_map]
theorem nums_app (l k : List Int) : nums (l ++ k) = nums l ++ nums k := by unfold nums; rw [List.map_append]
theorem nums_colds (l : List Int) : colds (nums l) = true := by
  unfold colds nums
  rw [List.all_map]
  exact List.all_eq_true.mpr fun x _ => rfl
theorem nums_frz : ∀ l : List Int, frzL (nums l) = nums l
  | [] => rfl
  | a :: l => by rw [nums_cons, frzL, frz, nums_frz l]
theorem nums_as : ∀ l : List Int, asInts (nums l) = some l
  | [] => rfl
  | a :: l => by rw [nums_cons, asInts, nums_as l]; rfl
theorem nums_set (l : List Int) (i : Nat) (x : Int) : (nums l).set i (.int x) = nums (l.set i x) := by unfold nums; rw [List.map_set]
theorem scr_items (l : List Int) : l.map D.int = nums l := rfl
theorem ixN_nat {n : Nat} {i : Int} (h0 : 0 ≤ i) (h1 : i < n) : ixN n i = some i.toNat := by
  unfold ixN
  rw [if_pos h0, if_pos h1]
theorem nums_at {l : List Int} {i : Int} (h0 : 0 ≤ i) (h1 : i < l.length) : atI (nums l) i = some (.int (l.getD i.toNat 0)) := by
  unfold atI
  rw [nums_len, ixN_nat h0 h1, Option.bind_some]
  unfold nums
  have h2 : i.toNat < l.length := by omega
  rw [List.getElem?_map, List.getElem?_eq_getElem h2, Option.map_some, List.getD_eq_getElem?_getD, List.getElem?_eq_getElem h2, Option.getD_some]
theorem oIx_nums {o : Bool} {l : List Int} {i : Int} (h0 : 0 ≤ i) (h1 : i < l.length) : oIx [.lst o (nums l), .int i] = some (.val (.int (l.getD i.toNat 0))) := by
  simp [oIx, items, nums_at h0 h1, cold, hot]
theorem oIx_tup {l : List Int} {i : Int} (h0 : 0 ≤ i) (h1 : i < l.length) : oIx [.tup (nums l), .int i] = some (.val (.int (l.getD i.toNat 0))) := by
  simp [oIx, items, nums_at h0 h1, cold, hot]
theorem oIx_scr {l : List Int} {i : Int} (h0 : 0 ≤ i) (h1 : i < l.length) : oIx [.scr l, .int i] = some (.val (.int (l.getD i.toNat 0))) := by
  simp [oIx, items, scr_items, nums_at h0 h1, cold, hot]
/-- a for over data, with an invariant by the items that are behind -/
theorem forD_ok {g : MG} {body : MS} (I : Nat → Sl → Prop) : ∀ (ds : List D) (k : Nat) (st : Sl), I k st →
    (∀ (i : Nat) (d : D) (st : Sl), ds[i]? = some d → I (k + i) st → ∃ st1 st2, g d st = .ok () st1 ∧ (body st1 = .next st2 ∨ body st1 = .cont st2) ∧ I (k + i + 1) st2) → ∃ st', forD g body ds st = .next st' ∧ I (k + ds.length) st'
  | [], k, st, h, _ => ⟨st, rfl, h⟩
  | d :: ds, k, st, h, hs => by
    obtain ⟨st1, st2, e1, e2, h2⟩ := hs 0 d st rfl h
    obtain ⟨st', e3, h3⟩ := forD_ok I ds (k + 1) st2 h2 fun i d' st3 e h4 => by
      have := hs (i + 1) d' st3 (by simpa using e) (by rw [show k + (i + 1) = k + 1 + i by omega]; exact h4)
      rw [show k + (i + 1) + 1 = k + 1 + i + 1 by omega] at this
      exact this
    refine ⟨st', ?_, by rw [show k + (d :: ds).length = k + 1 + ds.length by rw [List.length_cons]; omega]; exact h3⟩
    rw [forD, e1]
    show (match body st1 with | .next st2 => forD g body ds st2 | .cont st2 => forD g body ds st2 | .brk st2 => .next st2 | r => r) = _
    rcases e2 with e2 | e2
    · rw [e2]; exact e3
    · rw [e2]; exact e3
/-- a comprehension's loop, with an invariant -/
theorem compD_ok {g : MG} {t : MT} {e : ME} {vs : List Nat} (I : Nat → Sl → List D → Prop) : ∀ (ds : List D) (k : Nat) (st : Sl) (acc : List D), I k st acc →
    (∀ (i : Nat) (d : D) (st : Sl) (acc : List D), ds[i]? = some d → I (k + i) st acc → ∃ st1 b st2, g d st = .ok () st1 ∧ t st1 = .ok b st2 ∧
      (b = false → I (k + i + 1) (wipeS st2 vs) acc) ∧ (b = true → acc.length < 16777216 ∧ ∃ y st3, e st2 = .ok y st3 ∧ I (k + i + 1) (wipeS st3 vs) (acc ++ [y]))) →
    ∃ acc' st', compD g t e vs ds st acc = .ok acc' st' ∧ I (k + ds.length) st' acc'
  | [], k, st, acc, h, _ => ⟨acc, st, rfl, h⟩
  | d :: ds, k, st, acc, h, hs => by
    obtain ⟨st1, b, st2, e1, e2, h2, h3⟩ := hs 0 d st acc rfl h
    have step : ∀ st' acc', I (k + 1) st' acc' → ∃ acc2 st2, compD g t e vs ds st' acc' = .ok acc2 st2 ∧ I (k + (d :: ds).length) st2 acc2 := fun st' acc' h' => by
      obtain ⟨a2, s2, q1, q2⟩ := compD_ok I ds (k + 1) st' acc' h' fun i d' st3 acc3 e' h4 => by
        have := hs (i + 1) d' st3 acc3 (by simpa using e') (by rw [show k + (i + 1) = k + 1 + i by omega]; exact h4)
        rw [show k + (i + 1) + 1 = k + 1 + i + 1 by omega] at this
        exact this
      exact ⟨a2, s2, q1, by rw [show k + (d :: ds).length = k + 1 + ds.length by rw [List.length_cons]; omega]; exact q2⟩
    rw [compD, e1]
    dsimp only [Res.noX, Res.bind]
    rw [e2]
    dsimp only
    cases b with
    | false =>
      rw [if_neg (by decide)]
      exact step _ _ (h2 rfl)
    | true =>
      obtain ⟨hl, y, st3, e3, h4⟩ := h3 rfl
      rw [if_pos rfl, e3]
      dsimp only
      rw [if_pos hl]
      exact step _ _ h4
theorem comp2D_ok {g g1 : MG} {src1 : Sl → Res (List D)} {t : MT} {e : ME} {vs vs1 : List Nat} (I : Nat → Sl → List D → Prop) : ∀ (ds : List D) (k : Nat) (st : Sl) (acc : List D), I k st acc →
    (∀ (i : Nat) (d : D) (st : Sl) (acc : List D), ds[i]? = some d → I (k + i) st acc → ∃ st1 ds1 st2 acc' st3, g d st = .ok () st1 ∧ src1 st1 = .ok ds1 st2 ∧ compD g1 t e vs1 ds1 (wipeS st2 vs1) acc = .ok acc' st3 ∧ I (k + i + 1) (wipeS st3 vs) acc') →
    ∃ acc' st', comp2D g src1 g1 t e vs vs1 ds st acc = .ok acc' st' ∧ I (k + ds.length) st' acc'
  | [], k, st, acc, h, _ => ⟨acc, st, rfl, h⟩
  | d :: ds, k, st, acc, h, hs => by
    obtain ⟨st1, ds1, st2, acc', st3, e1, e2, e3, h3⟩ := hs 0 d st acc rfl h
    obtain ⟨a2, s2, q1, q2⟩ := comp2D_ok I ds (k + 1) _ _ h3 fun i d' st3 acc3 e' h4 => by
      have := hs (i + 1) d' st3 acc3 (by simpa using e') (by rw [show k + (i + 1) = k + 1 + i by omega]; exact h4)
      rw [show k + (i + 1) + 1 = k + 1 + i + 1 by omega] at this
      exact this
    refine ⟨a2, s2, ?_, by rw [show k + (d :: ds).length = k + 1 + ds.length by rw [List.length_cons]; omega]; exact q2⟩
    rw [comp2D, e1]
    dsimp only [Res.noX, Res.bind]
    rw [e2]
    dsimp only
    rw [e3]
    exact q1
theorem rangeD_get {lo : Int} {n i : Nat} {d : D} (h : (rangeD lo n)[i]? = some d) : i < n ∧ d = .int (lo + i) := by
  unfold rangeD at h
  rw [List.getElem?_map] at h
  cases e : (List.range n)[i]? with
  | none =>
    rw [e] at h
    cases h
  | some j =>
    rw [e] at h
    have hi : i < n := by
      have := (List.getElem?_eq_some_iff.mp e).1
      simpa using this
    have : j = i := by
      have := (List.getElem?_eq_some_iff.mp e).2
      simp at this
      exact this.symm
    subst this
    exact ⟨hi, (Option.some.inj h).symm⟩
theorem rangeD_len (lo : Int) (n : Nat) : (rangeD lo n).length = n := by unfold rangeD; rw [List.length_map, List.length_range]
theorem nums_get {l : List Int} {i : Nat} {d : D} (h : (nums l)[i]? = some d) : ∃ x, l[i]? = some x ∧ d = .int x := by
  unfold nums at h
  rw [List.getElem?_map] at h
  cases e : l[i]? with
  | none =>
    rw [e] at h
    cases h
  | some x => rw [e] at h; exact ⟨x, rfl, (Option.some.inj h).symm⟩
theorem colds_range (lo : Int) (n : Nat) : colds (rangeD lo n) = true := by
  unfold colds rangeD
  rw [List.all_map]
  exact List.all_eq_true.mpr fun x _ => rfl
theorem nums_py : ∀ l : List Int, toPyL (nums l) = l.map PySem.PyData.int
  | [] => by rw [nums_nil, toPyL]; rfl
  | a :: l => by rw [nums_cons, toPyL, toPy, nums_py l]; rfl
theorem lay_nums : ∀ l : List Int, PySem.PyData.canLayAll0 (l.map PySem.PyData.int) = true
  | [] => by rw [List.map_nil, PySem.PyData.canLayAll0]
  | a :: l => by rw [List.map_cons, PySem.PyData.canLayAll0, lay_nums l, PySem.PyData.canLay0]; rfl
theorem depth_nums : ∀ l : List Int, PySem.PyData.depthAll (l.map PySem.PyData.int) = 0
  | [] => by rw [List.map_nil, PySem.PyData.depthAll]
  | a :: l => by rw [List.map_cons, PySem.PyData.depthAll, depth_nums l, PySem.PyData.depth]; rfl
theorem eqv_nums : ∀ l k : List Int, PySem.PyData.eqvAll (l.map PySem.PyData.int) (k.map PySem.PyData.int) = decide (l = k)
  | [], [] => by rw [List.map_nil, PySem.PyData.eqvAll]; rfl
  | [], b :: k => by rw [List.map_nil, List.map_cons, PySem.PyData.eqvAll]; rfl
  | a :: l, [] => by rw [List.map_nil, List.map_cons, PySem.PyData.eqvAll]; rfl
  | a :: l, b :: k => by
    rw [List.map_cons, List.map_cons, PySem.PyData.eqvAll, eqv_nums l k, PySem.PyData.eqv]
    by_cases h : a = b <;> by_cases h2 : l = k <;> simp [h, h2]
theorem sh_int (a : Int) : PySem.SeqAt.shaped (toPy (.int a)) = true := by
  rw [toPy]
  unfold PySem.SeqAt.shaped
  rw [PySem.PyData.canLay0, PySem.PyData.depth]
  rfl
theorem sh_bl (a : Bool) : PySem.SeqAt.shaped (toPy (.bl a)) = true := by
  rw [toPy]
  unfold PySem.SeqAt.shaped
  rw [PySem.PyData.canLay0, PySem.PyData.depth]
  rfl
theorem sh_lst (o : Bool) (l : List Int) : PySem.SeqAt.shaped (toPy (.lst o (nums l))) = true := by
  rw [toPy, nums_py]
  unfold PySem.SeqAt.shaped
  rw [PySem.PyData.canLay0, PySem.PyData.depth, lay_nums, depth_nums]
  rfl
theorem sh_tup (l : List Int) : PySem.SeqAt.shaped (toPy (.tup (nums l))) = true := by
  rw [toPy, nums_py]
  unfold PySem.SeqAt.shaped
  rw [PySem.PyData.canLay0, PySem.PyData.depth, lay_nums, depth_nums]
  rfl
theorem pEq_int (a b : Int) : pEq (.int a) (.int b) = some (.bl (decide (a = b))) := by
  unfold pEq
  rw [sh_int, sh_int, toPy, toPy, PySem.PyData.eqv]
  by_cases h : a = b <;> simp [h]
theorem pNe_int (a b : Int) : pNe (.int a) (.int b) = some (.bl (!decide (a = b))) := by
  unfold pNe
  rw [sh_int, sh_int, toPy, toPy, PySem.PyData.eqv]
  by_cases h : a = b <;> simp [h]
theorem pEq_bl (a b : Bool) : pEq (.bl a) (.bl b) = some (.bl (decide (a = b))) := by
  unfold pEq
  rw [sh_bl, sh_bl, toPy, toPy, PySem.PyData.eqv]
  by_cases h : a = b <;> simp [h]
theorem pNe_bl (a b : Bool) : pNe (.bl a) (.bl b) = some (.bl (!decide (a = b))) := by
  unfold pNe
  rw [sh_bl, sh_bl, toPy, toPy, PySem.PyData.eqv]
  by_cases h : a = b <;> simp [h]
theorem pEq_lst (o p : Bool) (l k : List Int) : pEq (.lst o (nums l)) (.lst p (nums k)) = some (.bl (decide (l = k))) := by
  unfold pEq
  rw [sh_lst, sh_lst, toPy, toPy, nums_py, nums_py, PySem.PyData.eqv, eqv_nums]
  rfl
theorem pNe_lst (o p : Bool) (l k : List Int) : pNe (.lst o (nums l)) (.lst p (nums k)) = some (.bl (!decide (l = k))) := by
  unfold pNe
  rw [sh_lst, sh_lst, toPy, toPy, nums_py, nums_py, PySem.PyData.eqv, eqv_nums]
  rfl
theorem pEq_tup (l k : List Int) : pEq (.tup (nums l)) (.tup (nums k)) = some (.bl (decide (l = k))) := by
  unfold pEq
  rw [sh_tup, sh_tup, toPy, toPy, nums_py, nums_py, PySem.PyData.eqv, eqv_nums]
  rfl
theorem pNe_tup (l k : List Int) : pNe (.tup (nums l)) (.tup (nums k)) = some (.bl (!decide (l = k))) := by
  unfold pNe
  rw [sh_tup, sh_tup, toPy, toPy, nums_py, nums_py, PySem.PyData.eqv, eqv_nums]
  rfl
theorem eLenI_v {C : Nat} {f : MF} {m : ME} {st st2 : Sl} {x : D} {n : Nat} {ps : Sl} (h : m st = .ok x st2) (hc : insC x = some C) (hf : f [x] = .ok (.int (n : Int)) ps) (hn : n < 1000000000) : eLenI C f (.v m) st = .ok (.int (n : Int)) st2 := by
  unfold eLenI
  rw [opds, h]
  dsimp only [Res.bind, opds, Option.map]
  rw [if_pos hc, hf]
  dsimp only
  rw [if_pos ⟨by omega, by omega⟩]
theorem eOp2_v {f : List D → Option Out} {m1 m2 : ME} {st st1 st2 : Sl} {a b : D} {o : Out} (h1 : m1 st = .ok a st1) (h2 : m2 st1 = .ok b st2) (hf : f [a, b] = some o) : eOp f [.v m1, .v m2] st = .ok o.d st2 := by
  unfold eOp
  rw [opds, h1]
  dsimp only [Res.bind]
  rw [opds, h2]
  dsimp only [Res.bind, opds, Option.map, Option.bind]
  rw [hf]
theorem fn_ret {n w : Nat} {L : List Nat} {body : MS} {ds : List D} {d : D} {st : Sl} (hl : ds.length = n) (h : body (ds.map some ++ List.replicate (w - n) none) = .ret d st) : fn n w L body ds = .ok d (keepL L n st) := by
  unfold fn
  rw [if_pos hl, h]
theorem sRet_ok {m : ME} {st st1 : Sl} {d : D} (h : m st = .ok d st1) : sRet m st = .ret d st1 := by
  unfold sRet
  rw [h]
  rfl
theorem sSeq_next {a b : MS} {st st1 : Sl} {r : SR} (h : a st = .next st1) (h2 : b st1 = r) : sSeq a b st = r := by
  unfold sSeq
  rw [h]
  exact h2
theorem sAsg_ok {m : ME} {g : MG} {st st1 st2 : Sl} {d : D} (h : m st = .ok d st1) (h2 : g d st1 = .ok () st2) : sAsg m g st = .next st2 := by
  unfold sAsg
  rw [h]
  show (g d st1).toN _ = _
  rw [h2]
  rfl
theorem sIf_ok {c : MT} {a b : MS} {st st1 : Sl} {k : Bool} (h : c st = .ok k st1) : sIf c a b st = if k then a st1 else b st1 := by
  unfold sIf
  rw [h]
  rfl
theorem tE_ok {m : ME} {st st1 : Sl} {k : Bool} (h : m st = .ok (.bl k) st1) : tE m st = .ok k st1 := by
  unfold tE
  rw [h]
  rfl
theorem tOr_ok {a b : MT} {st st1 st2 : Sl} {k : Bool} (h : a st = .ok false st1) (h2 : b st1 = .ok k st2) : tOrM a b st = .ok k st2 := by
  unfold tOrM
  rw [h]
  exact h2
/-- a lent slot, one argument behind it -/
theorem eCallL1_v {f : MF} {i : Nat} {m : ME} {st st1 : Sl} {x a d : D} {ps : Sl} (h0 : (getS st i).isSome = true) (h1 : m st = .ok a st1) (h2 : getS st1 i = some x) (hx : hot x = true) (hf : f [x, a] = .ok d ps) : eCallL f aNil i (aCons m aNil) st = .ok d (st1.set i (getS ps 0)) := by
  simp only [eCallL, aCons, aNil, Res.bind, h0, h1, h2, hx, if_true, List.nil_append, List.length_nil, hf]
theorem eEqI_v {neg : Bool} {C : Nat} {f : MF} {m1 m2 : ME} {st st1 st2 : Sl} {a b : D} {k : Bool} {ps : Sl} (h1 : m1 st = .ok a st1) (h2 : m2 st1 = .ok b st2) (ha : insC a = some C) (hb : insC b = some C) (hf : f [a, b] = .ok (.bl k) ps) : eEqI neg C f (.v m1) (.v m2) st = .ok (.bl (if neg then !k else k)) st2 := by
  unfold eEqI
  rw [opds, h1]
  dsimp only [Res.bind]
  rw [opds, h2]
  dsimp only [Res.bind, opds, Option.map]
  rw [if_pos ⟨ha, hb⟩, hf]
theorem eFz_v {m : ME} {st st1 : Sl} {a : D} (h : m st = .ok a st1) : eFz m st = .ok (frz a) st1 := by
  unfold eFz
  rw [h]
  rfl
theorem eOp1_v {f : List D → Option Out} {m1 : ME} {st st1 : Sl} {a : D} {o : Out} (h1 : m1 st = .ok a st1) (hf : f [a] = some o) : eOp f [.v m1] st = .ok o.d st1 := by
  unfold eOp
  rw [opds, h1]
  dsimp only [Res.bind, opds, Option.map, Option.bind]
  rw [hf]
theorem eOpvs_v {f : List D → Option Out} {m1 : ME} {i : Nat} {st st1 : Sl} {a b : D} {o : Out} (h1 : m1 st = .ok a st1) (h2 : getS st1 i = some b) (hf : f [a, b] = some o) : eOp f [.v m1, .s i] st = .ok o.d st1 := by
  unfold eOp
  rw [opds, h1]
  dsimp only [Res.bind]
  rw [opds, if_pos (by rw [h2]; rfl)]
  dsimp only [opds, Option.map, Option.bind]
  rw [h2]
  dsimp only
  rw [hf]
theorem iR1_v {m : ME} {st st1 : Sl} {n : Nat} {j : Int} (hj : j = (n : Int)) (h : m st = .ok (.int j) st1) (hs : small62 j = true) : iR1 m st = .ok (rangeD 0 n) st1 := by
  have e : j.toNat = n := by omega
  simp only [iR1, h, Res.bind, hs, if_true, e]
theorem eN_v {i : Nat} {st : Sl} {d : D} (h : getS st i = some d) (hc : hot d = false) : eN i st = .ok d st := by
  unfold eN
  rw [h]
  dsimp only
  rw [hc]
  rfl
theorem eNf_v {i : Nat} {st : Sl} {d : D} (h : getS st i = some d) (hc : hot d = true) : eN i st = .ok (frz d) (st.set i (some (frz d))) := by
  unfold eN
  rw [h]
  dsimp only
  rw [hc]
  rfl
theorem eOp1_s {f : List D → Option Out} {i : Nat} {st : Sl} {a : D} {o : Out} (h1 : getS st i = some a) (hf : f [a] = some o) : eOp f [.s i] st = .ok o.d st := by
  unfold eOp
  rw [opds, if_pos (by rw [h1]; rfl)]
  dsimp only [opds, Option.map, Option.bind]
  rw [h1]
  dsimp only
  rw [hf]
theorem oLen_l {o : Bool} {l : List Int} : oLen [.lst o (nums l)] = some (.val (.int (l.length : Nat))) := by
  show some (Out.val (.int (nums l).length)) = _
  rw [nums_len]
theorem oMul_v {i j : Int} (h : -(2 ^ 64) < j ∧ j < 2 ^ 64) : oMul [.int i, .int j] = some (.val (.int (i * j))) := by
  show (if (-(2 ^ 64) < i ∧ i < 2 ^ 64) ∨ (-(2 ^ 64) < j ∧ j < 2 ^ 64) then some (Out.val (.int (i * j))) else none) = _
  rw [if_pos (.inr h)]
theorem oMod_v {i j : Int} (h : 0 < j) : oMod [.int i, .int j] = some (.val (.int (i % j))) := by
  show (if 0 < j then some (Out.val (.int (i % j))) else none) = _
  rw [if_pos h]
theorem oDiv_v {i j : Int} (h : 0 < j) (h2 : j < 9000) : oDiv [.int i, .int j] = some (.val (.int (i / j))) := by
  show (if 0 < j ∧ j.natAbs.log2 < 9000 then some (Out.val (.int (i / j))) else none) = _
  rw [if_pos ⟨h, by
    have := Nat.log2_le_self j.natAbs
    omega⟩]
theorem oPow_v {i j : Int} (h : 0 ≤ j ∧ j ≤ 1000000) (h2 : i.natAbs < 2 ^ 64) : oPow [.int i, .int j] = some (.val (.int (i ^ j.toNat))) := by
  show (if 0 ≤ j ∧ j ≤ 1000000 ∧ i.natAbs < 2 ^ 64 then some (Out.val (.int (i ^ j.toNat))) else none) = _
  rw [if_pos ⟨h.1, h.2, h2⟩]
theorem ix2_0 {o : Bool} {a b : Int} : oIx [.lst o [.int a, .int b], .int 0] = some (.val (.int a)) := oIx_nums (l := [a, b]) (i := 0) (by decide) (by show (0 : Int) < ((2 : Nat) : Int); decide)
theorem ix2_1 {o : Bool} {a b : Int} : oIx [.lst o [.int a, .int b], .int 1] = some (.val (.int b)) := oIx_nums (l := [a, b]) (i := 1) (by decide) (by show (1 : Int) < ((2 : Nat) : Int); decide)
theorem ixN2_0 : L2.ixN 2 0 = some 0 := rfl
theorem ixN2_1 : L2.ixN 2 1 = some 1 := rfl
theorem oMul_l {i j : Int} (h : -(2 ^ 64) < i ∧ i < 2 ^ 64) : oMul [.int i, .int j] = some (.val (.int (i * j))) := by
  show (if (-(2 ^ 64) < i ∧ i < 2 ^ 64) ∨ (-(2 ^ 64) < j ∧ j < 2 ^ 64) then some (Out.val (.int (i * j))) else none) = _
  rw [if_pos (.inl h)]
theorem cut_nums (l : List Int) (lo hi : Option Int) : ∃ k, cutD (nums l) lo hi = nums k ∧ k.length ≤ l.length := by
  refine ⟨(l.drop (HT.sIx l.length 0 lo)).take (HT.sIx l.length l.length hi - HT.sIx l.length 0 lo), ?_, ?_⟩
  · unfold cutD nums
    rw [List.length_map, List.map_take, List.map_drop]
  · rw [List.length_take, List.length_drop]
    omega
theorem oSl01_scr (l : List Int) (j : Int) (hl : l.length ≤ 63) : ∃ k, oSl01 [.scr l, .int j] = some (.newL (nums k)) := by
  obtain ⟨k, e, h⟩ := cut_nums l none (some j)
  refine ⟨k, ?_⟩
  show newLc (cutD (nums l) none (some j)) = _
  rw [e]
  unfold newLc
  rw [nums_colds, nums_len, decide_eq_true (by omega : k.length ≤ 16777216)]
  rfl
theorem oSum_nums (o : Bool) (k : List Int) : oSum [.lst o (nums k)] = some (.val (.int k.sum)) := by
  unfold oSum lstItems
  dsimp only [Option.bind]
  rw [nums_as]
  rfl
theorem oLen_scr (l : List Int) : oLen [.scr l] = some (.val (.int (l.length : Nat))) := by
  show some (Out.val (.int (l.map D.int).length)) = _
  rw [List.length_map]
theorem eLc_v {src : Sl → Res (List D)} {g : MG} {t : MT} {e : ME} {vs : List Nat} {st st1 st2 : Sl} {ds acc : List D} (h1 : src st = .ok ds st1) (h2 : compD g t e vs ds (wipeS st1 vs) [] = .ok acc st2) : eLc src g t e vs st = .ok (.lst true acc) st2 := by
  unfold eLc
  rw [h1]
  dsimp only [Res.bind]
  rw [h2]
theorem eOpsv_v {f : List D → Option Out} {m1 : ME} {i : Nat} {st st1 : Sl} {a b : D} {o : Out} (h0 : (getS st i).isSome = true) (h1 : m1 st = .ok b st1) (h2 : getS st1 i = some a) (hf : f [a, b] = some o) : eOp f [.s i, .v m1] st = .ok o.d st1 := by
  unfold eOp
  rw [opds, if_pos h0, opds, h1]
  dsimp only [Res.bind, opds, Option.map, Option.bind]
  rw [h2]
  dsimp only
  rw [hf]
theorem kb_NoneType_int : L2.kitB "NoneType" "int" = some false := by kernel_rfl
theorem kb_NoneType_bool : L2.kitB "NoneType" "bool" = some false := by kernel_rfl
theorem kb_NoneType_list : L2.kitB "NoneType" "list" = some false := by kernel_rfl
theorem kb_NoneType_tuple : L2.kitB "NoneType" "tuple" = some false := by kernel_rfl
theorem kb_NoneType_str : L2.kitB "NoneType" "str" = some false := by kernel_rfl
theorem kb_bool_int : L2.kitB "bool" "int" = some true := by kernel_rfl
theorem kb_bool_bool : L2.kitB "bool" "bool" = some true := by kernel_rfl
theorem kb_bool_list : L2.kitB "bool" "list" = some false := by kernel_rfl
theorem kb_bool_tuple : L2.kitB "bool" "tuple" = some false := by kernel_rfl
theorem kb_bool_str : L2.kitB "bool" "str" = some false := by kernel_rfl
theorem kb_int_int : L2.kitB "int" "int" = some true := by kernel_rfl
theorem kb_int_bool : L2.kitB "int" "bool" = some false := by kernel_rfl
theorem kb_int_list : L2.kitB "int" "list" = some false := by kernel_rfl
theorem kb_int_tuple : L2.kitB "int" "tuple" = some false := by kernel_rfl
theorem kb_int_str : L2.kitB "int" "str" = some false := by kernel_rfl
theorem kb_str_int : L2.kitB "str" "int" = some false := by kernel_rfl
theorem kb_str_bool : L2.kitB "str" "bool" = some false := by kernel_rfl
theorem kb_str_list : L2.kitB "str" "list" = some false := by kernel_rfl
theorem kb_str_tuple : L2.kitB "str" "tuple" = some false := by kernel_rfl
theorem kb_str_str : L2.kitB "str" "str" = some true := by kernel_rfl
theorem kb_list_int : L2.kitB "list" "int" = some false := by kernel_rfl
theorem kb_list_bool : L2.kitB "list" "bool" = some false := by kernel_rfl
theorem kb_list_list : L2.kitB "list" "list" = some true := by kernel_rfl
theorem kb_list_tuple : L2.kitB "list" "tuple" = some false := by kernel_rfl
theorem kb_list_str : L2.kitB "list" "str" = some false := by kernel_rfl
theorem kb_tuple_int : L2.kitB "tuple" "int" = some false := by kernel_rfl
theorem kb_tuple_bool : L2.kitB "tuple" "bool" = some false := by kernel_rfl
theorem kb_tuple_list : L2.kitB "tuple" "list" = some false := by kernel_rfl
theorem kb_tuple_tuple : L2.kitB "tuple" "tuple" = some true := by kernel_rfl
theorem kb_tuple_str : L2.kitB "tuple" "str" = some false := by kernel_rfl
theorem kb_dict_int : L2.kitB "dict" "int" = some false := by kernel_rfl
theorem kb_dict_bool : L2.kitB "dict" "bool" = some false := by kernel_rfl
theorem kb_dict_list : L2.kitB "dict" "list" = some false := by kernel_rfl
theorem kb_dict_tuple : L2.kitB "dict" "tuple" = some false := by kernel_rfl
theorem kb_dict_str : L2.kitB "dict" "str" = some false := by kernel_rfl
end DL

/-! DL20: the plain law of comparators between neighbours: exchanges, active steps, inversions. -/
namespace Nw
def hit (l : List Int) (s : Int) : Bool := decide (l.getD s.toNat 0 < l.getD (s - 1).toNat 0)
def xch (l : List Int) (s : Int) : List Int := (l.set (s - 1).toNat (l.getD s.toNat 0)).set s.toNat (l.getD (s - 1).toNat 0)
def stp (l : List Int) (s : Int) : List Int := if hit l s then xch l s else l
def runL (ss : List Int) (l : List Int) : List Int := ss.foldl stp l
def okS (w : Int) (ss : List Int) : Prop := ∀ s ∈ ss, 1 ≤ s ∧ s ≤ w - 1
def actS : List Int → List Int → List Int
  | [], _ => []
  | s :: ss, l => if hit l s then s :: actS ss (stp l s) else actS ss (stp l s)
def actI : Nat → List Int → List Int → List Int
  | _, [], _ => []
  | k, s :: ss, l => if hit l s then (k : Int) :: actI (k + 1) ss (stp l s) else actI (k + 1) ss (stp l s)
theorem stp_len (l : List Int) (s : Int) : (stp l s).length = l.length := by
  unfold stp xch
  split <;> simp
theorem runL_len : ∀ (ss : List Int) (l : List Int), (runL ss l).length = l.length
  | [], _ => rfl
  | s :: ss, l => by
    show (runL ss (stp l s)).length = _
    rw [runL_len ss, stp_len]
theorem runL_snoc (ss : List Int) (s : Int) (l : List Int) : runL (ss ++ [s]) l = stp (runL ss l) s := by
  unfold runL
  rw [List.foldl_append]
  rfl
theorem actS_length_le : ∀ (ss l : List Int), (actS ss l).length ≤ ss.length
  | [], _ => Nat.le_refl _
  | s :: ss, l => by
    rw [actS]
    have := actS_length_le ss (stp l s)
    split <;> simp <;> omega
theorem actI_length : ∀ (k : Nat) (ss l : List Int), (actI k ss l).length = (actS ss l).length
  | _, [], _ => rfl
  | k, s :: ss, l => by
    rw [actI, actS]
    have := actI_length (k + 1) ss (stp l s)
    split <;> simp [this]
theorem actI_app : ∀ (k : Nat) (a b l : List Int), actI k (a ++ b) l = actI k a l ++ actI (k + a.length) b (runL a l)
  | k, [], b, l => rfl
  | k, s :: a, b, l => by
    rw [List.cons_append, actI, actI, List.length_cons]
    have := actI_app (k + 1) a b (stp l s)
    rw [show k + 1 + a.length = k + (a.length + 1) by omega] at this
    split
    · rw [this]; rfl
    · rw [this]; rfl
/-! ### inversions -/
def cnt (x : Int) (p : List Int) : Nat := (p.filter fun y => decide (x < y)).length
def invP : List Int → List Int → Nat
  | _, [] => 0
  | p, x :: r => cnt x p + invP (p ++ [x]) r
def inv (l : List Int) : Nat := invP [] l
theorem cnt_app (x : Int) (p q : List Int) : cnt x (p ++ q) = cnt x p + cnt x q := by unfold cnt; rw [List.filter_append, List.length_append]
theorem cnt_one (x y : Int) : cnt x [y] = if x < y then 1 else 0 := by
  unfold cnt
  by_cases h : x < y <;> simp [h]
theorem invP_app : ∀ (a p r : List Int), invP p (a ++ r) = invP p a + invP (p ++ a) r
  | [], p, r => by simp [invP]
  | x :: a, p, r => by
    rw [List.cons_append, invP, invP, invP_app a (p ++ [x]) r]
    simp only [List.append_assoc, List.singleton_append]
    omega
theorem xch_split {p r : List Int} {a b : Int} {s : Int} (h1 : 1 ≤ s) (hp : (p.length : Int) = s - 1) : xch (p ++ a :: b :: r) s = p ++ b :: a :: r := by
  have e1 : (s - 1).toNat = p.length := by omega
  have e2 : s.toNat = p.length + 1 := by omega
  unfold xch
  rw [e1, e2]
  have g1 : (p ++ a :: b :: r).getD p.length 0 = a := by
    rw [List.getD_eq_getElem?_getD, List.getElem?_append_right (Nat.le_refl _), Nat.sub_self]; rfl
  have g2 : (p ++ a :: b :: r).getD (p.length + 1) 0 = b := by
    rw [List.getD_eq_getElem?_getD, List.getElem?_append_right (by omega), show p.length + 1 - p.length = 1 by omega]; rfl
  rw [g1, g2, List.set_append_right _ _ (Nat.le_refl _), Nat.sub_self, List.set_cons_zero, List.set_append_right _ _ (by omega), show p.length + 1 - p.length = 1 by omega]
  rfl
def desc : Nat → List Int
  | 0 => []
  | n + 1 => ((n + 1 : Nat) : Int) :: desc n
theorem desc_len : ∀ n, (desc n).length = n
  | 0 => rfl
  | n + 1 => by rw [desc, List.length_cons, desc_len n]
theorem cnt_all {x : Int} : ∀ {p : List Int}, (∀ y ∈ p, x < y) → cnt x p = p.length
  | [], _ => rfl
  | a :: p, h => by
    have := cnt_all (x := x) (p := p) fun y hy => h y (List.mem_cons_of_mem _ hy)
    unfold cnt at this ⊢
    rw [List.filter_cons, if_pos (decide_eq_true (h a List.mem_cons_self)), List.length_cons, List.length_cons, this]
end Nw

/-! DL21: the relations of the steps; every network is as a normal one. -/
namespace Nw
/-- the step between the places i and i + 1 -/
def sN (l : List Int) (i : Nat) : List Int := stp l ((i : Int) + 1)
theorem sN_len (l : List Int) (i : Nat) : (sN l i).length = l.length := stp_len _ _
theorem sN_get {l : List Int} {i : Nat} (h : i + 1 < l.length) (k : Nat) : (sN l i).getD k 0 = if k = i then min (l.getD i 0) (l.getD (i + 1) 0) else if k = i + 1 then max (l.getD i 0) (l.getD (i + 1) 0) else l.getD k 0 := by
  have e1 : ((i : Int) + 1).toNat = i + 1 := by omega
  have e2 : ((i : Int) + 1 - 1).toNat = i := by omega
  unfold sN stp hit xch
  rw [e1, e2]
  by_cases hh : l.getD (i + 1) 0 < l.getD i 0
  · rw [if_pos (decide_eq_true hh)]
    simp only [List.getD_eq_getElem?_getD, List.getElem?_set, List.length_set]
    simp only [List.getD_eq_getElem?_getD] at hh
    by_cases k1 : k = i
    · subst k1
      rw [if_neg (by omega), if_pos rfl, if_pos (by omega), if_pos rfl]
      simp only [Option.getD_some]
      omega
    · by_cases k2 : k = i + 1
      · subst k2
        rw [if_pos rfl, if_pos (by omega), if_neg (by omega), if_pos rfl]
        simp only [Option.getD_some]
        omega
      · rw [if_neg (by omega), if_neg (by omega), if_neg k1, if_neg k2]
  · rw [if_neg (by simpa using hh)]
    by_cases k1 : k = i
    · subst k1
      rw [if_pos rfl]
      omega
    · rw [if_neg k1]
      by_cases k2 : k = i + 1
      · subst k2
        rw [if_pos rfl]
        omega
      · rw [if_neg k2]
theorem ext_get {l m : List Int} (hl : l.length = m.length) (h : ∀ k, l.getD k 0 = m.getD k 0) : l = m := by
  apply List.ext_getElem hl
  intro k h1 h2
  have := h k
  rw [List.getD_eq_getElem?_getD, List.getD_eq_getElem?_getD, List.getElem?_eq_getElem h1, List.getElem?_eq_getElem h2] at this
  exact this
theorem sN_idem {l : List Int} {i : Nat} (h : i + 1 < l.length) : sN (sN l i) i = sN l i := by
  apply ext_get (by rw [sN_len])
  intro k
  rw [sN_get (by rw [sN_len]; exact h)]
  simp only [sN_get h, if_true]
  by_cases k1 : k = i <;> by_cases k2 : k = i + 1 <;> simp [k1, k2] <;> omega
theorem sN_comm {l : List Int} {i j : Nat} (hi : i + 1 < l.length) (hj : j + 1 < l.length) (hij : i + 2 ≤ j) : sN (sN l i) j = sN (sN l j) i := by
  apply ext_get (by rw [sN_len, sN_len, sN_len, sN_len])
  intro k
  rw [sN_get (l := sN l i) (i := j) (by rw [sN_len]; exact hj), sN_get (l := sN l j) (i := i) (by rw [sN_len]; exact hi)]
  simp only [sN_get hi, sN_get hj]
  rw [if_neg (show ¬ j = i by omega), if_neg (show ¬ j = i + 1 by omega), if_neg (show ¬ j + 1 = i by omega), if_neg (show ¬ j + 1 = i + 1 by omega), if_neg (show ¬ i = j by omega), if_neg (show ¬ i = j + 1 by omega), if_neg (show ¬ i + 1 = j by omega), if_neg (show ¬ i + 1 = j + 1 by omega)]
  by_cases k1 : k = i
  · rw [if_neg (by omega), if_neg (by omega), if_pos k1, if_pos k1]
  · by_cases k2 : k = i + 1
    · rw [if_neg (by omega), if_neg (by omega), if_neg k1, if_pos k2, if_neg k1, if_pos k2]
    · rw [if_neg k1, if_neg k2, if_neg k1, if_neg k2]
theorem sN_braid {l : List Int} {i : Nat} (h : i + 2 < l.length) : sN (sN (sN l (i + 1)) i) (i + 1) = sN (sN (sN l i) (i + 1)) i := by
  apply ext_get (by simp only [sN_len])
  intro k
  have h1 : i + 1 < l.length := by omega
  have g1 : ∀ k, (sN l (i + 1)).getD k 0 = if k = i + 1 then min (l.getD (i + 1) 0) (l.getD (i + 1 + 1) 0) else if k = i + 1 + 1 then max (l.getD (i + 1) 0) (l.getD (i + 1 + 1) 0) else l.getD k 0 := fun k => sN_get h k
  have g2 : ∀ k, (sN l i).getD k 0 = if k = i then min (l.getD i 0) (l.getD (i + 1) 0) else if k = i + 1 then max (l.getD i 0) (l.getD (i + 1) 0) else l.getD k 0 := fun k => sN_get h1 k
  have g3 : ∀ k, (sN (sN l (i + 1)) i).getD k 0 = if k = i then min ((sN l (i + 1)).getD i 0) ((sN l (i + 1)).getD (i + 1) 0) else if k = i + 1 then max ((sN l (i + 1)).getD i 0) ((sN l (i + 1)).getD (i + 1) 0) else (sN l (i + 1)).getD k 0 := fun k => sN_get (by rw [sN_len]; exact h1) k
  have g4 : ∀ k, (sN (sN l i) (i + 1)).getD k 0 = if k = i + 1 then min ((sN l i).getD (i + 1) 0) ((sN l i).getD (i + 1 + 1) 0) else if k = i + 1 + 1 then max ((sN l i).getD (i + 1) 0) ((sN l i).getD (i + 1 + 1) 0) else (sN l i).getD k 0 := fun k => sN_get (by rw [sN_len]; exact h) k
  rw [sN_get (l := sN (sN l (i + 1)) i) (i := i + 1) (by rw [sN_len, sN_len]; exact h), sN_get (l := sN (sN l i) (i + 1)) (i := i) (by rw [sN_len, sN_len]; exact h1)]
  simp only [g3, g4, g1, g2]
  generalize l.getD i 0 = a
  generalize l.getD (i + 1) 0 = b
  generalize l.getD (i + 1 + 1) 0 = c
  generalize l.getD k 0 = d
  by_cases k1 : k = i
  · subst k1
    simp
    omega
  · by_cases k2 : k = i + 1
    · subst k2
      simp
      omega
    · by_cases k3 : k = i + 1 + 1
      · subst k3
        simp
        omega
      · simp [k1, k2, k3]
/-! ### words of steps, by the left place -/
def runN (w : List Nat) (l : List Int) : List Int := w.foldl sN l
theorem runN_app (a b : List Nat) (l : List Int) : runN (a ++ b) l = runN b (runN a l) := by unfold runN; rw [List.foldl_append]
theorem runN_cons (i : Nat) (a : List Nat) (l : List Int) : runN (i :: a) l = runN a (sN l i) := rfl
theorem runN_one (i : Nat) (l : List Int) : runN [i] l = sN l i := rfl
theorem runN_len : ∀ (w : List Nat) (l : List Int), (runN w l).length = l.length
  | [], _ => rfl
  | i :: w, l => by rw [runN_cons, runN_len w, sN_len]
theorem sN_comm2 {l : List Int} {i j : Nat} (hi : i + 1 < l.length) (hj : j + 1 < l.length) (h : i + 2 ≤ j ∨ j + 2 ≤ i) : sN (sN l i) j = sN (sN l j) i := by
  rcases h with h | h
  · exact sN_comm hi hj h
  · exact (sN_comm hj hi h).symm
theorem comm_past {i : Nat} : ∀ (ds : List Nat) (l : List Int), i + 1 < l.length → (∀ d ∈ ds, d + 1 < l.length ∧ (i + 2 ≤ d ∨ d + 2 ≤ i)) → runN (ds ++ [i]) l = runN (i :: ds) l
  | [], _, _, _ => rfl
  | d :: ds, l, hi, h => by
    obtain ⟨hd, hc⟩ := h d List.mem_cons_self
    have ih := comm_past ds (sN l d) (by rw [sN_len]; exact hi) fun e he => by
      rw [sN_len]
      exact h e (List.mem_cons_of_mem _ he)
    rw [List.cons_append, runN_cons, ih, runN_cons, runN_cons, runN_cons, sN_comm2 hd hi (hc.symm)]
/-- a descending block: m, m - 1, .. (c of them) -/
def dn : Nat → Nat → List Nat
  | _, 0 => []
  | m, c + 1 => m :: dn (m - 1) c
theorem dn_mem : ∀ (c m : Nat), c ≤ m + 1 → ∀ d ∈ dn m c, d ≤ m ∧ m < d + c
  | 0, _, _, d, h => by cases h
  | c + 1, m, hc, d, h => by
    rcases List.mem_cons.mp h with h | h
    · subst h
      omega
    · cases m with
      | zero =>
        have : c = 0 := by omega
        subst this
        cases h
      | succ m =>
        have := dn_mem c m (by omega) d h
        omega
theorem dn_snoc : ∀ (c m : Nat), c ≤ m → dn m (c + 1) = dn m c ++ [m - c]
  | 0, m, _ => rfl
  | c + 1, m, h => by
    rw [dn, dn_snoc c (m - 1) (by omega), dn, List.cons_append, show m - 1 - c = m - (c + 1) by omega]
/-- a step that lies within a block goes through it, one place lower -/
theorem push : ∀ (c m i : Nat) (l : List Int), c ≤ m + 1 → m + 1 < i + c → i ≤ m → m + 1 < l.length → runN (dn m c ++ [i]) l = runN ((i - 1) :: dn m c) l
  | 0, m, i, l, _, h1, h2, _ => by omega
  | c + 1, m, i, l, hc, h1, h2, hl => by
    by_cases him : i = m
    · subst him
      cases c with
      | zero => omega
      | succ c =>
        obtain ⟨k, rfl⟩ : ∃ k, i = k + 1 := ⟨i - 1, by omega⟩
        have far := comm_past (i := k + 1) (dn (k - 1) c) (sN (sN l (k + 1)) k) (by rw [sN_len, sN_len]; omega) fun d hd => by
          rw [sN_len, sN_len]
          cases k with
          | zero =>
            have : c = 0 := by omega
            subst this
            cases hd
          | succ k =>
            have := dn_mem c k (by omega) d hd
            omega
        show runN (dn (k - 1) c ++ [k + 1]) (sN (sN l (k + 1)) k) = runN (dn (k - 1) c) (sN (sN (sN l k) (k + 1)) k)
        rw [far, runN_cons, sN_braid (by omega)]
    · have ih := push c (m - 1) i (sN l m) (by omega) (by omega) (by omega) (by rw [sN_len]; omega)
      show runN (dn (m - 1) c ++ [i]) (sN l m) = runN (dn (m - 1) c) (sN (sN l (i - 1)) m)
      rw [ih, runN_cons, sN_comm2 (l := l) (i := m) (j := i - 1) hl (by omega) (.inr (by omega))]
/-! ### normal words by codes; a code is given from its end -/
def nfR : List Nat → List Nat
  | [] => []
  | c :: r => nfR r ++ dn r.length c
def okC : List Nat → Prop
  | [] => True
  | c :: r => c ≤ r.length + 1 ∧ okC r
/-- a step behind a normal word: a normal word again -/
theorem absorb : ∀ (cs : List Nat) (i : Nat), okC cs → i < cs.length → ∃ cs', cs'.length = cs.length ∧ okC cs' ∧ ∀ l : List Int, cs.length < l.length → runN (nfR cs ++ [i]) l = runN (nfR cs') l
  | [], i, _, h => by cases h
  | c :: r, i, ⟨h1, h2⟩, hi => by
    rw [List.length_cons] at hi
    -- a step for what lies before
    have before : ∀ j, j < r.length → (∀ l : List Int, r.length + 1 < l.length → runN (dn r.length c ++ [i]) l = runN (j :: dn r.length c) l) →
        ∃ cs', cs'.length = (c :: r).length ∧ okC cs' ∧ ∀ l : List Int, (c :: r).length < l.length → runN (nfR (c :: r) ++ [i]) l = runN (nfR cs') l := fun j hj hp => by
      obtain ⟨r', e1, e2, e3⟩ := absorb r j h2 hj
      refine ⟨c :: r', by rw [List.length_cons, e1, List.length_cons], ⟨by rw [e1]; exact h1, e2⟩, fun l hl => ?_⟩
      rw [List.length_cons] at hl
      show runN (nfR r ++ dn r.length c ++ [i]) l = runN (nfR r' ++ dn r'.length c) l
      rw [List.append_assoc, runN_app, hp _ (by rw [runN_len]; exact hl), runN_app, e1, ← e3 l (by omega), runN_app]
      rfl
    cases c with
    | zero =>
      by_cases him : i = r.length
      · subst him
        refine ⟨1 :: r, rfl, ⟨by omega, h2⟩, fun l _ => ?_⟩
        show runN (nfR r ++ [] ++ [r.length]) l = runN (nfR r ++ [r.length]) l
        rw [List.append_nil]
      · exact before i (by omega) fun l _ => rfl
    | succ c =>
      by_cases q1 : i + c + 1 = r.length
      · -- it makes the block longer
        refine ⟨(c + 2) :: r, rfl, ⟨by omega, h2⟩, fun l _ => ?_⟩
        show runN (nfR r ++ dn r.length (c + 1) ++ [i]) l = runN (nfR r ++ dn r.length (c + 1 + 1)) l
        rw [dn_snoc (c + 1) r.length (by omega), List.append_assoc, show r.length - (c + 1) = i by omega]
      · by_cases q2 : i + c = r.length
        · -- it is the block's last step
          refine ⟨(c + 1) :: r, rfl, ⟨h1, h2⟩, fun l hl => ?_⟩
          rw [List.length_cons] at hl
          show runN (nfR r ++ dn r.length (c + 1) ++ [i]) l = runN (nfR r ++ dn r.length (c + 1)) l
          rw [dn_snoc c r.length (by omega), show r.length - c = i by omega]
          rw [runN_app, ← List.append_assoc, runN_app, runN_one, runN_one, sN_idem (by rw [runN_len]; omega)]
        · by_cases q3 : i + c + 1 < r.length
          · refine before i (by omega) fun l hl => comm_past _ l (by omega) fun d hd => ?_
            have := dn_mem (c + 1) r.length h1 d hd
            omega
          · exact before (i - 1) (by omega) fun l hl => push (c + 1) r.length i l h1 (by omega) (by omega) hl
theorem normal_from : ∀ (f : List Nat) (cs : List Nat), okC cs → (∀ i ∈ f, i < cs.length) → ∃ cs', cs'.length = cs.length ∧ okC cs' ∧ ∀ l : List Int, cs.length < l.length → runN (nfR cs ++ f) l = runN (nfR cs') l
  | [], cs, h, _ => ⟨cs, rfl, h, fun l _ => by rw [List.append_nil]⟩
  | i :: f, cs, h, hf => by
    obtain ⟨c1, e1, e2, e3⟩ := absorb cs i h (hf i List.mem_cons_self)
    obtain ⟨c2, e4, e5, e6⟩ := normal_from f c1 e2 fun j hj => by
      rw [e1]
      exact hf j (List.mem_cons_of_mem _ hj)
    refine ⟨c2, e4.trans e1, e5, fun l hl => ?_⟩
    rw [show nfR cs ++ i :: f = nfR cs ++ [i] ++ f by simp, runN_app, e3 l hl, ← runN_app]
    exact e6 l (by omega)
theorem zeros_ok : ∀ w, okC (List.replicate w 0)
  | 0 => trivial
  | w + 1 => ⟨Nat.zero_le _, zeros_ok w⟩
theorem zeros_nf : ∀ w, nfR (List.replicate w 0) = []
  | 0 => rfl
  | w + 1 => by
    rw [List.replicate_succ, nfR, zeros_nf w]
    rfl
/-- every word is as a normal one -/
theorem normal (w : Nat) (f : List Nat) (h : ∀ i ∈ f, i < w) : ∃ cs, cs.length = w ∧ okC cs ∧ ∀ l : List Int, w < l.length → runN f l = runN (nfR cs) l := by
  obtain ⟨cs, e1, e2, e3⟩ := normal_from f (List.replicate w 0) (zeros_ok w) (by simpa using h)
  rw [List.length_replicate] at e1 e3
  rw [zeros_nf] at e3
  exact ⟨cs, e1, e2, e3⟩
end Nw

/-! DL22: the profile of a normal word, its code; equal profiles, equal effects. -/
namespace Nw
/-- what a normal word makes of the descending list: numbers put in one after the other -/
def pf (w : Int) : List Nat → List Int
  | [] => [w]
  | c :: r => (pf w r).take (r.length + 1 - c) ++ (w - ((r.length : Int) + 1)) :: (pf w r).drop (r.length + 1 - c)
theorem pf_len (w : Int) : ∀ cs, (pf w cs).length = cs.length + 1
  | [] => rfl
  | c :: r => by
    have ih := pf_len w r
    rw [pf, List.length_append, List.length_cons, List.length_take, List.length_drop, List.length_cons, ih]
    omega
theorem pf_gt (w : Int) : ∀ cs, ∀ y ∈ pf w cs, w - (cs.length : Int) ≤ y
  | [], y, h => by
    have : y = w := by simpa [pf] using h
    subst this
    show y - ((0 : Nat) : Int) ≤ y
    omega
  | c :: r, y, h => by
    have ih := pf_gt w r
    rw [List.length_cons]
    rw [pf] at h
    rcases List.mem_append.mp h with h | h
    · have := ih y (List.mem_of_mem_take h)
      omega
    · rcases List.mem_cons.mp h with h | h
      · subst h
        omega
      · have := ih y (List.mem_of_mem_drop h)
        omega
theorem sN_at {q rest : List Int} {x y : Int} (h : x < y) : sN (q ++ y :: x :: rest) q.length = q ++ x :: y :: rest := by
  have e2 : ((q.length : Int) + 1).toNat = q.length + 1 := by omega
  have e1 : ((q.length : Int) + 1 - 1).toNat = q.length := by omega
  have g1 : (q ++ y :: x :: rest).getD q.length 0 = y := by
    rw [List.getD_eq_getElem?_getD, List.getElem?_append_right (Nat.le_refl _), Nat.sub_self]
    rfl
  have g2 : (q ++ y :: x :: rest).getD (q.length + 1) 0 = x := by
    rw [List.getD_eq_getElem?_getD, List.getElem?_append_right (by omega), show q.length + 1 - q.length = 1 by omega]
    rfl
  have hh : hit (q ++ y :: x :: rest) ((q.length : Int) + 1) = true := by
    unfold hit
    rw [e1, e2, g1, g2]
    exact decide_eq_true h
  unfold sN stp
  rw [hh, if_pos rfl]
  exact xch_split (by omega) (by omega)
/-- a block carries the small number c places down -/
theorem bubble : ∀ (c m : Nat) (q rest : List Int) (x : Int), q.length = m + 1 → c ≤ m + 1 → (∀ y ∈ q, x < y) → runN (dn m c) (q ++ x :: rest) = q.take (m + 1 - c) ++ x :: (q.drop (m + 1 - c) ++ rest)
  | 0, m, q, rest, x, hq, _, _ => by
    rw [Nat.sub_zero, ← hq, List.take_length, List.drop_length]
    rfl
  | c + 1, m, q, rest, x, hq, hc, hx => by
    obtain ⟨q', y, rfl⟩ : ∃ q' y, q = q' ++ [y] := by
      have : q ≠ [] := fun z => by rw [z] at hq; cases hq
      exact ⟨q.dropLast, q.getLast this, (List.dropLast_concat_getLast this).symm⟩
    have hq' : q'.length = m := by simpa using hq
    have hy : x < y := hx y (by simp)
    rw [dn, runN_cons, show q' ++ [y] ++ x :: rest = q' ++ y :: x :: rest by simp]
    have s := sN_at (q := q') (rest := rest) hy
    rw [hq'] at s
    rw [s]
    cases m with
    | zero =>
      have c0 : c = 0 := by omega
      subst c0
      have q0 : q' = [] := List.length_eq_zero_iff.mp hq'
      subst q0
      rfl
    | succ m =>
      have ih := bubble c m q' (y :: rest) x hq' (by omega) fun z hz => hx z (List.mem_append_left _ hz)
      rw [show m + 1 - 1 = m by omega, ih]
      rw [show m + 1 + 1 - (c + 1) = m + 1 - c by omega, List.take_append_of_le_length (by omega), List.drop_append_of_le_length (by omega)]
      simp
theorem desc_succ (n : Nat) : desc (n + 1) = ((n + 1 : Nat) : Int) :: desc n := rfl
/-- the profile of a normal word -/
theorem run_nf (w : Nat) : ∀ cs, okC cs → cs.length + 1 ≤ w → runN (nfR cs) (desc w) = pf w cs ++ desc (w - cs.length - 1)
  | [], _, h => by
    obtain ⟨k, rfl⟩ : ∃ k, w = k + 1 := ⟨w - 1, by simp at h; omega⟩
    show desc (k + 1) = [((k + 1 : Nat) : Int)] ++ desc (k + 1 - 0 - 1)
    rw [show k + 1 - 0 - 1 = k by omega]
    rfl
  | c :: r, ⟨h1, h2⟩, h => by
    rw [List.length_cons] at h
    obtain ⟨k, hk⟩ : ∃ k, w - r.length - 1 = k + 1 := ⟨w - r.length - 2, by omega⟩
    have ih := run_nf w r h2 (by omega)
    rw [nfR, runN_app, ih, hk, desc_succ]
    have ex : ((k + 1 : Nat) : Int) = (w : Int) - ((r.length : Int) + 1) := by omega
    rw [ex]
    rw [bubble c r.length (pf w r) (desc k) _ (pf_len _ _) h1 fun y hy => by
      have := pf_gt w r y hy
      omega]
    rw [pf, List.length_cons, show w - (r.length + 1) - 1 = k by omega]
    simp
/-- what stands behind the first n -/
def aft (n : Int) : List Int → List Int
  | [] => []
  | x :: r => if x = n then r else aft n r
theorem aft_at {n : Int} : ∀ {a b : List Int}, (∀ y ∈ a, n < y) → aft n (a ++ n :: b) = b
  | [], b, _ => by
    show (if n = n then b else aft n b) = b
    rw [if_pos rfl]
  | x :: a, b, h => by
    have := h x List.mem_cons_self
    show (if x = n then a ++ n :: b else aft n (a ++ n :: b)) = b
    rw [if_neg (by omega)]
    exact aft_at fun y hy => h y (List.mem_cons_of_mem _ hy)
theorem cnt_cons (n x : Int) (p : List Int) : cnt n (x :: p) = (if n < x then 1 else 0) + cnt n p := by
  rw [show x :: p = [x] ++ p from rfl, cnt_app, cnt_one]
theorem cnt_put {n x : Int} (h : x < n) : ∀ (a b : List Int), cnt n (aft n (a ++ x :: b)) = cnt n (aft n (a ++ b))
  | [], b => by
    show cnt n (if x = n then b else aft n b) = _
    rw [if_neg (by omega)]
    rfl
  | y :: a, b => by
    show cnt n (if y = n then a ++ x :: b else aft n (a ++ x :: b)) = cnt n (if y = n then a ++ b else aft n (a ++ b))
    split
    · rw [cnt_app, cnt_app, cnt_cons, if_neg (by omega)]
      omega
    · exact cnt_put h a b
/-- how many greater numbers stand behind n -/
def cd (p : List Int) (n : Int) : Nat := cnt n (aft n p)
theorem cd_new {w : Int} {c : Nat} {r : List Nat} (h : c ≤ r.length + 1) : cd (pf w (c :: r)) (w - ((r.length : Int) + 1)) = c := by
  unfold cd
  have gt : ∀ y ∈ pf w r, w - ((r.length : Int) + 1) < y := fun y hy => by
    have := pf_gt w r y hy
    omega
  rw [pf, aft_at fun y hy => gt y (List.mem_of_mem_take hy), cnt_all fun y hy => gt y (List.mem_of_mem_drop hy), List.length_drop, pf_len]
  omega
theorem cd_old {w : Int} {c : Nat} {r : List Nat} {n : Int} (h : w - ((r.length : Int) + 1) < n) : cd (pf w (c :: r)) n = cd (pf w r) n := by
  unfold cd
  rw [pf, cnt_put h, List.take_append_drop]
/-- the code of the profile of a normal word -/
theorem code_pf (w : Int) : ∀ cs, okC cs → (List.range cs.length).map (fun (i : Nat) => cd (pf w cs) (w - 1 - (i : Int))) = cs.reverse
  | [], _ => rfl
  | c :: r, ⟨h1, h2⟩ => by
    rw [List.length_cons, List.range_succ, List.map_append, List.reverse_cons, ← code_pf w r h2]
    congr 1
    · apply List.map_congr_left
      intro i hi
      have := List.mem_range.mp hi
      exact cd_old (by omega)
    · show [cd (pf w (c :: r)) (w - 1 - (r.length : Int))] = [c]
      rw [show w - 1 - (r.length : Int) = w - ((r.length : Int) + 1) by omega, cd_new h1]
/-- equal profiles: equal codes -/
theorem pf_inj {w : Nat} {cs ds : List Nat} (hc : okC cs) (hd : okC ds) (e : cs.length = ds.length) (h : cs.length + 1 ≤ w) (hp : runN (nfR cs) (desc w) = runN (nfR ds) (desc w)) : cs = ds := by
  rw [run_nf w cs hc h, run_nf w ds hd (by omega), e] at hp
  have p : pf w cs = pf w ds := List.append_cancel_right hp
  have a := code_pf w cs hc
  have b := code_pf w ds hd
  rw [p, e, b] at a
  exact (List.reverse_inj.mp a).symm
/-- THE DESCENDING LIST DECIDES -/
theorem decides {w : Nat} {f g : List Nat} (hw : 1 ≤ w) (hf : ∀ i ∈ f, i + 1 < w) (hg : ∀ i ∈ g, i + 1 < w) (hp : runN f (desc w) = runN g (desc w)) (l : List Int) (hl : l.length = w) : runN f l = runN g l := by
  obtain ⟨cs, a1, a2, a3⟩ := normal (w - 1) f fun i hi => by have := hf i hi; omega
  obtain ⟨ds, b1, b2, b3⟩ := normal (w - 1) g fun i hi => by have := hg i hi; omega
  rw [a3 _ (by rw [desc_len]; omega), b3 _ (by rw [desc_len]; omega)] at hp
  have : cs = ds := pf_inj a2 b2 (by omega) (by omega) hp
  rw [a3 l (by omega), b3 l (by omega), this]
end Nw

/-! DL23: sorted of whole numbers. -/
namespace DL
open PySem L2 PyProof.Rows
def srt (ns : List Int) : List Int := ns.mergeSort fun a b => decide (a ≤ b)
def oSorted : List D → Option Out
  | [x] => ((lstItems x).bind asInts).map fun ns => .newL (nums (srt ns))
  | _ => none
section
variable {ca : Nat → Addr} {K : PySem.W.Frag} {Hf H : Hp} {S : Rg}
theorem oSorted_l {o : Bool} {l : List Int} : oSorted [.lst o (nums l)] = some (.newL (nums (srt l))) := by
  show ((lstItems (.lst o (nums l))).bind asInts).map _ = _
  rw [show lstItems (.lst o (nums l)) = some (nums l) from rfl, Option.bind_some, nums_as]
  rfl
end
end DL

/-! DL24: codes as the program's lists; steps as whole numbers. -/
namespace Nw
def up1 (f : List Nat) : List Int := f.map fun (i : Nat) => (i : Int) + 1
theorem up1_run : ∀ (f : List Nat) (l : List Int), runL (up1 f) l = runN f l
  | [], _ => rfl
  | i :: f, l => up1_run f (sN l i)
theorem up1_of {w : Int} : ∀ {ss : List Int}, okS w ss → ∃ f : List Nat, ss = up1 f ∧ ∀ i ∈ f, (i : Int) + 1 ≤ w - 1
  | [], _ => ⟨[], rfl, fun i hi => by cases hi⟩
  | s :: ss, h => by
    obtain ⟨f, e, hf⟩ := up1_of fun t ht => h t (List.mem_cons_of_mem _ ht)
    have hs := h s List.mem_cons_self
    refine ⟨(s - 1).toNat :: f, ?_, fun i hi => ?_⟩
    · rw [e]
      show s :: up1 f = ((((s - 1).toNat : Nat) : Int) + 1) :: up1 f
      rw [show (((s - 1).toNat : Nat) : Int) + 1 = s by omega]
    · rcases List.mem_cons.mp hi with hi | hi
      · subst hi
        omega
      · exact hf i hi
end Nw

/-! DL25: the reading of codes: index, slices, extend. -/
namespace DL
open PySem (Str)
open Nw
theorem eMt_s {i j : Nat} {f : List D → Option Out} {st : Sl} {x y : D} {o : Out} (h0 : getS st i = some x) (hl : isLst x = true) (h1 : getS st j = some y) (hf : f [x, y] = some o) : eMt i f [.s j] st = .ok o.d st := by
  unfold eMt
  rw [h0]
  dsimp only
  rw [if_pos hl, opds, if_pos (by rw [h1]; rfl)]
  dsimp only [opds, Option.map, Option.bind]
  rw [h0, h1]
  dsimp only
  rw [hf]
theorem eApp_v {i : Nat} {m : ME} {st st1 : Sl} {d d0 : D} {xs : List D} (h0 : getS st i = some d0) (hl : isLst d0 = true) (h1 : m st = .ok d st1) (h2 : getS st1 i = some (.lst true xs)) (hn : xs.length < 16777216) : eApp i m st = .ok .non (st1.set i (some (.lst true (xs ++ [d])))) := by
  unfold eApp
  rw [h0]
  dsimp only
  rw [if_pos hl, h1]
  dsimp only [Res.bind]
  rw [h2]
  dsimp only
  rw [if_pos hn]
theorem eExt_v {i : Nat} {m : ME} {st st1 : Sl} {d0 : D} {o : Bool} {xs ys : List Int} (h0 : getS st i = some d0) (hl : isLst d0 = true) (h1 : m st = .ok (.lst o (nums ys)) st1) (h2 : getS st1 i = some (.lst true (nums xs))) (hn : xs.length + ys.length ≤ 16777216) : eExt i m st = .ok .non (st1.set i (some (.lst true (nums (xs ++ ys))))) := by
  unfold eExt
  rw [h0]
  dsimp only
  rw [if_pos hl, h1]
  dsimp only [Res.bind]
  rw [h2]
  have e : ext2 (some (.lst true (nums xs))) (.lst o (nums ys)) = some (nums (xs ++ ys)) := by
    unfold ext2
    dsimp only
    rw [nums_colds, nums_len, nums_len, decide_eq_true hn, nums_app]
    rfl
  rw [e]
theorem sExpr_ok {m : ME} {st st1 : Sl} {d : D} (h : m st = .ok d st1) : sExpr m st = .next st1 := by
  unfold sExpr
  rw [h]
  rfl
end DL
namespace Nw
/-- the code's part as it stands after i turns -/
def part (cs : List Nat) (i : Nat) : List Nat := (cs.reverse.take i).reverse
end Nw
namespace DL
open Nw
theorem sm62 {z : Int} (h1 : -1000 ≤ z) (h2 : z ≤ 1000) : small62 z = true := by
  unfold small62
  refine decide_eq_true ?_
  omega
end DL
namespace Nw
end Nw
namespace DL
open Nw
theorem log2_small {m : Int} (h : m.natAbs < 2 ^ 80) : m.natAbs.log2 < 9000 := by
  by_cases z : m.natAbs = 0
  · rw [z]
    decide
  · exact Nat.lt_trans ((Nat.log2_lt z).mpr h) (by decide)
theorem oDiv_w {i j : Int} (h : 0 < j) (h2 : j.natAbs < 2 ^ 80) : oDiv [.int i, .int j] = some (.val (.int (i / j))) := by
  show (if 0 < j ∧ j.natAbs.log2 < 9000 then some (Out.val (.int (i / j))) else none) = _
  rw [if_pos ⟨h, log2_small h2⟩]
end DL

/-! DL26: no network exchanges more often than on the descending list. -/
namespace Nw
end Nw

/-! DL27: the meanings evaluated step by step, by unification. -/
namespace DL
open PySem (Str)
section
variable {m m1 m2 m3 : ME} {ms ns : MA} {st st1 st2 st3 st' : Sl} {a b c d d' x y : D} {ds es : List D} {o : Out} {f : List D → Option Out} {i j k : Nat} {F : MF} {ps : Sl} {g : MG} {s s1 s2 : MS} {r : SR} {t t1 t2 : MT} {p q : Bool} {C : Nat}
theorem od_val : (Out.val d).d = d := rfl
theorem od_newL : (Out.newL ds).d = .lst true ds := rfl
theorem od_newT : (Out.newT ds).d = .tup ds := rfl
theorem od_eq (h : d = d') : (Out.val d).d = d' := h
theorem set_0 {o : Option D} {l : Sl} : (o :: l).set 0 x' = x' :: l := rfl
theorem set_s {o : Option D} {l l' : Sl} {z : Option D} (h : l.set i z = l') : (o :: l).set (i + 1) z = o :: l' := by rw [← h]; rfl
/-! expressions -/
theorem xC : eC d st = .ok d st := rfl
theorem xN (h : getS st i = some d) (hc : hot d = false) : eN i st = .ok d st := eN_v h hc
theorem xNf (h : getS st i = some d) (hc : hot d = true) (hf : frz d = d') (hs : st.set i (some d') = st') : eN i st = .ok d' st' := by
  rw [eNf_v h hc, hf, hs]
theorem xMv (h : getS st i = some d) (hs : st.set i none = st') : eMv i st = .ok d st' := by
  unfold eMv; rw [h]; subst hs; rfl
theorem xOv (h : m st = .ok a st1) (hf : f [a] = some o) (hd : o.d = d) : eOp f [.v m] st = .ok d st1 := by rw [eOp1_v h hf, hd]
theorem xOs (h : getS st i = some a) (hf : f [a] = some o) (hd : o.d = d) : eOp f [.s i] st = .ok d st := by rw [eOp1_s h hf, hd]
theorem xOvv (h : m1 st = .ok a st1) (h2 : m2 st1 = .ok b st2) (hf : f [a, b] = some o) (hd : o.d = d) : eOp f [.v m1, .v m2] st = .ok d st2 := by rw [eOp2_v h h2 hf, hd]
theorem xOvs (h : m1 st = .ok a st1) (h2 : getS st1 i = some b) (hf : f [a, b] = some o) (hd : o.d = d) : eOp f [.v m1, .s i] st = .ok d st1 := by rw [eOpvs_v h h2 hf, hd]
theorem xOsv (h0 : getS st i = some x) (h : m1 st = .ok b st1) (h2 : getS st1 i = some a) (hf : f [a, b] = some o) (hd : o.d = d) : eOp f [.s i, .v m1] st = .ok d st1 := by rw [eOpsv_v (by rw [h0]; rfl) h h2 hf, hd]
theorem xOss (h1 : getS st i = some a) (h2 : getS st j = some b) (hf : f [a, b] = some o) (hd : o.d = d) : eOp f [.s i, .s j] st = .ok d st := by
  unfold eOp opds opds opds
  rw [h1, h2]
  simp only [Option.isSome_some, if_true, h1, h2, Option.bind_some, Option.map_some, hf, hd]
theorem xAndT (h : m1 st = .ok (.bl true) st1) (h2 : m2 st1 = .ok d st2) : eAnd m1 m2 st = .ok d st2 := by unfold eAnd; rw [h]; exact h2
theorem xAndF (h : m1 st = .ok (.bl false) st1) : eAnd m1 m2 st = .ok (.bl false) st1 := by unfold eAnd; rw [h]; rfl
theorem xAndB (h : m1 st = .ok (.bl p) st1) (h2 : m2 st1 = .ok (.bl q) st1) : eAnd m1 m2 st = .ok (.bl (p && q)) st1 := by
  unfold eAnd; rw [h]; cases p
  · rfl
  · exact h2
theorem xOrB (h : m1 st = .ok (.bl p) st1) (h2 : m2 st1 = .ok (.bl q) st1) : eOr m1 m2 st = .ok (.bl (p || q)) st1 := by
  unfold eOr; rw [h]; cases p
  · exact h2
  · rfl
theorem xNot (h : m st = .ok (.bl p) st1) : eNot m st = .ok (.bl (!p)) st1 := by unfold eNot; rw [h]; rfl
theorem xIfT (h : t st = .ok true st1) (h2 : m1 st1 = .ok d st2) : eIf t m1 m2 st = .ok d st2 := by unfold eIf; rw [h]; exact h2
theorem xIfF (h : t st = .ok false st1) (h2 : m2 st1 = .ok d st2) : eIf t m1 m2 st = .ok d st2 := by unfold eIf; rw [h]; exact h2
theorem xANil : aNil st = .ok [] st := rfl
theorem xACons (h : m st = .ok d st1) (h2 : ms st1 = .ok ds st2) : aCons m ms st = .ok (d :: ds) st2 := by unfold aCons; rw [h]; show (ms st1).bind _ = _; rw [h2]; rfl
theorem xLst (h : ms st = .ok ds st1) (hl : Nat.ble ds.length 16777216 = true) : eLst ms st = .ok (.lst true ds) st1 := by
  unfold eLst; rw [h]; exact if_pos (Nat.le_of_ble_eq_true hl)
theorem xTup (h : ms st = .ok ds st1) (hl : Nat.ble ds.length 16777216 = true) (hf : frzL ds = es) : eTup ms st = .ok (.tup es) st1 := by
  unfold eTup; rw [h]; subst hf; exact if_pos (Nat.le_of_ble_eq_true hl)
theorem xFz (h : m st = .ok d st1) (hf : frz d = d') : eFz m st = .ok d' st1 := by rw [eFz_v h, hf]
theorem xCall (h : ms st = .ok ds st1) (hf : F ds = .ok d ps) : eCall F ms st = .ok d st1 := by
  unfold eCall; rw [h]; show (match F ds with | .ok d _ => _ | .exc x _ => _ | .fail => _) = _; rw [hf]
theorem xCallL (h : ms st = .ok ds st1) (h0 : getS st1 i = some y) (h1 : ns st1 = .ok es st2) (h2 : getS st2 i = some x) (hx : hot x = true) (hf : F (ds ++ x :: es) = .ok d ps) (hg : getS ps ds.length = some x1) (hs : st2.set i (some x1) = st') : eCallL F ms i ns st = .ok d st' := by
  rw [← hg] at hs
  unfold eCallL; rw [h]
  show (if (getS st1 i).isSome = true then _ else _) = _
  rw [if_pos (by rw [h0]; rfl), h1]
  show (match getS st2 i with | some d => _ | none => _) = _
  rw [h2]
  show (if hot x = true then _ else _) = _
  rw [if_pos hx, hf]
  subst hs
  rfl
/-- a lent slot that is not owned -/
theorem xCallLc (h : ms st = .ok ds st1) (h0 : getS st1 i = some y) (h1 : ns st1 = .ok es st2) (h2 : getS st2 i = some x) (hx : hot x = false) (hf : F (ds ++ x :: es) = .ok d ps) : eCallL F ms i ns st = .ok d st2 := by
  unfold eCallL; rw [h]
  show (if (getS st1 i).isSome = true then _ else _) = _
  rw [if_pos (by rw [h0]; rfl), h1]
  show (match getS st2 i with | some d => _ | none => _) = _
  rw [h2]
  show (if hot x = true then _ else _) = _
  rw [if_neg (by rw [hx]; exact Bool.false_ne_true), hf]
theorem xMake (h : ms st = .ok ds st1) (hf : F (.ins true C [] :: ds) = .ok .non (some x :: ps)) : eMake C F ms st = .ok x st1 := by
  unfold eMake; rw [h]; show (match F (.ins true C [] :: ds) with | .ok .non ps => _ | .exc x _ => _ | _ => _) = _; rw [hf]; rfl
theorem xEqI {neg : Bool} (h1 : m1 st = .ok a st1) (h2 : m2 st1 = .ok b st2) (ha : insC a = some C) (hb : insC b = some C) (hf : F [a, b] = .ok (.bl p) ps) (hd : D.bl (if neg then !p else p) = d) : eEqI neg C F (.v m1) (.v m2) st = .ok d st2 := by
  rw [eEqI_v h1 h2 ha hb hf, hd]
theorem xLenI {n : Nat} (h : m st = .ok x st2) (hc : insC x = some C) (hf : F [x] = .ok (.int (n : Int)) ps) (hn : Nat.blt n 1000000000 = true) : eLenI C F (.v m) st = .ok (.int (n : Int)) st2 := eLenI_v h hc hf (Nat.le_of_ble_eq_true hn)
theorem xApp {xs : List D} (h0 : getS st i = some a) (hl : isLst a = true) (h : m st = .ok d st1) (h2 : getS st1 i = some (.lst true xs)) (hn : xs.length < 16777216) (hs : st1.set i (some (.lst true (xs ++ [d]))) = st') : eApp i m st = .ok .non st' := by
  rw [eApp_v h0 hl h h2 hn, hs]
theorem xExt {z : Bool} {xs ys : List Int} (h0 : getS st i = some a) (hl : isLst a = true) (h : m st = .ok (.lst z (nums ys)) st1) (h2 : getS st1 i = some (.lst true (nums xs))) (hn : xs.length + ys.length ≤ 16777216) (hs : st1.set i (some (.lst true (nums (xs ++ ys)))) = st') : eExt i m st = .ok .non st' := by
  rw [eExt_v h0 hl h h2 hn, hs]
theorem xMtS (h0 : getS st i = some x) (hl : isLst x = true) (h1 : getS st j = some y) (hf : f [x, y] = some o) (hd : o.d = d) : eMt i f [.s j] st = .ok d st := by rw [eMt_s h0 hl h1 hf, hd]
/-! walked things -/
theorem wE {P : D → Option (List D)} (h : m st = .ok d st1) (hp : P d = some ds) (hc : colds ds = true) : iE m P st = .ok ds st1 := by
  unfold iE; rw [h]; show (match P d with | some ds => _ | none => _) = _; rw [hp]; exact if_pos hc
theorem wR1 {n : Nat} {z : Int} (h : m st = .ok (.int z) st1) (hz : z = (n : Int)) (hs : small62 z = true) : iR1 m st = .ok (rangeD 0 n) st1 := iR1_v hz h hs
theorem lst_it {z : Bool} : lstItems (.lst z ds) = some ds := rfl
theorem tup_it : tupItems (.tup ds) = some ds := rfl
/-! tests -/
theorem cE (h : m st = .ok (.bl p) st1) : tE m st = .ok p st1 := tE_ok h
theorem cNotF (h : t st = .ok true st1) : tNotM t st = .ok false st1 := by unfold tNotM; rw [h]; rfl
theorem cNotT (h : t st = .ok false st1) : tNotM t st = .ok true st1 := by unfold tNotM; rw [h]; rfl
theorem cOrF (h : t1 st = .ok false st1) (h2 : t2 st1 = .ok p st2) : tOrM t1 t2 st = .ok p st2 := tOr_ok h h2
theorem cOrT (h : t1 st = .ok true st1) : tOrM t1 t2 st = .ok true st1 := by unfold tOrM; rw [h]; rfl
theorem cAndT (h : t1 st = .ok true st1) (h2 : t2 st1 = .ok p st2) : tAndM t1 t2 st = .ok p st2 := by unfold tAndM; rw [h]; exact h2
theorem cAndF (h : t1 st = .ok false st1) : tAndM t1 t2 st = .ok false st1 := by unfold tAndM; rw [h]; rfl
/-! statements -/
theorem zSeq (h : s1 st = .next st1) (h2 : s2 st1 = r) : sSeq s1 s2 st = r := sSeq_next h h2
theorem zSeqR (h : s1 st = .ret d st1) : sSeq s1 s2 st = .ret d st1 := by unfold sSeq; rw [h]; rfl
theorem zAsg (h : m st = .ok d st1) (hg : g d st1 = .ok () st2) : sAsg m g st = .next st2 := sAsg_ok h hg
theorem zExpr (h : m st = .ok d st1) : sExpr m st = .next st1 := sExpr_ok h
theorem zRet (h : m st = .ok d st1) : sRet m st = .ret d st1 := sRet_ok h
theorem zYes (h : t st = .ok true st1) (h2 : s1 st1 = r) : sIf t s1 s2 st = r := by rw [sIf_ok h]; exact h2
theorem zNo (h : t st = .ok false st1) (h2 : s2 st1 = r) : sIf t s1 s2 st = r := by rw [sIf_ok h]; exact h2
theorem zSkip : sNext st = .next st := rfl
theorem zFor {src : Sl → Res (List D)} {B : MS} (h : src st = .ok ds st1) (h2 : forD g B ds st1 = r) : sFor src g B st = r := by unfold sFor; rw [h]; exact h2
theorem zPar (h : ms st = .ok [a, b] st1) (hs : st1.set i (some a) = st2) (hs2 : st2.set j (some b) = st3) : sPar i j ms st = .next st3 := by
  unfold sPar; rw [h]; subst hs hs2; rfl
theorem zAug (h0 : getS st i = some a) (hc : cold a = true) (h : m st = .ok b st1) (hf : f [a, b] = some (.val d)) (hs : st1.set i (some d) = st') : sAug i f m st = .next st' := by
  unfold sAug; rw [h0]; show (if cold a = true then _ else _) = _; rw [if_pos hc, h]; show (match f [a, b] with | some (.val z) => _ | _ => _) = _; rw [hf]; subst hs; rfl
theorem gN_r (hs : st.set i (some d) = st') : gN i d st = .ok () st' := by unfold gN; rw [hs]
theorem gIx_r {xs : List D} {kk : Int} {n : Nat} (hc : cold d = true) (h0 : getS st i = some a) (h : m st = .ok (.int kk) st1) (h2 : getS st1 i = some (.lst true xs)) (hn : L2.ixN xs.length kk = some n) (hs : st1.set i (some (.lst true (xs.set n d))) = st') : gIx i m d st = .ok () st' := by
  unfold gIx; rw [hc, h0]
  show (if true = true then _ else _) = _
  rw [if_pos rfl, h]
  show (match getS st1 i with | some (.lst true xs) => _ | _ => _) = _
  rw [h2]
  show (match L2.ixN xs.length kk with | some j => _ | none => _) = _
  rw [hn]; subst hs; rfl
theorem fn_go {n w : Nat} {L : List Nat} {body : MS} (hl : ds.length = n) (h : body (ds.map some ++ List.replicate (w - n) none) = .ret d st) : fn n w L body ds = .ok d (keepL L n st) := fn_ret hl h
theorem fn_goN {n w : Nat} {L : List Nat} {body : MS} (hl : ds.length = n) (h : body (ds.map some ++ List.replicate (w - n) none) = .next st) : fn n w L body ds = .ok .non (keepL L n st) := by
  unfold fn; rw [if_pos hl, h]
/-! operations -/
theorem add_i {i j : Int} : oAdd [.int i, .int j] = some (.val (.int (i + j))) := rfl
theorem sub_i {i j : Int} : oSub [.int i, .int j] = some (.val (.int (i - j))) := rfl
theorem neg_i {i : Int} : oNeg [.int i] = some (.val (.int (-i))) := rfl
theorem abs_i {i : Int} : oAbs [.int i] = some (.val (.int (if i < 0 then -i else i))) := rfl
theorem lt_i {i j : Int} : f2 pLt [.int i, .int j] = some (.val (.bl (decide (i < j)))) := rfl
theorem le_i {i j : Int} : f2 pLe [.int i, .int j] = some (.val (.bl (decide (i ≤ j)))) := rfl
theorem gt_i {i j : Int} : f2 pGt [.int i, .int j] = some (.val (.bl (decide (j < i)))) := rfl
theorem ge_i {i j : Int} : f2 pGe [.int i, .int j] = some (.val (.bl (decide (j ≤ i)))) := rfl
theorem int_i {i : Int} : oInt [.int i] = some (.val (.int i)) := rfl
theorem int_b {b : Bool} : oInt [.bl b] = some (.val (.int (if b then 1 else 0))) := rfl
theorem eq_of {a b c : D} (h : pEq a b = some c) : f2 pEq [a, b] = some (.val c) := by simp only [f2, h, Option.map_some]
theorem ne_of {a b c : D} (h : pNe a b = some c) : f2 pNe [a, b] = some (.val c) := by simp only [f2, h, Option.map_some]
theorem bl_y {P : Prop} [Decidable P] (h : P) : D.bl (decide P) = .bl true := by rw [decide_eq_true h]
theorem bl_n {P : Prop} [Decidable P] (h : ¬ P) : D.bl (decide P) = .bl false := by rw [decide_eq_false h]
theorem nbl_y {P : Prop} [Decidable P] (h : ¬ P) : D.bl (!decide P) = .bl true := by rw [decide_eq_false h]; rfl
theorem nbl_n {P : Prop} [Decidable P] (h : P) : D.bl (!decide P) = .bl false := by rw [decide_eq_true h]; rfl
theorem lst_o {z : Bool} {l : List Int} (h : l.length ≤ 16777216) : oList [.lst z (nums l)] = some (.newL (nums l)) := by
  simp [oList, items, newLc, nums_colds, nums_len, h]
theorem lst_t {l : List Int} (h : l.length ≤ 16777216) : oList [.tup (nums l)] = some (.newL (nums l)) := by
  simp [oList, items, newLc, nums_colds, nums_len, h]
theorem tup_l {z : Bool} {l : List Int} (h : l.length ≤ 16777216) : oTuple [.lst z (nums l)] = some (.newT (nums l)) := by
  simp [oTuple, nums_colds, nums_len, h]
theorem tup_t {l : List D} : oTuple [.tup l] = some (.val (.tup l)) := rfl
theorem len_t {l : List Int} : oLen [.tup (nums l)] = some (.val (.int (l.length : Nat))) := by simp [oLen, items, nums_len]
theorem fz_l {z : Bool} {l : List Int} : frz (.lst z (nums l)) = .lst false (nums l) := by rw [frz, nums_frz]
theorem fz_t {l : List Int} : frz (.tup (nums l)) = .tup (nums l) := by rw [frz, nums_frz]
theorem fz_i {i : Int} : frz (.int i) = .int i := by rw [frz]
theorem fz_b {b : Bool} : frz (.bl b) = .bl b := by rw [frz]
theorem fz_s {b : Str} : frz (.str b) = .str b := by rw [frz]
theorem fz_n : frz .non = .non := by rw [frz]
theorem fzL_n : frzL [] = [] := by rw [frzL]
theorem fzL_c (h : frz d = d') (h2 : frzL ds = es) : frzL (d :: ds) = d' :: es := by rw [frzL, h, h2]
theorem fz_lst {z : Bool} (h : frzL ds = es) : frz (.lst z ds) = .lst false es := by rw [frz, h]
theorem fz_tup (h : frzL ds = es) : frz (.tup ds) = .tup es := by rw [frz, h]
end
/-! comprehensions of one clause whose parts leave the state -/
section
variable {α : Type}
theorem comp_go {g : MG} {t : MT} {e : ME} {i : Nat} {st : Sl} (enc φ : α → D) (p : α → Bool) (hi : i < st.length) : ∀ (l : List α) (acc : List D),
    (∀ x ∈ l, g (enc x) (st.set i none) = .ok () (st.set i (some (enc x)))) → (∀ x ∈ l, t (st.set i (some (enc x))) = .ok (p x) (st.set i (some (enc x)))) →
    (∀ x ∈ l, p x = true → e (st.set i (some (enc x))) = .ok (φ x) (st.set i (some (enc x)))) → acc.length + l.length ≤ 16777216 →
    compD g t e [i] (l.map enc) (st.set i none) acc = .ok (acc ++ (l.filter p).map φ) (st.set i none)
  | [], acc, _, _, _, _ => by rw [List.map_nil, compD, List.filter_nil, List.map_nil, List.append_nil]
  | x :: l, acc, hg, ht, he, hl => by
    have w : ∀ o : Option D, wipeS (st.set i o) [i] = st.set i none := fun o => by
      show (st.set i o).set i none = _
      rw [List.set_set]
    rw [List.map_cons, compD, hg x List.mem_cons_self]
    show ((t (st.set i (some (enc x)))).noX.bind _) = _
    rw [ht x List.mem_cons_self]
    show (if p x = true then _ else _) = _
    rw [List.length_cons] at hl
    by_cases hp : p x = true
    · rw [if_pos hp, he x List.mem_cons_self hp]
      show (if acc.length < 16777216 then _ else _) = _
      rw [if_pos (by omega), w, comp_go enc φ p hi l (acc ++ [φ x]) (fun y h => hg y (List.mem_cons_of_mem _ h)) (fun y h => ht y (List.mem_cons_of_mem _ h)) (fun y h => he y (List.mem_cons_of_mem _ h)) (by rw [List.length_append, List.length_singleton]; omega), List.filter_cons_of_pos hp, List.map_cons, List.append_assoc]
      rfl
    · rw [if_neg hp, w, comp_go enc φ p hi l acc (fun y h => hg y (List.mem_cons_of_mem _ h)) (fun y h => ht y (List.mem_cons_of_mem _ h)) (fun y h => he y (List.mem_cons_of_mem _ h)) (by omega), List.filter_cons_of_neg hp]
theorem xLc {g : MG} {t : MT} {e : ME} {i : Nat} {st st1 st2 : Sl} {src : Sl → Res (List D)} (enc φ : α → D) (p : α → Bool) (l : List α) {ds out : List D} (hs : src st = .ok ds st1) (hd : ds = l.map enc) (hl : l.length ≤ 16777216) (hi : i < st1.length) (hw : st1.set i none = st2)
    (hg : ∀ x ∈ l, g (enc x) (st1.set i none) = .ok () (st1.set i (some (enc x)))) (ht : ∀ x ∈ l, t (st1.set i (some (enc x))) = .ok (p x) (st1.set i (some (enc x))))
    (he : ∀ x ∈ l, p x = true → e (st1.set i (some (enc x))) = .ok (φ x) (st1.set i (some (enc x)))) (ho : (l.filter p).map φ = out) : eLc src g t e [i] st = .ok (.lst true out) st2 := by
  unfold eLc
  rw [hs]
  show (compD g t e [i] ds (st1.set i none) []).bind _ = _
  subst hd hw ho
  rw [comp_go enc φ p hi l [] hg ht he (by simpa using hl), List.nil_append]
  rfl
/-- every item is taken -/
theorem xLcA {g : MG} {e : ME} {i : Nat} {st st1 st2 : Sl} {src : Sl → Res (List D)} (enc φ : α → D) (l : List α) {ds out : List D} (hs : src st = .ok ds st1) (hd : ds = l.map enc) (hl : l.length ≤ 16777216) (hi : i < st1.length) (hw : st1.set i none = st2)
    (hg : ∀ x ∈ l, g (enc x) (st1.set i none) = .ok () (st1.set i (some (enc x))))
    (he : ∀ x ∈ l, e (st1.set i (some (enc x))) = .ok (φ x) (st1.set i (some (enc x)))) (ho : l.map φ = out) : eLc src g tYesM e [i] st = .ok (.lst true out) st2 :=
  xLc enc φ (fun _ => true) l hs hd hl hi hw hg (fun _ _ => rfl) (fun x hx _ => he x hx) (by rw [List.filter_eq_self.mpr (fun _ _ => rfl), ho])
end
end DL

/-! DL28: methods called, defs with a starred parameter, classmethods; promises by FnR. -/
namespace DL
open PySem L2 PyProof.Rows
def insOf (C : Nat) (nm : Str) : D → Bool
  | .ins _ C' fs => decide (C' = C) && (fs.lookup nm).isNone
  | _ => false
/-- o.m(..): o's value handed over -/
def eMth (C : Nat) (nm : Str) (f : MF) (m0 : ME) (ms : MA) : ME := fun st => (m0 st).bind fun d0 st1 => if insOf C nm d0 then (ms st1).bind fun ds st2 => (match f (d0 :: ds) with
  | .ok d _ => .ok d st2
  | .exc x _ => .exc x st2
  | .fail => .fail) else .fail
/-- room, and no repr under way -/
def RoomG (k : Nat) (A : Around) : Prop := A.guards = some [] ∧ Room k A
theorem RoomG.mono {j k : Nat} {A : Around} (r : RoomG k A) (h : j ≤ k) : RoomG j A := ⟨r.1, r.2.mono h⟩
theorem RoomG.in1 {k : Nat} {A : Around} (r : RoomG (k + 1) A) : RoomG k A.in1 := ⟨r.1, r.2.in1⟩
theorem RoomG.deeper {k : Nat} {A : Around} (r : RoomG (k + 1) A) (env : Env) : RoomG k (A.deeper env) := ⟨r.1, r.2.deeper env⟩
theorem RoomG.make {k : Nat} {A : Around} (r : RoomG (k + 1) A) (C : Addr) (us : List Value) (kw : List (Str × Value)) : RoomG k (A.under (.builtin "type.__call__" ⟨.ref C :: us, kw⟩)) := ⟨r.1, r.2.make C us kw⟩
/-- a promise by positional values, no repr under way -/
def FnG (P : Program) (w : World) (K : PySem.W.Frag) (mg : Str → Option Value) (base : Heap) (CX : CXT) (k : Nat) (f : Addr) (sp : Sp) : Prop :=
  ∀ (A : Around) (outer : List Env) (s : Shared) (H : Hp) (us : List Value) (vs : List V) (Q : VK) (E : XK), RoomG k A → Env0 P w K mg base A outer s H → Vals vs us → sp vs H Q E →
    codeAny (model P w) A (.call (.ref f) ⟨us, []⟩) (L2.CR CX outer P w H s Q E) s
section
variable {ca : Nat → Addr} {Hf H Hf1 H1 Hf2 H2 : Hp} {S P P1 P2 : Rg} {R R1 R2 : Nat → Rg} {σ : L2.St} {st : Sl} {v : V} {d : D} {vs : List V} {ds : List D} {X : Cx} {L : List Nat}
theorem run_fnRS {CX : CXT} {pins : List (Addr × Obj)} {s : Shared} {k : Nat} {f : Addr} {sp : Sp} {E : XK} {Q : VK} {us : List Value} {vs : List V} (F : FnG X.prog X.w X.K X.mg X.base CX k f sp) (hr : RoomG k X.A) (hx : PassesAt CX X σ E) (I : Inv X pins σ H s) (r : Vals vs us) (h : sp vs H Q E) :
    codeAny (model X.prog X.w) X.A (.call (.ref f) ⟨us, []⟩) (fun r s' => match r with | .ok (.ret v) => EP X pins σ Q v s' | .ok _ => False | .error e => X.xe e s') s := by
  refine codeAny_mono (F X.A X.stack s H us vs Q E hr I.env0 r h) fun r s' hq => ?_
  cases r with
  | error e => exact hx pins H s e s' I hq
  | ok fl =>
    cases fl with
    | ret u => exact I.after hq
    | next => exact False.elim hq
    | brk => exact False.elim hq
    | cont => exact False.elim hq
/-! ### methods -/
/-- the form of a method's call -/
def MForm (X : Cx) (o : Expr) (m : Str) (es : List Expr) (apos pos : Pos) (pl : Sem Bool) : Prop := eval (.Call (.Attribute o m apos) es [] pos) X.env = (do
      let ov ← eval o X.env
      standAt apos.atName
      let (g, first) ← holding [ov] (getMethod ov m pl)
      callWith pos g first (backTo pos (starEach es X.env)) (backToKw pos (keywordEach [] X.env)))
end
end DL

/-! DL29: defs with a starred parameter; classmethods. -/
namespace DL
open PySem L2 PyProof.Rows
/-- how a def with a starred parameter binds -/
structure StarB (fd : FuncData) (ps : List Str) (pv : Str) : Prop where
  b : ∀ us rest : List Value, us.length = ps.length → bindArgs fd ⟨us ++ rest, []⟩ = (newTuple rest >>= fun t => pure (ps.zip us ++ [(pv, t)]))
section
variable {ca : Nat → Addr} {P : Program} {w : World} {K : PySem.W.Frag} {mg : Str → Option Value} {base : Heap} {L : List Nat}
theorem repL_cutAt {K : PySem.W.Frag} {Hf H : Hp} : ∀ (n : Nat) {S : Rg} {vs : List V} {ds : List D}, RepL ca K Hf H S vs ds → ∃ A B : Rg, RepL ca K Hf H A (vs.take n) (ds.take n) ∧ RepL ca K Hf H B (vs.drop n) (ds.drop n) ∧ (∀ b, A b → S b) ∧ (∀ b, B b → S b) ∧ ∀ b, A b → B b → False
  | 0, S, vs, ds, r => ⟨Em, S, .nil, r, fun _ q => q.elim, fun _ q => q, fun _ q => q.elim⟩
  | n + 1, S, [], [], r => ⟨Em, S, .nil, r, fun _ q => q.elim, fun _ q => q, fun _ q => q.elim⟩
  | n + 1, S, v :: vs, d :: ds, r => by
    cases r with
    | cons r1 r2 h1 h2 h3 =>
      obtain ⟨A, B, a, b, c, e, f⟩ := repL_cutAt n r2
      exact ⟨_, B, .cons (S := fun x => _ ∨ A x) r1 a (fun _ q => .inl q) (fun _ q => .inr q) (fun x q1 q2 => h3 x q1 (c x q2)), b, fun x q => q.elim (h1 x) fun q => h2 x (c x q), fun x q => h2 x (e x q), fun x q1 q2 => q1.elim (fun q => h3 x q (e x q2)) fun q => f x q q2⟩
  | _ + 1, _, [], _ :: _, r => by cases r
  | _ + 1, _, _ :: _, [], r => by cases r
theorem fn_body {x qual : Str} {st : Stmt} {f : Addr} {fd : FuncData} {N ps : List Str} {k n : Nat} {mb : MS} (F : Fun K x qual st f fd) (S : FnScope N ps (defScope st)) (hn : ps.length = n)
    (hb : ∀ (cdv : Value) (A : Around) (outer : List Env) (s : Shared) (H : Hp) (E : XK), RoomG k (A.deeper (envOfC qual (defScope st) s.heap.objs.size f cdv)) →
      CSs ca (cxOf (L2.CX P w) P w K mg base N qual (defScope st) f cdv A outer s H E) L (defBody st) mb) {cdv : Value} {A : Around} {outer : List Env} {s : Shared} {H : Hp} {vs : List V} {Q : VK} {E : XK} (hr : RoomG k (A.deeper (envOfC qual (defScope st) s.heap.objs.size f cdv)))
    (h : spM ca K (fn n N.length L mb) vs H Q E) : ∃ t, PSs (cxOf (L2.CX P w) P w K mg base N qual (defScope st) f cdv A outer s H E) (defBody st) t ∧ t { nx := fun _ H' => Q .non H', rt := Q } (L2.start N vs) H := by
  refine ⟨_, wss_pss _ _, ?_⟩
  have hl := spM_len h
  obtain ⟨Hf, Pg, ds, r, w1, post⟩ := h
  have hds : ds.length = n := by rw [← r.length]; exact hl
  obtain ⟨R, a, b, c⟩ := repL_split r
  have hvn : vs.length ≤ N.length := by
    have := congrArg List.length S.pre
    rw [List.length_take] at this
    omega
  have p0 : PR ca K Hf H Em True R (L2.start N vs) (ds.map some ++ List.replicate (N.length - n) none) := by
    refine ⟨trivial, ?_, fun i d e => ?_, b, fun _ _ q => q.elim, ?_⟩
    · unfold L2.start; simp [hds, hl]
    · have hi : i < ds.length := by
        by_cases hi : i < ds.length
        · exact hi
        · exfalso
          unfold getS at e
          rw [List.getElem?_append_right (by simp; omega), List.getElem?_replicate] at e
          split at e <;> cases e
      have e1 : ds[i]? = some d := by
        unfold getS at e
        rw [List.getElem?_append_left (by simpa using hi), List.getElem?_map, List.getElem?_eq_getElem hi] at e
        rw [List.getElem?_eq_getElem hi]
        exact e
      obtain ⟨v, e2, r2⟩ := a i d e1
      refine ⟨v, ?_, r2⟩
      rw [start_at (by rw [r.length]; exact hi), e2]
    · exact w1.mono fun b q => q.elim (fun q => q.elim) fun ⟨i, q⟩ => c i b q
  refine hb cdv A outer s H E hr Hf H R (L2.start N vs) _ _ p0 ?_
  unfold fn at post
  rw [if_pos hds] at post
  have hkk : ∀ σ' : L2.St, Lk L (L2.start N vs) σ' → ∀ i ∈ L, i < n → σ'[i]? = some (vs[i]?) := fun σ' k i hi hn' => by
    rw [k.2 i hi]; exact start_at (by omega)
  have hS : ∀ b, jn Em R b → Pg b := fun b q => q.elim (fun q => q.elim) fun ⟨i, q⟩ => c i b q
  have hR : ∀ {P' : Rg} {R' : Nat → Rg} (b : Addr), jn P' (fun i b => i ∈ L ∧ i < n ∧ R' i b) b → jn P' R' b := fun b q => q.elim .inl fun ⟨i, q⟩ => .inr ⟨i, q.2.2⟩
  cases em : mb (ds.map some ++ List.replicate (N.length - n) none) with
  | fail => rw [em] at post; exact post.elim
  | brk st1 => rw [em] at post; exact post.elim
  | cont st1 => rw [em] at post; exact post.elim
  | next st1 =>
    rw [em] at post
    intro Hf1 H1 R1 σ1 t1 p1 k1
    exact post Hf1 H1 Em _ .non ((t1.more hS).less hR) (p1.params hl (hkk σ1 k1) .non fun _ q => q)
  | ret d st1 =>
    rw [em] at post
    intro Hf1 H1 P1 R1 σ1 v t1 p1 k1
    exact post Hf1 H1 P1 _ v ((t1.more hS).less hR) (p1.params hl (hkk σ1 k1) p1.pend fun _ q => q)
  | exc x st1 =>
    rw [em] at post
    intro Hf1 H1 R1 σ1 cls dd t1 p1 k1
    exact wX_of (takes_of rfl rfl rfl rfl) (post Hf1 H1 _ cls dd ((t1.more hS).less hR) (p1.params hl (hkk σ1 k1) p1.pend fun _ q => q))
theorem FnG.imp {CX : CXT} {k : Nat} {f : Addr} {sp sp' : Sp} (F : FnG P w K mg base CX k f sp) (h : ∀ vs H Q E, sp' vs H Q E → sp vs H Q E) : FnG P w K mg base CX k f sp' :=
  fun A outer s H us vs Q E hr e0 r hs => F A outer s H us vs Q E hr e0 r (h _ _ _ _ hs)
theorem fn_okG {x qual : Str} {st : Stmt} {f : Addr} {fd : FuncData} {N ps : List Str} {k n : Nat} {mb : MS} (F : Fun K x qual st f fd) (B : Binds K fd ps []) (S : FnScope N ps (defScope st)) (hn : ps.length = n)
    (hb : ∀ (cdv : Value) (A : Around) (outer : List Env) (s : Shared) (H : Hp) (E : XK), RoomG k (A.deeper (envOfC qual (defScope st) s.heap.objs.size f cdv)) →
      CSs ca (cxOf (L2.CX P w) P w K mg base N qual (defScope st) f cdv A outer s H E) L (defBody st) mb) : FnG P w K mg base (L2.CX P w) (k + 1) f (spM ca K (fn n N.length L mb)) := by
  obtain ⟨oc, od, kV, doc, pm, an, cdv, ct, osl, rfl, lk, hcd⟩ := F.ex
  have F' : Fun K x qual st f (PySem.W.fnOf x qual (defArgs st) (defBody st) (defScope st) .none kV doc pm an cdv ct) := F
  intro A outer s H us vs Q E hr e0 r h
  have hl := spM_len h
  have KX : K.In s.heap := e0.mod.kin.keeps fun b o e => (e0.bs b o e).1
  refine StX.run_bnd lk hcd S hr.2 e0 (G := fun xs H2 => xs = vs ∧ H2 = H) (fun A' Ex Q' hq => ?_) fun s2 H2 xs ⟨e1, e2⟩ hr' => ?_
  · have b := B s us KX (by rw [List.append_nil, ← r.length, hl, hn])
    rw [List.append_nil] at b
    exact b _ _ _ _ (hq s H vs us e0 Un.refl rfl (fun _ _ z => z) r (by rw [hl, hn]) ⟨rfl, rfl⟩)
  · subst e1 e2
    exact fn_body F' S hn hb ⟨hr.1, hr'⟩ h
end
end DL

/-! DL30: t[::-1] of a tuple; slices of lists and tuples; classmethods; a class at a slot called. -/
namespace DL
open PySem L2 PyProof.Rows
section
variable {prog : Program} {w : World} {A : Around} {E : Value → Shared → Prop} {s : Shared}
end
section
variable {ca : Nat → Addr} {Hf H Hf1 H1 Hf2 H2 : Hp} {S P P1 P2 : Rg} {R R1 R2 : Nat → Rg} {σ : L2.St} {st : Sl} {v : V} {d : D} {vs : List V} {ds : List D} {X : Cx} {L : List Nat}
end
end DL

/-! DL31: where a statement stands in a def; slices of lists and tuples; classmethods; a class at a slot called. -/
namespace DL
open PySem L2 PyProof.Rows
def nthS (ss : List Stmt) (i : Nat) : Stmt := ss.getD i (.Pass ⟨0, 0, 0, 0⟩)
def forB : Stmt → List Stmt
  | .For _ _ b _ _ => b
  | _ => []
def ifB : Stmt → List Stmt
  | .If _ b _ _ => b
  | _ => []
/-- xs[lo:hi], a list or a tuple -/
def cutA (lo hi : Option Int) : List D → Option Out
  | [.tup xs] => if HT.sIx xs.length 0 lo = 0 ∧ HT.sIx xs.length xs.length hi = xs.length then some (.val (.tup xs)) else if xs.length ≤ 16777216 then some (.newT (cutD xs lo hi)) else none
  | ds => cutO lo hi ds
def oS10 : List D → Option Out
  | [x, .int a] => cutA (some a) none [x]
  | _ => none
def oS01 : List D → Option Out
  | [x, .int b] => cutA none (some b) [x]
  | _ => none
def rSlZ (K : PySem.W.Frag) : V → Option Int → Option Int → Hp → VK → Prop := fun x lo hi H Q => rSlL K x lo hi H Q ∨ rSlA K x lo hi H Q
section
variable {ca : Nat → Addr} {K : PySem.W.Frag} {Hf H Hf1 H1 Hf2 H2 : Hp} {S P P1 P2 : Rg} {R R1 R2 : Nat → Rg} {σ : L2.St} {st : Sl} {v : V} {d : D} {vs : List V} {ds : List D} {X : Cx} {L : List Nat}
theorem sl_any : SlR X (rSlZ X.K) := SlR.or sl_list sl_tupA
theorem os_cutA {lo hi : Option Int} {x : D} {o : Out} {Q : VK} (hx : Ex Hf H) (r1 : Rep ca K Hf H S v x) (h : cutA lo hi [x] = some o) (q : OutQ ca K Hf H o Q) : rSlZ K v lo hi H Q := by
  cases x with
  | tup xs =>
    right
    obtain ⟨a, vs, rfl, e2, r3⟩ := rep_tup hx r1
    have hl := r3.length
    refine ⟨a, vs, rfl, (show SqT K H a vs from .inl (.inl e2)), fun hw => ?_, fun hw p hp => ?_⟩
    · rw [hl] at hw
      dsimp only [cutA] at h
      rw [if_pos hw] at h
      cases h
      exact q _ (r1.cold rfl)
    · rw [hl] at hw
      dsimp only [cutA] at h
      rw [if_neg hw] at h
      split at h
      · cases h
        refine q p _ hp ?_
        obtain ⟨_, B, _, r4, _, hB, _⟩ := repL_cutAt (HT.sIx vs.length 0 lo) r3
        obtain ⟨A, _, r5, _, hA, _, _⟩ := repL_cutAt (HT.sIx vs.length vs.length hi - HT.sIx vs.length 0 lo) r4
        have r6 := r5.mono (S' := Em) fun b z => hB b (hA b z)
        unfold cutV cutD
        rw [← hl]
        exact r6
      · cases h
  | _ => exact .inl (os_cut hx r1 h q)
theorem ce_s10 {e a : Expr} {oe oa : Opd} {p2 pos : Pos} (he : CO ca X e oe) (ha : CO ca X a oa) : CE ca X (.Subscript e (.Slice (some a) none none p2) pos) (eOp oS10 [oe, oa]) :=
  ce_op (es := [e, a]) (rl := rl2 fun x y H Q => ∃ i, y = .int i ∧ rSlZ X.K x (some i) none H Q) (fun σ H Q h => we_of (pe_slice sl_any (we_pe X e) (po_some (we_pe X a)) po_none) h) (.cons he (.cons ha .nil)) fun Hf H vs ds o Q hx rd h q => by
    match ds, h with
    | [x, .int i], h =>
      obtain ⟨v, w, S, S', e1, r1, r2⟩ := rdl2 rd rfl
      subst e1
      exact ⟨i, rep_int r2, os_cutA hx r1 h q⟩
theorem ce_s01 {e a : Expr} {oe oa : Opd} {p2 pos : Pos} (he : CO ca X e oe) (ha : CO ca X a oa) : CE ca X (.Subscript e (.Slice none (some a) none p2) pos) (eOp oS01 [oe, oa]) :=
  ce_op (es := [e, a]) (rl := rl2 fun x y H Q => ∃ i, y = .int i ∧ rSlZ X.K x none (some i) H Q) (fun σ H Q h => we_of (pe_slice sl_any (we_pe X e) po_none (po_some (we_pe X a))) h) (.cons he (.cons ha .nil)) fun Hf H vs ds o Q hx rd h q => by
    match ds, h with
    | [x, .int i], h =>
      obtain ⟨v, w, S, S', e1, r1, r2⟩ := rdl2 rd rfl
      subst e1
      exact ⟨i, rep_int r2, os_cutA hx r1 h q⟩
end
end DL

/-! DL32: classmethods called; a class at a slot called; calls and instances made by FnR. -/
namespace DL
open PySem L2 PyProof.Rows
section
variable {ca : Nat → Addr} {Hf H Hf1 H1 Hf2 H2 : Hp} {S P P1 P2 : Rg} {R R1 R2 : Nat → Rg} {σ : L2.St} {st : Sl} {v : V} {d : D} {vs : List V} {ds : List D} {X : Cx} {L : List Nat}
theorem run_makeG {CX : CXT} {k : Nat} {f C : Addr} {sp : Sp} {E : XK} {pins : List (Addr × Obj)} {s : Shared} {Q : VK} {us : List Value}
    (M : Mk X.K C f) (F : FnG X.prog X.w X.K X.mg X.base CX k f sp) (hr : RoomG (k + 1) X.A) (hx : PassesAt CX X σ E) (I : Inv X pins σ H s) (r : Vals vs us)
    (h : ∀ x dx, H x = none → H dx = none → dx ≠ x → sp (.ref x :: vs) (upd (upd H dx (.own x)) x (.ins C dx [])) (fun v H2 => v = .non ∧ Q (.ref x) H2) E) : wpAny (model X.prog X.w) X.A (call (.ref C) us) (EP X pins σ Q) X.xe s := by
  have wish := h (s.heap.objs.size + 1) s.heap.objs.size (I.hok.fresh (Nat.le_succ _)) (I.hok.fresh (Nat.le_refl _)) (Nat.ne_of_lt (Nat.lt_succ_self _))
  have J := Inv.made (C := C) I
  have rs : Vals (V.ref (s.heap.objs.size + 1) :: vs) (Value.ref (s.heap.objs.size + 1) :: us) := .cons rfl r
  refine wpAny_call (make_map (f := f) I.kIn M.makes M.init (beq_iff_eq.mp M.fn) (codeAny_mono (F _ X.stack _ _ _ _ _ E (hr.make C us []) (J.env0.make C us []) rs wish) fun res s' got => ?_))
  cases res with
  | error e => exact hx pins _ _ e s' J got
  | ok fl => cases fl with
    | ret u =>
      obtain ⟨v, H', I3, rv, ev, q3⟩ := J.after got
      subst ev
      exact ⟨rv, ⟨V.ref (s.heap.objs.size + 1), H', I3, rfl, q3⟩⟩
    | next => exact got.elim
    | brk => exact got.elim
    | cont => exact got.elim
/-- f(e, ..), by FnR -/
theorem ce_callR {k : Nat} {f : Addr} {x : Str} {p pos : Pos} {e : Expr} {es : List Expr} {m : MF} {ms : MA} (F : FnG X.prog X.w X.K X.mg X.base (L2.CX X.prog X.w) k f (spM ca X.K m)) (hr : RoomG k X.A) (hg : Gl X x) (hm : X.mg x = some (.ref f))
    (hk : PySem.W.keepIn X.K (.ref f) = true) (ha : CL ca X (e :: es) ms) (hst : NoStar (e :: es)) (hdb : (x == ("__debug__" : Str)) = false := by decide) (hpl : (backTo pos (starEach es X.env)).any (·.1) = false := by rfl) :
    CE ca X (.Call (.Name x p) (e :: es) [] pos) (eCall m ms) := fun Hf H R σ st Q pr h => by
  have hw : Wa X (e :: es) σ H fun vs H1 => spM ca X.K m vs H1 Q (fun cls dd H' => wX X cls dd σ H') := by
    refine wa_wl (fun e' r' q => noStar_suf hst e' r' q _) (ha Hf H R σ st _ pr ?_)
    unfold eCall at h
    cases e1 : ms st with
    | fail => rw [e1] at h; exact h
    | exc x st1 => rw [e1] at h; exact h
    | ok ds st1 =>
      rw [e1] at h
      intro Hf1 H1 P1 R1 vs t1 p1
      exact ⟨Hf1, P1, ds, p1.pend, p1.w.mono fun b q => .inl q, postC_of p1 (Post.from t1 h)⟩
  refine ⟨fun pins s I => ?_⟩
  refine wpAny_Call_Name_kw (ld_glob I hg hm ?_ hdb)
  refine PySem.W.callWith_K (h₀ := X.base) I.ok.mod.kin hk
    (thn (hw pos pins s I) fun us s1 ⟨vs, H1, I1, r, q⟩ => ⟨I1.kIn, ?_⟩) (hst.1 _) hpl
  exact wpAny_call (run_fnRS F hr (passAt (takes_wX X) σ) I1 r q)
end
end DL

/-! DL33: repr of what is no container; texts compared. -/
namespace DL
open PySem L2 PyProof.Rows
section
variable {ca : Nat → Addr} {K : PySem.W.Frag} {Hf H Hf1 H1 : Hp} {S : Rg} {X : Cx} {v : V} {d : D}
end
theorem oS01_scr (l : List Int) (j : Int) (hl : l.length ≤ 63) : ∃ k, oS01 [.scr l, .int j] = some (.newL (nums k)) := oSl01_scr l j hl
theorem cutD_nums (l : List Int) (lo hi : Option Int) : cutD (nums l) lo hi = nums ((l.drop (HT.sIx l.length 0 lo)).take (HT.sIx l.length l.length hi - HT.sIx l.length 0 lo)) := by
  unfold cutD
  rw [nums_len]
  unfold nums
  rw [List.map_take, List.map_drop]
theorem s10_n {o : Bool} {p : List Int} {j : Int} {k : Nat} (hj : j = (k : Int)) (hp : p.length ≤ 16777216) : oS10 [.lst o (nums p), .int j] = some (.newL (nums (p.drop k))) := by
  subst hj
  show newLc (cutD (nums p) (some (k : Int)) none) = _
  rw [cutD_nums]
  have e1 : HT.sIx p.length 0 (some (k : Int)) = min k p.length := by
    show (if (k : Int) < 0 then ((k : Int) + (p.length : Int)).toNat else min (k : Int).toNat p.length) = _
    rw [if_neg (by omega), Int.toNat_natCast]
  have e2 : HT.sIx p.length p.length none = p.length := rfl
  rw [e1, e2]
  have e3 : (p.drop (min k p.length)).take (p.length - min k p.length) = p.drop k := by
    by_cases h : k ≤ p.length
    · rw [Nat.min_eq_left h, List.take_of_length_le (by rw [List.length_drop]; omega)]
    · rw [Nat.min_eq_right (by omega), List.drop_length, List.take_nil, List.drop_of_length_le (by omega)]
  rw [e3]
  unfold newLc
  rw [nums_colds, nums_len, List.length_drop]
  exact if_pos (by simp; omega)
theorem s01_n {o : Bool} {p : List Int} {j : Int} {k : Nat} (hj : j = (k : Int)) (hp : p.length ≤ 16777216) : oS01 [.lst o (nums p), .int j] = some (.newL (nums (p.take k))) := by
  subst hj
  show newLc (cutD (nums p) none (some (k : Int))) = _
  rw [cutD_nums]
  have e1 : HT.sIx p.length p.length (some (k : Int)) = min k p.length := by
    show (if (k : Int) < 0 then ((k : Int) + (p.length : Int)).toNat else min (k : Int).toNat p.length) = _
    rw [if_neg (by omega), Int.toNat_natCast]
  have e2 : HT.sIx p.length 0 none = 0 := rfl
  rw [e1, e2, List.drop_zero, Nat.sub_zero]
  have e3 : p.take (min k p.length) = p.take k := by
    by_cases h : k ≤ p.length
    · rw [Nat.min_eq_left h]
    · rw [Nat.min_eq_right (by omega), List.take_length, List.take_of_length_le (by omega)]
  rw [e3]
  unfold newLc
  rw [nums_colds, nums_len, List.length_take]
  exact if_pos (by simp; omega)
end DL

/-! DL34: the splitting into descending runs; the one normal word of an effect. -/
namespace Nw
open DL
end Nw

/-! DL35: calls with a slot lent, instances made, ==, len, the law's end, by FnG; repr of data. -/
namespace DL
open PySem L2 PyProof.Rows
section
variable {ca : Nat → Addr} {K : PySem.W.Frag} {Hf H Hf1 H1 Hf2 H2 : Hp} {S S1 S2 P P1 P2 : Rg} {R R1 R2 : Nat → Rg} {pp qq : Prop} {σ σ' : L2.St} {st st' : Sl} {v w : V} {d e : D} {vs : List V} {ds xs : List D} {X : Cx} {L : List Nat}
theorem ce_callLG {k : Nat} {f : Addr} {x : Str} {p pos : Pos} {e0 : Expr} {es : List Expr} (es1 fs : List Expr) (e : Expr) {i : Nat} {m : MF} {ms ns : MA} (F : FnG X.prog X.w X.K X.mg X.base (L2.CX X.prog X.w) k f (spM ca X.K m)) (hr : RoomG k X.A) (hg : Gl X x) (hm : X.mg x = some (.ref f))
    (hk : PySem.W.keepIn X.K (.ref f) = true) (ha : CL ca X es1 ms) (he : PE X e (tVar i)) (hbs : CL ca X fs ns) (hes : e0 :: es = es1 ++ e :: fs) (hst : NoStar (e0 :: es)) (hdb : (x == ("__debug__" : Str)) = false := by decide) (hpl : (backTo pos (starEach es X.env)).any (·.1) = false := by rfl) :
    CE ca X (.Call (.Name x p) (e0 :: es) [] pos) (eCallL m ms i ns) := fun Hf H R σ st Q pr h => by
  have hw : Wa X (e0 :: es) σ H fun vs H1 => spM ca X.K m vs H1 Q (fun cls dd H' => wX X cls dd σ H') := by
    refine wa_wl (fun e' r' q => noStar_suf hst e' r' q _) ?_
    rw [hes]
    exact lent_args (E := fun σ cls dd H' => wX X cls dd σ H') ha he hbs pr h rfl
  refine ⟨fun pins s I => ?_⟩
  refine wpAny_Call_Name_kw (ld_glob I hg hm ?_ hdb)
  refine PySem.W.callWith_K (h₀ := X.base) I.ok.mod.kin hk
    (thn (hw pos pins s I) fun us s1 ⟨vs, H1, I1, r, q⟩ => ⟨I1.kIn, ?_⟩) (hst.1 _) hpl
  exact wpAny_call (run_fnRS F hr (passAt (takes_wX X) σ) I1 r q)
theorem ce_makeG {k C : Nat} {f : Addr} {x : Str} {p pos : Pos} {e : Expr} {es : List Expr} {m : MF} {ms : MA} (M : Mk X.K (ca C) f) (F : FnG X.prog X.w X.K X.mg X.base (L2.CX X.prog X.w) k f (spM ca X.K m)) (hr : RoomG (k + 1) X.A) (hg : Gl X x) (hm : X.mg x = some (.ref (ca C)))
    (ha : CL ca X (e :: es) ms) (hst : NoStar (e :: es)) (hdb : (x == ("__debug__" : Str)) = false := by decide) (hpl : (backTo pos (starEach es X.env)).any (·.1) = false := by rfl) :
    CE ca X (.Call (.Name x p) (e :: es) [] pos) (eMake C m ms) := fun Hf H R σ st Q pr h => by
  have hw : Wa X (e :: es) σ H fun vs H1 => ∀ x dx, H1 x = none → H1 dx = none → dx ≠ x → spM ca X.K m (.ref x :: vs) (upd (upd H1 dx (.own x)) x (.ins (ca C) dx [])) (fun v H2 => v = .non ∧ Q (.ref x) H2) (fun cls dd H' => wX X cls dd σ H') := by
    refine wa_wl (fun e' r' q => noStar_suf hst e' r' q _) (ha Hf H R σ st _ pr ?_)
    unfold eMake at h
    cases e1 : ms st with
    | fail => rw [e1] at h; exact h
    | exc x st1 => rw [e1] at h; exact h
    | ok ds st1 =>
      rw [e1] at h
      intro Hf1 H1 P1 R1 vs t1 p1 x dx n1 n2 n3
      exact postC_make p1 n1 n2 n3 (Post.from t1 h)
  refine ⟨fun pins s I => ?_⟩
  refine wpAny_Call_Name_kw (ld_glob
      I hg hm ?_ hdb)
  refine PySem.W.callWith_K (h₀ := X.base) I.ok.mod.kin M.kp (thn (hw pos pins s I) fun us s1 ⟨vs, H1, I1, r, q⟩ => ⟨I1.kIn, ?_⟩) (hst.1 _) hpl
  exact run_makeG M F hr (passAt (takes_wX X) σ) I1 r q
/-! ### a law's end -/
theorem law_base {P : Program} {w : World} {K : PySem.W.Frag} {mg mb : Str → Option Value} {k : Nat} {fa a : Addr} {sp : Sp} {s₁ : Shared} {vs : List Value} {H : Hp}
    (KX : K.In s₁.heap) (hns : s₁.heap.Ns mainGlobals mg) (hb : s₁.heap.Ns builtinsNs mb) (hbb : ∀ x : Str, x ≠ "__name__" → mb x = bootBuiltins x) (hlim : s₁.heap.NoLimit) (hg : s₁.gens = #[])
    (ha : s₁.heap.get? a = some { cls := .type "list", data := .seq vs.toArray }) (hr : RoomG k callerA)
    (F : ∀ base : Heap, K.In base → base.Ns mainGlobals mg → FnG P w K mg base (L2.CX P w) k fa sp) (hq : sp [.ref a] H (fun v _ => v = .bl true) fun _ _ _ => False)
    (hCX : ∀ e s', L2.CX P w [] H s₁ (fun _ _ _ => False) e s' → False) (hO : Only H) (hok : HOk P w H s₁.heap) (hA : ∀ b, H b ≠ none → b = a) (hK : H a ≠ none → K.lookup a = none) :
    codeAny (model P w) callerA (.call (.ref fa) ⟨[.ref a], []⟩) (fun r s' => r = .ok (.ret (.bool true)) ∧ OldK s₁.heap s'.heap ∧ s'.os = s₁.os ∧ AllBare s'.gens) s₁ := by
  have only : ∀ {b : Addr}, H b ≠ none → ∀ {o : Obj}, s₁.heap.get? b = some o → b = a ∧ o = { cls := .type "list", data := .seq vs.toArray } := fun {b} q o e => by
    have z := hA b q
    subst z
    rw [ha] at e
    exact ⟨rfl, (Option.some.inj e).symm⟩
  have free : ∀ {b : Addr} {o : Obj} {es : Array DictEntry} {ep : Nat}, s₁.heap.get? b = some o → o.data = .dict es ep → H b = none := fun {b o es ep} e dd =>
    Classical.byContradiction fun q => by
      obtain ⟨_, z⟩ := only q e
      subst z
      have z2 : Data.seq vs.toArray _ = Data.dict es ep := dd
      cases z2
  have ns : ∀ {b : Addr} {m : Str → Option Value}, s₁.heap.Ns b m → (hidT s₁.heap H).Ns b m :=
    fun {b m} ⟨o, es, ep, e, dd, r⟩ => ⟨o, es, ep, hidT_get e (free e dd), dd, r⟩
  have kin : K.In (hidT s₁.heap H) := fun b o e => hidT_get (KX b o e) (Classical.byContradiction fun q => by
    have z := hA b q
    subst z
    rw [hK q] at e
    cases e)
  have md : Mod K mg (hidT s₁.heap H) := ⟨kin, ns hns, ⟨mb, ns hb, hbb⟩, let ⟨mc, h1, h2⟩ := hlim; ⟨mc, ns h1, h2⟩⟩
  have nil : ∀ b : Addr, ¬ b ∈ ([] : List Addr) := fun b z => by cases z
  have e0 : Env0 P w K mg (hidT s₁.heap H) callerA [] s₁ H :=
    ⟨rfl, md, fun b o e => of_hidT e, Nat.le_of_eq (hidT_size _ _), trivial, fun b z => absurd z (nil b), hok, .of_eq hg⟩
  refine codeAny_mono (F _ kin (ns hns) callerA [] s₁ H [.ref a] [.ref a] _ _ hr e0 (.cons rfl .nil) hq) fun r s' h => ?_
  cases r with
  | error e => exact (hCX e s' h).elim
  | ok fl =>
    cases fl with
    | next => exact h.elim
    | brk => exact h.elim
    | cont => exact h.elim
    | ret u =>
      obtain ⟨v, H', os, bare, un, hok', r', q⟩ := h
      have q' : v = .bl true := q
      subst q'
      obtain rfl : u = Value.bool true := r'
      refine ⟨rfl, OldK.of_keep fun b o e => ?_, os, bare⟩
      rcases hO b with z | ⟨ob, xs, z⟩
      · exact un.keep b o e z (nil b) (nil b)
      · obtain ⟨e1, _⟩ := hok b _ z
        obtain ⟨e2, _⟩ := hok' b _ (un.frzs b ob _ z)
        rw [e] at e1
        cases e1
        exact e2
theorem law_callG {P : Program} {w : World} {K : PySem.W.Frag} {mg mb : Str → Option Value} {k : Nat} {fa a : Addr} {sp : Sp} {s₁ : Shared} {vs : List Value} {ns : List Int}
    (KX : K.In s₁.heap) (hns : s₁.heap.Ns mainGlobals mg) (hb : s₁.heap.Ns builtinsNs mb) (hbb : ∀ x : Str, x ≠ "__name__" → mb x = bootBuiltins x) (hlim : s₁.heap.NoLimit) (hg : s₁.gens = #[])
    (ha : s₁.heap.get? a = some { cls := .type "list", data := .seq vs.toArray }) (hi : IntsAre vs ns) (hl : ns.length ≤ sizeLine) (hr : RoomG k callerA)
    (F : ∀ base : Heap, K.In base → base.Ns mainGlobals mg → FnG P w K mg base (L2.CX P w) k fa sp)
    (hsp : ∀ H : Hp, Only H → SqL K H a (ns.map V.int) → sp [.ref a] H (fun v _ => v = .bl true) fun _ _ _ => False)
    (hCX : ∀ H e s', L2.CX P w [] H s₁ (fun _ _ _ => False) e s' → False) :
    codeAny (model P w) callerA (.call (.ref fa) ⟨[.ref a], []⟩) (fun r s' => r = .ok (.ret (.bool true)) ∧ OldK s₁.heap s'.heap ∧ s'.os = s₁.os ∧ AllBare s'.gens) s₁ := by
  have rv := vals_ints hi
  have lv := hi.length
  have go : ∀ H : Hp, Only H → SqL K H a (ns.map V.int) → HOk P w H s₁.heap → (∀ b, H b ≠ none → b = a) → (H a ≠ none → K.lookup a = none) → _ :=
    fun H hO hS hok hA hK => law_base KX hns hb hbb hlim hg ha hr F (hsp H hO hS) (hCX H) hO hok hA hK
  cases hk : K.lookup a with
  | some o =>
    have e := KX a o hk
    rw [ha] at e
    cases e
    have lit : vs.toArray.size ≤ sizeLine := by
      rw [List.size_toArray, lv]
      exact hl
    exact go (fun _ => none) (fun _ => .inl rfl) (.inr ⟨_, vs.toArray, _, hk, rfl, rfl, rfl, lit, by simpa using rv⟩)
      (fun b u z => nomatch z) (fun b z => absurd rfl z) fun z => absurd rfl z
  | none =>
    obtain ⟨H, h1, h2⟩ : ∃ H : Hp, H a = some (.frz { cls := .type "list", data := .seq vs.toArray } (.lst (ns.map V.int))) ∧ ∀ b, b ≠ a → H b = none :=
      ⟨fun b => if b = a then some (.frz { cls := .type "list", data := .seq vs.toArray } (.lst (ns.map V.int))) else none, if_pos rfl, fun b z => if_neg z⟩
    refine go H (fun b => ?_) (.inl (.inr ⟨_, h1⟩)) (fun b u z => ?_) (fun b z => Classical.byContradiction fun q => z (h2 b q)) fun _ => hk
    · by_cases q : b = a
      · subst q
        exact .inr ⟨_, _, h1⟩
      · exact .inl (h2 b q)
    · by_cases q : b = a
      · subst q
        rw [h1] at z
        cases z
        exact ⟨ha, by rw [List.length_map]; exact hl, vs, _, rv, ha⟩
      · rw [h2 b q] at z
        cases z
theorem walk_lawG {l : PySem.W.OpenLaw} {k : Nat} {q : Program} {loose : List Str} {XP : (Str → Option Value) → Heap → Prop} {YP : World → Heap → Prop} {d : DefRec} {K : Params → PySem.W.Frag} {m : MF}
    (hn : l.most = some 63) (hdf : d.params.defaults = []) (hr : Room k callerA) (hY : ∀ (w : World) (h : Heap), YP w h → (K w.params).In h)
    (F : ∀ (w : World) (mg : Str → Option Value) (fa : Addr) (h : Heap),
        (K w.params).In h → h.Ns mainGlobals mg → mg d.name = some (.ref fa) →
      ∃ (ca : Nat → Addr), ∀ base : Heap, (K w.params).In base → base.Ns mainGlobals mg → FnG l.prog w (K w.params) mg base (L2.CX l.prog w) k fa (spM ca (K w.params) m))
    (hm : ∀ ns : List Int, ns.length ≤ 63 → ∃ ps, m [.scr ns] = .ok (.bl true) ps) :
    PySem.W.WalkO q loose XP YP l.row.toRowW d [] (fun f vs => PySem.call f vs) := by
  refine Att.attach_call hn hdf fun w s₀ s₁ mg mb fa o pm cd doc a vs ns G Y ho hd hcd hmg hobj hints hlen hg => ?_
  obtain ⟨ca, h5⟩ := F w mg fa _ (hY w _ Y) G.T.g hmg
  exact law_callG (hY w _ Y) G.T.g G.T.b G.T.builtins G.T.nolimit hg hobj hints (Nat.le_trans hlen (by decide)) ⟨rfl, hr⟩ h5 (fun H hO hS => sp_law hm H a ns hlen hS) fun H e s' h => law_cx h
end
end DL

/-! DL36: repr of data. -/
namespace DL
open PySem L2 PyProof.Rows
/-- what repr takes -/
def rpOk (p : PyData) : Bool := p.canLay0 && p.showable && !p.hasDict && decide (p.depth ≤ 64) && decide (p.shown.length ≤ 16777216)
def oRepr : List D → Option Out
  | [x] => if rpOk (toPy x) then some (.val (.str (toPy x).shown)) else none
  | _ => none
section
variable {ca : Nat → Addr} {K : PySem.W.Frag} {Hf H Hf1 H1 : Hp} {S : Rg} {X : Cx} {v : V} {d : D}
end
end DL

/-! DL37: zip; << >> &; walks of a list or a tuple. -/
namespace DL
open PySem L2 PyProof.Rows
section
variable {ca : Nat → Addr} {K : PySem.W.Frag} {Hf H Hf1 H1 Hf2 H2 : Hp} {S S1 S2 P P1 P2 : Rg} {R R1 R2 : Nat → Rg} {σ : L2.St} {st : Sl} {v : V} {d : D} {vs us : List V} {ds xs ys : List D} {X : Cx} {L : List Nat}
end
end DL

/-! DL38: how a def with a starred parameter binds. -/
namespace DL
open PySem PySem.Spec PyProof.Rows L2
end DL

/-! DL39: tuple * int. -/
namespace DL
open PySem PySem.Spec PyProof.Rows L2
open AutoSeq1 (wpAny_loadPart')
section
variable {X : Cx}
end
section
variable {ca : Nat → Addr} {K : PySem.W.Frag} {Hf H Hf1 H1 : Hp} {S S1 : Rg} {X : Cx} {v : V} {d : D}
end
end DL

/-! DL40: equality of data by what it stands for. -/
namespace DL
open PySem (PyData)
/-- a type whose values stand for data -/
class Py (α : Type) where
  py : α → PyData
  dep : Nat
  lay : ∀ a, (py a).canLay0 = true
  depth : ∀ a, (py a).depth ≤ dep
  eqv : ∀ a b, PyData.eqv (py a) (py b) = true ↔ a = b
theorem layA : ∀ {l : List PyData}, (∀ p ∈ l, p.canLay0 = true) → PyData.canLayAll0 l = true
  | [], _ => by rw [PyData.canLayAll0]
  | a :: l, h => by rw [PyData.canLayAll0, h a List.mem_cons_self, layA fun p hp => h p (List.mem_cons_of_mem _ hp)]; rfl
theorem depA {n : Nat} : ∀ {l : List PyData}, (∀ p ∈ l, p.depth ≤ n) → PyData.depthAll l ≤ n
  | [], _ => by rw [PyData.depthAll]; omega
  | a :: l, h => by
    rw [PyData.depthAll]
    have h1 := h a List.mem_cons_self
    have h2 := depA fun p hp => h p (List.mem_cons_of_mem _ hp)
    omega
theorem eqvA {α : Type} [Py α] : ∀ l k : List α, PyData.eqvAll (l.map Py.py) (k.map Py.py) = true ↔ l = k
  | [], [] => by rw [List.map_nil, PyData.eqvAll]; simp
  | [], b :: k => by rw [List.map_nil, List.map_cons, PyData.eqvAll]; simp
  | a :: l, [] => by rw [List.map_nil, List.map_cons, PyData.eqvAll]; simp
  | a :: l, b :: k => by rw [List.map_cons, List.map_cons, PyData.eqvAll, Bool.and_eq_true, Py.eqv, eqvA l k]; simp
instance : Py Int where
  py := .int
  dep := 0
  lay _ := by rw [PyData.canLay0]
  depth _ := by rw [PyData.depth]; omega
  eqv a b := by rw [PyData.eqv]; simp
instance : Py Bool where
  py := .bool
  dep := 0
  lay _ := by rw [PyData.canLay0]
  depth _ := by rw [PyData.depth]; omega
  eqv a b := by rw [PyData.eqv]; simp
instance {α : Type} [Py α] : Py (List α) where
  py l := .list (l.map Py.py)
  dep := Py.dep α + 1
  lay l := by
    rw [PyData.canLay0]
    exact layA fun p hp => by
      obtain ⟨a, _, rfl⟩ := List.mem_map.mp hp
      exact Py.lay a
  depth l := by
    rw [PyData.depth]
    have := depA (l := l.map Py.py) (n := Py.dep α) fun p hp => by
      obtain ⟨a, _, rfl⟩ := List.mem_map.mp hp
      exact Py.depth a
    omega
  eqv l k := by rw [PyData.eqv]; exact eqvA l k
instance {α β : Type} [Py α] [Py β] : Py (α × β) where
  py x := .tuple [Py.py x.1, Py.py x.2]
  dep := max (Py.dep α) (Py.dep β) + 1
  lay x := by
    rw [PyData.canLay0, PyData.canLayAll0, PyData.canLayAll0, PyData.canLayAll0, Py.lay, Py.lay]
    rfl
  depth x := by
    rw [PyData.depth, PyData.depthAll, PyData.depthAll, PyData.depthAll]
    have h1 := Py.depth x.1
    have h2 := Py.depth x.2
    omega
  eqv x y := by
    rw [PyData.eqv, PyData.eqvAll, PyData.eqvAll, PyData.eqvAll, Bool.and_true, Bool.and_eq_true, Py.eqv, Py.eqv]
    exact ⟨fun h => Prod.ext h.1 h.2, fun h => by rw [h]; exact ⟨rfl, rfl⟩⟩
/-- a tuple of likes -/
structure Tp (α : Type) where
  l : List α
  deriving DecidableEq
instance {α : Type} [Py α] : Py (Tp α) where
  py x := .tuple (x.l.map Py.py)
  dep := Py.dep α + 1
  lay x := by
    rw [PyData.canLay0]
    exact layA fun p hp => by
      obtain ⟨a, _, rfl⟩ := List.mem_map.mp hp
      exact Py.lay a
  depth x := by
    rw [PyData.depth]
    have := depA (l := x.l.map Py.py) (n := Py.dep α) fun p hp => by
      obtain ⟨a, _, rfl⟩ := List.mem_map.mp hp
      exact Py.depth a
    omega
  eqv x y := by
    rw [PyData.eqv, eqvA]
    obtain ⟨a⟩ := x
    obtain ⟨b⟩ := y
    simp
/-! walks of a list or a tuple -/
section
open PySem L2 PyProof.Rows
def iOr (a b : TI) : TI := fun σ H R => a σ H R ∨ b σ H R
theorem pi_or {X : Cx} {tg e : Expr} {a b : TI} (h1 : PI X tg e a) (h2 : PI X tg e b) : PI X tg e (iOr a b) :=
  ⟨fun pins s σ H R I h => h.elim (h1.run pins s σ H R I) (h2.run pins s σ H R I)⟩
/-- enumerate of a list or a tuple -/
def iEnA (m : ME) : Sl → Res (List D) := fun st => match m st with
  | .ok (.tup _) _ => iEnT m st
  | _ => iEn m st
/-- a list or a tuple -/
def iEA (m : ME) : Sl → Res (List D) := fun st => match m st with
  | .ok (.tup _) _ => iE m tupItems st
  | _ => iE m lstItems st
variable {ca : Nat → Addr} {X : Cx}
theorem ci_or {tg e : Expr} {a b : TI} {A B C : Sl → Res (List D)} (h1 : CI ca X tg e a A) (h2 : CI ca X tg e b B) (hc : ∀ st, C st = A st ∨ C st = B st) : CI ca X tg e (iOr a b) C :=
  ⟨pi_or h1.1 h2.1, fun Hf H R σ st Q p h => by
    rcases hc st with q | q
    · exact .inl (h1.2 Hf H R σ st Q p (q ▸ h))
    · exact .inr (h2.2 Hf H R σ st Q p (q ▸ h))⟩
theorem iEnA_or (m : ME) (st : Sl) : iEnA m st = iEn m st ∨ iEnA m st = iEnT m st := by
  unfold iEnA
  split
  · exact .inr rfl
  · exact .inl rfl
end
end DL

/-! DL41: method calls, starred calls, short loops evaluated; lists of lists; steps far apart. -/
namespace DL
open PySem (Str)
theorem xMth {C : Nat} {nm : Str} {f : MF} {m0 : ME} {ms : MA} {st st1 st2 : Sl} {d0 d : D} {ds : List D} {ps : Sl} (h0 : m0 st = .ok d0 st1) (hi : insOf C nm d0 = true) (h : ms st1 = .ok ds st2) (hf : f (d0 :: ds) = .ok d ps) : eMth C nm f m0 ms st = .ok d st2 := by
  unfold eMth
  rw [h0]
  show (if insOf C nm d0 = true then _ else _) = _
  rw [if_pos hi, h]
  show (match f (d0 :: ds) with | .ok d _ => Res.ok d st2 | .exc x _ => .exc x st2 | .fail => .fail) = _
  rw [hf]
theorem forD_cons {g : MG} {body : MS} {d : D} {ds : List D} {st st1 st2 : Sl} {r : SR} (h1 : g d st = .ok () st1) (h2 : body st1 = .next st2) (h3 : forD g body ds st2 = r) : forD g body (d :: ds) st = r := by
  rw [forD, h1]
  show (match body st1 with | .next st2 => _ | .cont st2 => _ | .brk st2 => _ | r => r) = _
  rw [h2]
  exact h3
end DL
namespace Nw
open DL
/-- steps far apart -/
theorem far1 {l : List Int} {s t : Int} (h1 : 1 ≤ s) (h2 : s + 2 ≤ t) (h3 : t < l.length) : stp (stp l s) t = stp (stp l t) s := by
  have a := sN_comm (l := l) (i := (s - 1).toNat) (j := (t - 1).toNat) (by omega) (by omega) (by omega)
  unfold sN at a
  rw [show (((s - 1).toNat : Nat) : Int) + 1 = s by omega, show (((t - 1).toNat : Nat) : Int) + 1 = t by omega] at a
  exact a
theorem far2 : ∀ (a : List Int) {t : Int} (l : List Int), (∀ s ∈ a, 1 ≤ s ∧ s + 2 ≤ t) → t < l.length → runL a (stp l t) = stp (runL a l) t
  | [], _, _, _, _ => rfl
  | s :: a, t, l, h, ht => by
    show runL a (stp (stp l t) s) = stp (runL a (stp l s)) t
    obtain ⟨h1, h2⟩ := h s List.mem_cons_self
    rw [← far1 h1 h2 ht]
    exact far2 a (stp l s) (fun x hx => h x (List.mem_cons_of_mem _ hx)) (by rw [stp_len]; exact ht)
theorem far : ∀ (b a l : List Int), (∀ s ∈ a, ∀ t ∈ b, 1 ≤ s ∧ s + 2 ≤ t) → (∀ t ∈ b, t < l.length) → runL a (runL b l) = runL b (runL a l)
  | [], _, _, _, _ => rfl
  | t :: b, a, l, h, hl => by
    show runL a (runL b (stp l t)) = runL b (stp (runL a l) t)
    rw [far b a (stp l t) (fun s hs x hx => h s hs x (List.mem_cons_of_mem _ hx)) (fun x hx => by rw [stp_len]; exact hl x (List.mem_cons_of_mem _ hx)), far2 a l (fun s hs => h s hs t List.mem_cons_self) (hl t List.mem_cons_self)]
end Nw

/-! DL42: xs.extend(tuple). -/
namespace DL
open PySem PySem.Spec PyProof.Rows L2
open AutoSeq1 (wpAny_loadPart')
def ext2T : Option D → D → Option (List D)
  | some (.lst true xs), .tup ys => if colds ys && decide (xs.length + ys.length ≤ 16777216) then some (xs ++ ys) else none
  | _, _ => none
/-- xs.extend(tuple) -/
def eExtT (i : Nat) (m : ME) : ME := fun st => match getS st i with
  | some d0 => if isLst d0 then (m st).bind fun d st1 => (match ext2T (getS st1 i) d with
    | some zs => .ok .non (st1.set i (some (.lst true zs)))
    | none => .fail) else .fail
  | none => .fail
section
variable {ca : Nat → Addr} {K : PySem.W.Frag} {Hf H Hf1 H1 Hf2 H2 : Hp} {S S1 S2 P P1 P2 : Rg} {R R1 R2 : Nat → Rg} {σ : L2.St} {st : Sl} {X : Cx}
end
theorem xExtT {i : Nat} {m : ME} {st st1 st' : Sl} {a : D} {xs ys : List Int} (h0 : getS st i = some a) (hl : isLst a = true) (h : m st = .ok (.tup (nums ys)) st1) (h2 : getS st1 i = some (.lst true (nums xs))) (hn : xs.length + ys.length ≤ 16777216) (hs : st1.set i (some (.lst true (nums (xs ++ ys)))) = st') : eExtT i m st = .ok .non st' := by
  unfold eExtT
  rw [h0]
  dsimp only
  rw [if_pos hl, h]
  dsimp only [Res.bind]
  rw [h2]
  have e : ext2T (some (.lst true (nums xs))) (.tup (nums ys)) = some (nums (xs ++ ys)) := by
    unfold ext2T
    dsimp only
    rw [nums_colds, nums_len, nums_len, decide_eq_true hn, nums_app]
    rfl
  rw [e, ← hs]
end DL

/-! DL43: enumerate(list, k). -/
namespace DL
open PySem L2 PyProof.Rows
open Sem (wp)
structure EkAt (k : Nat) (a e it : Addr) (i : Nat) (h : Heap) : Prop where
  en : ∃ old, IsEnum h e it ((k + i : Nat) : Int) old
  iter : h.IsListIter it a i
  n1 : e ≠ it
  n2 : e ≠ a
  n3 : a ≠ it
section
variable {pr : Program} {wo : World} {Ar : Around} {Ex' : Value → Shared → Prop} {st : Shared}
end
section
variable {ca : Nat → Addr} {K : PySem.W.Frag} {Hf H : Hp} {vs : List V} {ds : List D} {X : Cx}
end
end DL

/-! DL44: how many small numbers stand in front; one list in front of another; steps left out. -/
namespace Nw
end Nw

/-! DL45: loops that look for something and return at once. -/
namespace DL
end DL

/-! DL46: a tuple target in a comprehension. -/
namespace DL
open PySem L2 PyProof.Rows
end DL

/-! DL47: the text of nested data of numbers, truth values, None. -/
namespace DL
open PySem (Str PyData)
mutual
/-- no texts, no dicts, numbers of at most 25 digits -/
def sml : PyData → Bool
  | .none => true
  | .bool _ => true
  | .int i => decide (i.natAbs < 10 ^ 25)
  | .str _ => false
  | .list xs => smlA xs
  | .tuple xs => smlA xs
  | .dict _ => false
def smlA : List PyData → Bool
  | [] => true
  | x :: xs => sml x && smlA xs
end
def cpsOk (x : Str) : Bool := x.cps.all (· < 0x110000)
theorem cps_app {x y : Str} (h : cpsOk x = true) (h2 : cpsOk y = true) : cpsOk (x ++ y) = true := by
  unfold cpsOk at *
  show (x.cps ++ y.cps).all _ = true
  rw [Array.all_append, h, h2]
  rfl
theorem cps_str (s : String) : cpsOk (Str.ofString s) = true := by
  unfold cpsOk
  rw [Str.ofString_eq_toList]
  simp only [List.all_toArray, List.all_map, List.all_eq_true, Function.comp, decide_eq_true_eq]
  intro c _
  have := c.valid
  show c.val.toNat < 0x110000
  rcases this with h | h
  · have : c.val.toNat < 0xd800 := h
    omega
  · exact h.2
theorem cps_from : ∀ (ts : List Str) (k : Nat) (acc : Str), cpsOk acc = true → (∀ t ∈ ts, cpsOk t = true) → cpsOk (PySem.textFrom k acc ts) = true
  | [], _, _, h, _ => h
  | t :: ts, k, acc, h, hs => cps_from ts (k + 1) _ (cps_app (cps_app h (cps_str _)) (hs t List.mem_cons_self)) fun u hu => hs u (List.mem_cons_of_mem _ hu)
theorem cps_list {ts : List Str} (hs : ∀ t ∈ ts, cpsOk t = true) : cpsOk (PySem.listText ts) = true := cps_app (cps_from ts 0 _ (cps_str _) hs) (cps_str _)
theorem cps_join {sep : Str} (h : cpsOk sep = true) : ∀ {ts : List Str}, (∀ t ∈ ts, cpsOk t = true) → cpsOk (Str.join sep ts) = true
  | [], _ => cps_str ""
  | [x], hs => hs x List.mem_cons_self
  | x :: y :: r, hs => cps_app (cps_app (hs x List.mem_cons_self) h) (cps_join h fun t ht => hs t (List.mem_cons_of_mem _ ht))
theorem cps_tup {ts : List Str} (hs : ∀ t ∈ ts, cpsOk t = true) : cpsOk (PySem.tupleText ts) = true := cps_app (cps_app (cps_str _) (cps_join (cps_str _) hs)) (cps_str _)
mutual
theorem sml_cps : ∀ p : PyData, sml p = true → cpsOk p.shown = true
  | .none, _ => cps_str "None"
  | .bool b, _ => by cases b <;> exact cps_str _
  | .int i, _ => cps_str (toString i)
  | .str _, h => by rw [sml] at h; cases h
  | .list xs, h => by rw [sml] at h; rw [PyData.shown]; exact cps_list (smlA_cps xs h)
  | .tuple xs, h => by rw [sml] at h; rw [PyData.shown]; exact cps_tup (smlA_cps xs h)
  | .dict _, h => by rw [sml] at h; cases h
theorem smlA_cps : ∀ xs : List PyData, smlA xs = true → ∀ t ∈ PyData.shownAll xs, cpsOk t = true
  | [], _, t, ht => by rw [PyData.shownAll] at ht; cases ht
  | x :: xs, h, t, ht => by
    rw [smlA, Bool.and_eq_true] at h
    rw [PyData.shownAll] at ht
    rcases List.mem_cons.mp ht with rfl | ht
    · exact sml_cps x h.1
    · exact smlA_cps xs h.2 t ht
end
theorem log_small {n : Nat} (h : n < 10 ^ 25) : n.log2 < 84 := by
  by_cases h0 : n = 0
  · subst h0; decide
  · exact (Nat.log2_lt h0).mpr (Nat.lt_of_lt_of_le h (by decide))
theorem int_len {i : Int} (h : i.natAbs < 10 ^ 25) : (PyData.shown (.int i)).length ≤ 26 := by
  have e := PySem.int_text_length_le10 (k := 25) (by decide) h
  show (Str.ofString (toString i)).length ≤ 26
  rw [PySem.ofString_length]; exact e
mutual
theorem sml_all : ∀ p : PyData, sml p = true → p.canLay0 = true ∧ p.showable = true ∧ p.leavesShort 26 = true
  | .none, _ => ⟨rfl, rfl, rfl⟩
  | .bool _, _ => ⟨rfl, rfl, rfl⟩
  | .int i, h => by
    rw [sml, decide_eq_true_eq] at h
    refine ⟨rfl, ?_, ?_⟩
    · rw [PyData.showable, decide_eq_true_eq]
      have := log_small h
      omega
    · rw [PyData.leavesShort, decide_eq_true_eq]
      exact int_len h
  | .str _, h => by rw [sml] at h; cases h
  | .list xs, h => by rw [sml] at h; rw [PyData.canLay0, PyData.showable, PyData.leavesShort]; exact smlA_all xs h
  | .tuple xs, h => by rw [sml] at h; rw [PyData.canLay0, PyData.showable, PyData.leavesShort]; exact smlA_all xs h
  | .dict _, h => by rw [sml] at h; cases h
theorem smlA_all : ∀ xs : List PyData, smlA xs = true → PyData.canLayAll0 xs = true ∧ PyData.showableAll xs = true ∧ PyData.leavesShortAll 26 xs = true
  | [], _ => ⟨rfl, rfl, rfl⟩
  | x :: xs, h => by
    rw [smlA, Bool.and_eq_true] at h
    obtain ⟨a, b, c⟩ := sml_all x h.1
    obtain ⟨a2, b2, c2⟩ := smlA_all xs h.2
    rw [PyData.canLayAll0, PyData.showableAll, PyData.leavesShortAll, a, b, c, a2, b2, c2]
    exact ⟨rfl, rfl, rfl⟩
end
/-- data whose text is told: how heavy, how deep -/
structure Rp (p : PyData) : Prop where
  s : sml p = true
  w : p.weight ≤ 500000
  d : p.depth ≤ 60
theorem Rp.ok {p : PyData} (h : Rp p) : rpOk p = true := by
  obtain ⟨a, b, c⟩ := sml_all p h.s
  have l := PyData.shown_le 26 (by decide) p c
  have w := h.w
  have l2 : p.shown.length ≤ 16777216 := by omega
  unfold rpOk
  rw [a, b, PyData.hasDict_of_canLay p a, decide_eq_true (Nat.le_trans h.d (by decide)), decide_eq_true l2]
  rfl
theorem Rp.repr {x : D} {p : PyData} (h : Rp p) (e : toPy x = p) : oRepr [x] = some (.val (.str p.shown)) := by
  subst e
  show (if _ then _ else _) = _
  rw [if_pos h.ok]
theorem Rp.shaped {p : PyData} (h : Rp p) : PySem.SeqAt.shaped (toPy (.str p.shown)) = true := by
  rw [toPy]
  unfold PySem.SeqAt.shaped
  rw [PyData.canLay0, PyData.depth]
  have := sml_cps p h.s
  unfold cpsOk at this
  rw [show PyData.strOk p.shown = true from this]
  rfl
theorem Rp.ne {p : PyData} (h : Rp p) : f2 pNe [.str p.shown, .str p.shown] = some (.val (.bl false)) := by
  refine ne_of ?_
  unfold pNe
  rw [h.shaped, toPy, PyData.eqv]
  simp
theorem Rp.eq {p : PyData} (h : Rp p) : f2 pEq [.str p.shown, .str p.shown] = some (.val (.bl true)) := by
  refine eq_of ?_
  unfold pEq
  rw [h.shaped, toPy, PyData.eqv]
  simp
/-! lists of numbers and lists of such lists -/
theorem smlA_map {α : Type} {f : α → PyData} : ∀ {l : List α}, (∀ a ∈ l, sml (f a) = true) → smlA (l.map f) = true
  | [], _ => rfl
  | a :: l, h => by rw [List.map_cons, smlA, h a List.mem_cons_self, smlA_map fun b hb => h b (List.mem_cons_of_mem _ hb)]; rfl
theorem wA_map {α : Type} {f : α → PyData} {c : Nat} : ∀ {l : List α}, (∀ a ∈ l, (f a).weight ≤ c) → PyData.weightAll (l.map f) ≤ (c + 1) * l.length
  | [], _ => by rw [List.map_nil, PyData.weightAll]; omega
  | a :: l, h => by
    rw [List.map_cons, PyData.weightAll, List.length_cons, Nat.mul_succ]
    have h1 := h a List.mem_cons_self
    have h2 := wA_map fun b hb => h b (List.mem_cons_of_mem _ hb)
    omega
theorem w_int {i : Int} (h : i.natAbs < 10 ^ 25) : (PyData.int i).weight ≤ 84 := by
  rw [PyData.weight]
  have := log_small h
  split <;> omega
theorem rp_nums {l : List Int} (h : ∀ x ∈ l, x.natAbs < 10 ^ 25) (hl : l.length ≤ 5000) : Rp (Py.py l) := by
  refine ⟨?_, ?_, ?_⟩
  · show sml (.list (l.map .int)) = true
    rw [sml]
    exact smlA_map fun a ha => by rw [sml]; exact decide_eq_true (h a ha)
  · show (PyData.list (l.map .int)).weight ≤ 500000
    rw [PyData.weight]
    have := wA_map (f := PyData.int) (c := 84) (l := l) fun a ha => w_int (h a ha)
    omega
  · exact Nat.le_trans (Py.depth l) (by decide)
end DL

set_option maxHeartbeats 4000000
/-! DL48: try with several clauses; a caught exception is tracked from its clause on. -/
namespace DL
open PySem PySem.Spec PyProof.Rows L2
section
variable {X : Cx} {pins : List (Addr × Obj)} {σ : L2.St} {H : Hp} {sI s s' : Shared} {B : Heap} {a : Addr} {cls : Value} {d : Option Addr}
abbrev HeldX (h : Heap) (a : Addr) (cls : Value) (d : Option Addr) : Prop := ∃ (o : Obj) (vs : Array Value), h.get? a = some o ∧ Zc cls d o ∧ o.data = .fields vs
theorem xcO_ok {P : Program} {w : World} {h : Heap} (e : HeldX h a cls d) : ObjOk P w H h a (XcO a cls d) := by
  obtain ⟨o, vs, e1, e2, e3⟩ := e
  exact ⟨⟨o, vs, e1, e2, e3⟩, ⟨o, e1⟩, fun h1 h2 ⟨o', us, p, q, r⟩ k => ⟨o', us, k _ p, q, r⟩⟩
/-- on the ground again, the exception's object tracked -/
theorem landedX (I : Inv X pins σ H sI) (nb : ∀ (c : Addr) (ob : Obj), sI.heap.get? c = some ob → c ∉ frs X.stack → B.get? c = some ob) (st : B.StaysIn s'.heap) (up : sI.heap.UpToSlots s'.heap)
    (eos : s'.os = sI.os) (ag : AllBare s'.gens) (na : H a = none) (nB : B.get? a = none) (nF : a ∉ frs X.stack) (hx : HeldX s'.heap a cls d) : Inv X pins σ (upd H a (XcO a cls d)) s' := by
  have nI : ∀ {b : Addr} {o : Obj}, sI.heap.get? b = some o → b ≠ a := fun {b o} e z => by
    rw [z] at e
    have q := nb a o e nF
    rw [nB] at q
    cases q
  have slots : ∀ (c : Addr), c ∈ frs X.stack → ∀ (ob : Obj), sI.heap.get? c = some ob → ∃ sl, s'.heap.get? c = some { ob with slots := sl } := fun c hc ob e => by
    obtain ⟨_, o', e', hd⟩ := I.stack.mem hc
    rw [e] at e'
    cases e'
    exact up c ob e hd
  have U : Un (frs X.stack) [] H (upd H a (XcO a cls d)) sI.heap s'.heap := {
    keep := fun c ob e _ hc _ => st c ob (nb c ob e hc)
    slot := fun c ob e _ hc _ => slots c hc ob e
    free := fun c ob e n _ => by rw [upd_ne (nI e)]; exact n
    there := fun c ob e _ => by
      by_cases hc : c ∈ frs X.stack
      · obtain ⟨sl, q⟩ := slots c hc ob e
        exact ⟨_, q⟩
      · exact ⟨ob, st c ob (nb c ob e hc)⟩
    tups := fun c xs e => by rw [upd_ne (ne_of_none e na)]; exact e
    frzs := fun c o xs e => by rw [upd_ne (ne_of_none e na)]; exact e
    tbls := fun c ps e => ⟨#[], by rw [upd_ne (ne_of_none e na), e]; simp⟩ }
  have K1 : HOk X.prog X.w (upd H a (XcO a cls d)) s'.heap := fun c o e => by
    by_cases hc : c = a
    · subst hc
      rw [upd_same] at e
      cases e
      exact xcO_ok hx
    · rw [upd_ne hc] at e
      exact ((I.inGround nb).kept st c o e).stay (fun _ _ _ q => q) (fun c' q => by rw [upd_ne (ne_of_none q na)]; exact q) (fun c' xs q => by rw [upd_ne (ne_of_none q na)]; exact q)
  have J := I.call (ch := []) (h' := s'.heap) (g' := s'.gens) (t' := s'.toks) (d' := s'.drawn) U K1 ag (fun _ z => nomatch z)
  obtain ⟨h5, g5, d5, t5, o5⟩ := s'
  obtain rfl : o5 = sI.os := eos
  exact J
/-- into an except suite, and out of it -/
theorem toSuite (I : Inv X pins σ H s) (a : Addr) : Inv (X.suite a (X.pn ++ pins)) [] σ H s where
  ok := I.ok.suite _ _
  os := I.os
  bare := I.bare
  base := I.base
  loc := I.loc
  cell := I.cell
  free := I.free
  freeC := I.freeC
  pin := fun q hq => I.pin q (by rw [List.append_nil] at hq; exact hq)
  hok := I.hok
  len := I.len
theorem ofSuite {pn' : List (Addr × Obj)} (I : Inv (X.suite a (X.pn ++ pins)) pn' σ H s) (ok : X.Ok) : Inv X pins σ H s where
  ok := ok
  os := I.os
  bare := I.bare
  base := I.base
  loc := I.loc
  cell := I.cell
  free := I.free
  freeC := I.freeC
  pin := fun q hq => I.pin q (List.mem_append_left _ hq)
  hok := I.hok
  len := I.len
end

/-- an end behind a clause that names the exception at the slot i -/
def endC (o : Option Nat) (D : Ends) : Ends :=
  match o with
  | none => D
  | some i => { nx := fun σ' H' => D.nx (σ'.set i none) H', rt := D.rt, bk := fun σ' H' => D.bk (σ'.set i none) H', ct := fun σ' H' => D.ct (σ'.set i none) H' }
def putC (o : Option Nat) (a : Addr) (σ : L2.St) : L2.St :=
  match o with
  | none => σ
  | some i => σ.set i (some (.ref a))
abbrev Cls1 := Value × Option Nat × (Addr → TS)
/-- what the clauses wish -/
def wishC (K : PySem.W.Frag) (Wo : WX) (D : Ends) : List Cls1 → WX
  | [] => Wo
  | (c, o, ts) :: r => fun cls d σ H => ∃ b, PySem.W.exmOne K cls c = some b ∧
      (b = true → ∀ a, H a = none → ts a (endC o D) (putC o a σ) (upd H a (XcO a cls d))) ∧ (b = false → wishC K Wo D r cls d σ H)
inductive HdC (X : Cx) : List ExceptHandler → List Cls1 → Prop
  | nil : HdC X [] []
  | plain {x : Str} {c : Value} {ts : Addr → TS} {b0 : Stmt} {body : List Stmt} {p1 p2 : Pos} {hds : List ExceptHandler} {l : List Cls1} (hc : Names X x c)
      (hb : ∀ a pn, PSs (X.suite a pn) (b0 :: body) (ts a)) (r : HdC X hds l) : HdC X (.ExceptHandler (some (.Name x p1)) none (b0 :: body) p2 :: hds) ((c, none, ts) :: l)
  | named {x n : Str} {i : Nat} {c : Value} {ts : Addr → TS} {b0 : Stmt} {body : List Stmt} {p1 p2 : Pos} {hds : List ExceptHandler} {l : List Cls1} (hc : Names X x c)
      (hi : X.N[i]? = some n) (hl : X.env.kindOf n = some .local)
      (hb : ∀ a pn, PSs (X.suite a pn) (b0 :: body) (ts a)) (r : HdC X hds l) : HdC X (.ExceptHandler (some (.Name x p1)) (some n) (b0 :: body) p2 :: hds) ((c, some i, ts) :: l)
section
variable {X : Cx} {body : List Stmt} {hd : ExceptHandler} {hds : List ExceptHandler} {l : List Cls1} {pos : Pos} {tb : WX → TS} {Wo : WX}
theorem ps_tryC (hs : X.stack = X.env :: X.outer) (hf : X.env.frame = some X.env.locals) (hN : X.N.Nodup) (tk : Takes X Wo)
    (hb : ∀ W pn xe, Takes (X.tr pn xe) W → PassesOwn (model X.prog X.w) X.A X.env xe → PSs (X.tr pn xe) body (tb W))
    (hh : HdC X (hd :: hds) l) : PS X (.Try body (hd :: hds) [] [] pos) (fun D σ H => tb (wishC X.K Wo D l) D σ H) := by
  refine ⟨fun pins s σ H D I h => ?_⟩
  have ok := I.ok
  have hfr : X.A.frames = some (X.env :: X.outer) := ok.frames.trans (by rw [hs])
  refine wpAny_Try_except ?_
  let after : Value → Shared → Prop := fun e s₁ => wpAny (model X.prog X.w) X.A (noteFrame e X.env)
    (fun _ s₂ => wpAny (model X.prog X.w) X.A (setFlight e none)
      (fun _ s₃ => wpAny (model X.prog X.w) X.A (handleBy e X.env (hd :: hds)) (SP X pins D) X.xe s₃) X.xe s₂) X.xe s₁
  have hcatch : Takes (X.tr (X.pn ++ pins) after) (wishC X.K Wo D l) := by
    intro u s1 xx
    obtain ⟨a, B, sI, pins1, σ1, H1, cls, d, rfl, I1, nb, up, sky, na, eos, ag, w⟩ := xx
    have J : Inv X pins σ1 H1 sI := I1.ofTry ok
    rw [show Cx.stack (X.tr (X.pn ++ pins) after) = X.env :: X.outer from hs] at sky
    show wpAny (model X.prog X.w) X.A (noteFrame (.ref a) X.env) _ _ _
    refine Sky.land Zc.steady hfr hf sky fun h3 fl3 up3 => ?_
    have nfr : a ∉ frs X.stack := fun hm => by
      obtain ⟨oe, vs, he, _, hd3⟩ := fl3.there
      obtain ⟨_, o', e', hnf⟩ := fl3.2.2.1.mem (by rw [← hs]; exact hm)
      rw [he] at e'
      cases e'
      exact hnf _ hd3
    have J3 : Inv X pins σ1 H1 { s1 with heap := h3 } := J.landed nb fl3.1 (up.trans up3) eos ag
    -- the exception goes on
    have onward : Wo cls d σ1 H1 → wpAny (model X.prog X.w) X.A (handleBy (.ref a) X.env []) (SP X pins D) X.xe { s1 with heap := h3 } := fun w => by
      refine wpAny_handleBy_nil ?_
      obtain ⟨k1, k2, k3, oe, vs, T, oT, ts', he, hz, hdd, h1, hr⟩ := id fl3
      unfold PySem.passOn
      refine wpAny_bind (wpAny_field he hdd h1 ?_)
      rw [if_neg (by simp : ¬ ((Value.ref T == Value.none) = true))]
      have fin : wpAny (model X.prog X.w) X.A (setFlight (.ref a) X.env.frame)
          (fun _ s4 => wpAny (model X.prog X.w) X.A (throw (.ref a) : Sem Flow) (SP X pins D) X.xe s4) X.xe { s1 with heap := h3 } := by
        rw [hf]
        refine HandSPX.setFlight_upZ fl3 fun h4 hh4 up4 => wpAny_throw (tk _ _ ?_)
        refine ⟨a, B, sI, pins, σ1, H1, cls, d, rfl, J, nb, (up.trans up3).trans up4, ?_, na, eos, ag, w⟩
        exact .inr (.inr (by rw [hs]; exact hh4))
      first
        | exact wpAny_bind (wpAny_pure (wpAny_bind fin))
        | exact wpAny_bind fin
    -- a clause's class is asked
    have LT : cls = cls → PySem.W.Looks (model X.prog X.w) h3 (typeOf (.ref a)) cls := fun _ => by
      obtain ⟨oe, vs, he, hz, _⟩ := fl3.there
      exact fun A Q E s k q => wpAny_typeOf_ref (k _ _ he) (by rw [hz.1]; exact q)
    have asks : ∀ {x : Str} {p1 : Pos} {c : Value} {b : Bool} {Q : Value → Shared → Prop} {E : Value → Shared → Prop}, Names X x c → Q c { s1 with heap := h3 } →
        wpAny (model X.prog X.w) (X.A.mark (some (.ref a))) (eval (.Name x p1) X.env) Q E { s1 with heap := h3 } := fun {x p1 c b Q E} hc q => by
      obtain ⟨hg, hdbg, hm | ⟨hm, hv, hnn⟩⟩ := hc
      · exact ld_glob (toSuite J3 a) hg hm q hdbg
      · exact ld_blt (toSuite J3 a) hg hm hv q hnn hdbg
    -- a clause's suite
    have lands : ∀ {Q : Unit → Shared → Prop}, (∀ h4, Inv (X.suite a (X.pn ++ pins)) [] σ1 (upd H1 a (XcO a cls d)) { s1 with heap := h4 } → Q () { s1 with heap := h4 }) →
        wpAny (model X.prog X.w) X.A (setFlight (.ref a) none) Q X.xe { s1 with heap := h3 } ∨ True := fun _ => .inr trivial
    have S4 : ∀ {h4 : Heap}, HandSPX.FlyingZ B (X.env :: X.outer) a (Zc cls d) h4 → h3.UpToSlots h4 → Inv (X.suite a (X.pn ++ pins)) [] σ1 (upd H1 a (XcO a cls d)) { s1 with heap := h4 } := fun {h4} fl4 up4 =>
      toSuite (landedX (s' := { s1 with heap := h4 }) J nb fl4.1 ((up.trans up3).trans up4) eos ag na fl4.2.1 nfr fl4.there) a
    have go : ∀ {hs' : List ExceptHandler} {l' : List Cls1}, HdC X hs' l' → wishC X.K Wo D l' cls d σ1 H1 →
        wpAny (model X.prog X.w) X.A (handleBy (.ref a) X.env hs') (SP X pins D) X.xe { s1 with heap := h3 } := by
      intro hs' l' hk
      induction hk with
      | nil => exact onward
      | @plain x c ts b0 suite p1 p2 hds2 l2 hc hsu r ih =>
        rintro ⟨b, hb1, hyes, hno⟩
        refine wpAny_handleBy_cons (codeAny_handlers_test ?_) (by intro q; cases q)
        refine asks (b := b) hc ((PySem.W.exm_one (M := model X.prog X.w) J3.kIn (LT rfl) hb1).here ?_)
        cases b with
        | false => exact ih (hno rfl)
        | true =>
          refine codeAny_handlers_suite ?_
          refine HandSPX.lands_againZ fl3 fun h4 fl4 up4 => ?_
          refine wpAny_mono ((hsu a (X.pn ++ pins)).run [] _ _ _ _ (S4 fl4 up4) (hyes rfl a na)) (fun f s6 hsp => ?_) (fun _ _ z => False.elim z)
          cases f with
          | ret u =>
            obtain ⟨v6, σ6, H6, S6, r6, q6⟩ := hsp
            exact ⟨v6, σ6, H6, ofSuite S6 ok, r6, q6⟩
          | next =>
            obtain ⟨σ6, H6, S6, q6⟩ := hsp
            exact ⟨σ6, H6, ofSuite S6 ok, q6⟩
          | brk =>
            obtain ⟨σ6, H6, S6, q6⟩ := hsp
            exact ⟨σ6, H6, ofSuite S6 ok, q6⟩
          | cont =>
            obtain ⟨σ6, H6, S6, q6⟩ := hsp
            exact ⟨σ6, H6, ofSuite S6 ok, q6⟩
      | @named x n i c ts b0 suite p1 p2 hds2 l2 hc hi hl hsu r ih =>
        rintro ⟨b, hb1, hyes, hno⟩
        refine wpAny_handleBy_cons (codeAny_handlers_test ?_) (by intro q; cases q)
        refine asks (b := b) hc ((PySem.W.exm_one (M := model X.prog X.w) J3.kIn (LT rfl) hb1).here ?_)
        cases b with
        | false => exact ih (hno rfl)
        | true =>
          refine codeAny_handlers_suite_as ?_
          refine HandSPX.lands_againZ fl3 fun h4 fl4 up4 => ?_
          refine store_ok (X := X.suite a (X.pn ++ pins)) (v := .ref a) (S4 fl4 up4) hN hi (.inl hl) rfl (fun s5 S5 => ?_) (.inr hl)
          refine wpAny_mono ((hsu a (X.pn ++ pins)).run [] s5 _ _ _ S5 (hyes rfl a na)) (fun f s6 hsp => ?_) (fun _ _ z => False.elim z)
          have leave : ∀ {σ6 : L2.St} {H6 : Hp} {Q : Shared → Prop}, Inv (X.suite a (X.pn ++ pins)) [] σ6 H6 s6 → (∀ s7, Inv X pins (σ6.set i none) H6 s7 → Q s7) →
              wpAny (model X.prog X.w) X.A (do bindName X.env n .none; unbindBehindTheSuite X.env n p2) (fun _ s7 => Q s7) X.xe s6 :=
            fun {σ6 H6 Q} S6 hq => gone_ok (ofSuite S6 ok) hN hi hl hq
          cases f with
          | ret u =>
            obtain ⟨v6, σ6, H6, S6, r6, q6⟩ := hsp
            exact leave S6 fun s7 J7 => ⟨v6, _, H6, J7, r6, q6⟩
          | next =>
            obtain ⟨σ6, H6, S6, q6⟩ := hsp
            exact leave S6 fun s7 J7 => ⟨_, H6, J7, q6⟩
          | brk =>
            obtain ⟨σ6, H6, S6, q6⟩ := hsp
            exact leave S6 fun s7 J7 => ⟨_, H6, J7, q6⟩
          | cont =>
            obtain ⟨σ6, H6, S6, q6⟩ := hsp
            exact leave S6 fun s7 J7 => ⟨_, H6, J7, q6⟩
    exact go hh w
  refine wpAny_mono ((hb (wishC X.K Wo D l) (X.pn ++ pins) after hcatch PassesOwn.looking).run [] s σ H D (I.toTry _) h) (fun f s1 hsp => ?_) (fun e s1 he => he)
  cases f with
  | next =>
    obtain ⟨σ', H', J', q⟩ := hsp
    exact wpAny_execs_nil ⟨σ', H', J'.ofTry ok, q⟩
  | ret u =>
    obtain ⟨v, σ', H', J', r, q⟩ := hsp
    exact ⟨v, σ', H', J'.ofTry ok, r, q⟩
  | brk =>
    obtain ⟨σ', H', J', q⟩ := hsp
    exact ⟨σ', H', J'.ofTry ok, q⟩
  | cont =>
    obtain ⟨σ', H', J', q⟩ := hsp
    exact ⟨σ', H', J'.ofTry ok, q⟩
end
end DL

set_option maxHeartbeats 4000000
/-! DL49: exceptions of own classes: made, raised, caught. -/
namespace DL
open PySem PySem.Spec PyProof.Rows L2

/-! ### __init__ of an own exception class -/
section
variable {X : Cx} {p1 p2 pos : Pos}
/-- B.__init__(self, ..), B an own class that has ValueError's -/
theorem pe_netinit {cb : Addr} {mc : Value} {ta : TA} {e : Expr} {es : List Expr} {pl : Sem Bool} (hg : Gl X "NetworkError") (hm : X.mg "NetworkError" = some (.ref cb)) (r : ClX.CRead X.K cb mc)
    (vV : PySem.W.findCls X.K (.ref cb) mc "__init__" = some (.val (.builtin "ValueError.__init__"))) (ha : PA X (e :: es) ta)
    (hc : eval (.Call (.Attribute (.Name "NetworkError" p1) "__init__" p2) (e :: es) [] pos) X.env = (do
      let o ← eval (.Name "NetworkError" p1) X.env
      standAt p2.atName
      let (g, first) ← holding [o] (getMethod o "__init__" pl)
      callWith pos g first (backTo pos (starEach (e :: es) X.env)) (backToKw pos (keywordEach [] X.env))) := by rfl)
    (he : starEach (e :: es) X.env = (false, eval e X.env) :: starEach es X.env := by rfl) (hpl : (backTo pos (starEach es X.env)).any (·.1) = false := by rfl) :
    PE X (.Call (.Attribute (.Name "NetworkError" p1) "__init__" p2) (e :: es) [] pos) (tVeI X.K ta) := ⟨fun pins s σ H Q I h => by
  refine PySem.W.methodCall_KW (pl := pl) (ld_glob I hg hm ?_ (by decide)) hc
  refine PySem.W.method_cls I.kIn r.ga (PySem.W.cls_value I.kIn r.rd vV (by decide +kernel) ?_)
  show wpAny _ _ (callWith pos (Value.builtin "ValueError.__init__") [] (backTo pos (starEach (e :: es) X.env)) []) _ _ _
  refine PyProof.Rows.callWith_method1 (thn (ha.run pos pins _ σ H _ (I.tok _) h) fun us s1 hh => ?_) he hpl
  obtain ⟨vs, H1, I1, r1, a, C, ws, ev, hl, T, ea, q⟩ := hh
  subst ev
  cases r1 with
  | @cons _ u0 _ ur ra rw' =>
    obtain rfl : u0 = Value.ref a := ra
    have hlen : ur.length ≤ sizeLine := by
      rw [sizeLine_eq, ← Paired.length rw']
      omega
    exact oinit_ok T I1 ea hlen fun s' J => ⟨.non, H1, J, rfl, q⟩⟩
end
/-- what such an __init__ does: the fields fs, in order -/
def exSp (C : Addr) (fs : List Str) : Sp := fun vs H Q _ => ∃ a us, vs = .ref a :: us ∧ us.length = fs.length ∧ H a = some (exo a C none) ∧
  ∀ dx, H dx = none → dx ≠ a → Q .non (upd (upd H dx (exd dx (fs.zip us).reverse)) a (exo a C (some dx)))
section
variable {P : Program} {w : World} {K : PySem.W.Frag} {mg : Str → Option Value} {base : Heap}
/-- one field -/
theorem exI1_ok {qual : Str} {st : Stmt} {fa C cb : Addr} {fd : FuncData} {v f : Str} {m : Str} {j k : Nat} {mc : Value} {q1 q2 q3 q4 q5 q6 q7 q8 q9 q10 : Pos}
    (F : Fun K "__init__" qual st fa fd) (S : FnScope ["self", v] ["self", v] (defScope st))
    (hb : defBody st = [.Expr (.Call (.Attribute (.Name "NetworkError" q1) "__init__" q2) [.Name "self" q3, .Constant (.str m) j q4] [] q5) q6, .Assign [.Attribute (.Name "self" q7) f q8] (.Name v q9) q10])
    (T : OexC K C) (hno : PySem.W.findIn K (.ref C) f = some none) (hm : mg "NetworkError" = some (.ref cb)) (r : ClX.CRead K cb mc)
    (vV : PySem.W.findCls K (.ref cb) mc "__init__" = some (.val (.builtin "ValueError.__init__")))
    (hg : ∀ cdv A outer s H E, Gl (cxOf (L2.CX P w) P w K mg base ["self", v] qual (defScope st) fa cdv A outer s H E) "NetworkError")
    (hform : ∀ cdv A outer s H E, ∃ pl, MForm (cxOf (L2.CX P w) P w K mg base ["self", v] qual (defScope st) fa cdv A outer s H E) (.Name "NetworkError" q1) "__init__" [.Name "self" q3, .Constant (.str m) j q4] q2 q5 pl)
    (v0 : Vis (defScope st) "self") (v1 : Vis (defScope st) v) (d1 : (v == ("__debug__" : Str)) = false) (c1 : (v == ("__classdict__" : Str)) = false) :
    FnOk P w K mg base (L2.CX P w) (k + 1) fa fd ["self", v] (exSp C [f]) := by
  refine F.okX S (fun vs H Q E ⟨a, us, e, el, _⟩ => by rw [e]; simp [el]) fun cdv A outer s H vs Q E hr h => ?_
  rw [hb]
  obtain ⟨pl, hfm⟩ := hform cdv A outer s H E
  refine ⟨_, pss_cons (ps_expr (pe_netinit (pl := pl) (hg cdv A outer s H E) hm r vV (pa_cons (pv 0 rfl v0) (pa_cons pe_str pa_nil)) hfm rfl rfl)) (pss_one (ps_ost (pv 0 rfl v0) (pv 1 rfl v1 d1 c1))), ?_⟩
  obtain ⟨a, us, rfl, el, ea, q⟩ := h
  match us, el with
  | [y], _ =>
    refine ⟨.ref a, rfl, a, C, [.str m], rfl, by simp, T, ea, ?_⟩
    refine ⟨y, rfl, .ref a, rfl, a, C, rfl, T, hno, .inl ⟨ea, fun dx h1 h2 => q dx h1 h2⟩⟩
end

/-! ### raise -/
/-- raise C(..): the fields by their names -/
def sRaise (C : Nat) (fs : List Str) (ms : MA) : MS := fun st => match ms st with
  | .ok ds st1 => if ds.length = fs.length then .exc ⟨C, (fs.zip (frzL ds)).reverse⟩ st1 else .fail
  | .exc x st1 => .exc x st1
  | .fail => .fail
section
variable {ca : Nat → Addr} {Hf H Hf1 H1 Hf2 H2 : Hp} {S P P1 P2 : Rg} {R R1 R2 : Nat → Rg} {σ : L2.St} {st : Sl} {v : V} {d : D} {vs : List V} {ds : List D} {X : Cx} {L : List Nat}
theorem zip_keys {α : Type} : ∀ (fs : List Str) (us : List α), us.length = fs.length → (fs.zip us).map (·.1) = fs
  | [], [], _ => rfl
  | [], _ :: _, h => by cases h
  | _ :: _, [], h => by cases h
  | f :: fs, u :: us, h => by simp [zip_keys fs us (by simpa using h)]
theorem zip_vals {α : Type} : ∀ (fs : List Str) (us : List α), us.length = fs.length → (fs.zip us).map (·.2) = us
  | [], [], _ => rfl
  | [], _ :: _, h => by cases h
  | _ :: _, [], h => by cases h
  | f :: fs, u :: us, h => by simp [zip_vals fs us (by simpa using h)]
theorem cs_raise {k C : Nat} {fI : Addr} {fd : FuncData} {ps fs : List Str} {x : Str} {p pos pos' : Pos} {e : Expr} {es : List Expr} {ms : MA} (hc : X.calm = true) (T : OexC X.K (ca C))
    (iC : PySem.W.findIn X.K (.ref (ca C)) "__init__" = some (some (.ref fI))) (tI : PySem.W.typeIn X.K (.ref fI) = some (.type "function")) (F1 : FnOk X.prog X.w X.K X.mg X.base (L2.CX X.prog X.w) k fI fd ps (exSp (ca C) fs)) (hr : Room (k + 1) X.A)
    (hb : Binds X.K fd ps []) (hg : Gl X x) (hm : X.mg x = some (.ref (ca C))) (hf : fs.length ≤ 900) (ha : CL ca X (e :: es) ms) (hst : NoStar (e :: es)) (hdb : (x == ("__debug__" : Str)) = false := by decide)
    (he : starEach (e :: es) X.env = (false, eval e X.env) :: starEach es X.env := by rfl) (hpl : (backTo pos (starEach es X.env)).any (·.1) = false := by rfl) :
    CS ca X L (.Raise (some (.Call (.Name x p) (e :: es) [] pos)) none pos') (sRaise C fs ms) := fun Hf H R σ st E pr hq => by
  refine ws_of (ps_raise hc (takes_wX X) (pmk_oex (dvs := []) (ds := []) T iC tI F1 hr hb .nil (passes_call (takes_wX X) fun _ _ _ _ z => z.elim) hg hm (wa_pa X (e :: es)) hdb he hpl)) ?_
  show Wa X (e :: es) σ H _
  refine wa_wl (fun e r hs => noStar_suf hst e r hs X.env) (ha Hf H R σ st _ pr ?_)
  unfold sRaise at hq
  cases em : ms st with
  | fail => rw [em] at hq; exact hq.elim
  | exc y st1 => rw [em] at hq; exact fun Hf' H' R' cls dd t p => hq Hf' H' R' σ cls dd t p Lk.refl
  | ok ds st1 =>
    rw [em] at hq
    dsimp only at hq
    by_cases hl : ds.length = fs.length
    · rw [if_pos hl] at hq
      intro Hf1 H1 P1 R1 vs t1 p1
      have hvl : vs.length = fs.length := p1.pend.length.trans hl
      refine ⟨by omega, fun a na => ?_⟩
      refine ⟨a, vs, by rw [List.append_nil], hvl, upd_same, fun dx hdx hne => ?_⟩
      rw [upd_ne hne] at hdx
      refine ⟨rfl, dx, (fs.zip vs).reverse, upd_same, by rw [upd_ne hne]; exact upd_same, hdx, ?_⟩
      have eH : upd (L2.del (upd (upd (upd H1 a (exo a (ca C) none)) dx (exd dx (fs.zip vs).reverse)) a (exo a (ca C) (some dx))) a) dx (.xd (fs.zip vs).reverse) = upd H1 dx (.xd (fs.zip vs).reverse) := by
        funext b
        by_cases hb1 : b = dx
        · subst hb1
          rw [upd_same, upd_same]
        · rw [upd_ne hb1, upd_ne hb1]
          by_cases hb2 : b = a
          · subst hb2
            rw [L2.del_same, na]
          · rw [L2.del_ne hb2, upd_ne hb2, upd_ne hb1, upd_ne hb2]
      rw [eH]
      obtain ⟨Hf2, x2, k2, p2, t2⟩ := p1.standP
      have r2 : RepL ca X.K Hf2 H1 Em vs (frzL ds) := RepL.frz x2 p1.pend k2
      have p3 := p2.stand (o := .xd (fs.zip vs).reverse) hdx
      have n0 : Hf2 dx = none := (wl_new (o := .xd []) p2.w hdx).2
      refine hq (upd Hf2 dx (.xd (fs.zip vs).reverse)) (upd H1 dx (.xd (fs.zip vs).reverse)) R1 σ (.ref (ca C)) (some dx) (t1.trans (t2.trans ?_)) (p3.imp fun _ => ?_) Lk.refl
      · refine ⟨fun b o q => upd_keep n0 b o q, fun b o q _ => upd_keep hdx b o q, fun b q => .inl q, fun b o q => ?_⟩
        by_cases hb1 : b = dx
        · subst hb1
          exact .inr (.inr hdx)
        · rw [upd_ne hb1] at q
          exact .inl q
      · refine ⟨rfl, dx, (fs.zip vs).reverse, rfl, upd_same, upd_same, ?_, ?_⟩
        · show List.map (·.1) (fs.zip vs).reverse = List.map (·.1) (fs.zip (frzL ds)).reverse
          rw [List.map_reverse, List.map_reverse, zip_keys fs vs hvl, zip_keys fs (frzL ds) (by rw [frzL_length]; exact hl)]
        · show RepL ca X.K _ _ Em (List.map (·.2) (fs.zip vs).reverse) (List.map (·.2) (fs.zip (frzL ds)).reverse)
          rw [List.map_reverse, List.map_reverse, zip_vals fs vs hvl, zip_vals fs (frzL ds) (by rw [frzL_length]; exact hl)]
          exact repL_rev (RepL.keep (fun b o q => upd_keep n0 b o q) r2 fun _ q => q.elim)
    · rw [if_neg hl] at hq
      exact hq.elim
end
end DL

set_option maxHeartbeats 4000000
/-! DL50: try by data; what is asked of a caught exception. -/
namespace DL
open PySem PySem.Spec PyProof.Rows L2
/-- a clause: the classes it takes, its name's slot, its suite -/
structure Cl where
  t : Nat → Option Bool
  o : Option Nat
  m : MS
def goneS : Option Nat → SR → SR
  | none, .next st => .next st
  | none, .brk st => .brk st
  | none, .cont st => .cont st
  | none, .ret d st => .ret d st
  | some i, .next st => .next (st.set i none)
  | some i, .brk st => .brk (st.set i none)
  | some i, .cont st => .cont (st.set i none)
  | some i, .ret d st => .ret d (st.set i none)
  | _, _ => .fail
def hdsM : List Cl → Xc → Sl → SR
  | [], x, st => .exc x st
  | ⟨t, o, m⟩ :: r, x, st => match t x.C with
    | some true => goneS o (m (match o with | some i => st.set i (some (.xc x.C x.fs)) | none => st))
    | some false => hdsM r x st
    | none => .fail
def sTry (mb : MS) (hs : List Cl) : MS := fun st => match mb st with
  | .exc x st1 => hdsM hs x st1
  | .next st1 => .next st1
  | .ret d st1 => .ret d st1
  | .brk st1 => .brk st1
  | .cont st1 => .cont st1
  | .fail => .fail
section
variable {ca : Nat → Addr} {K : PySem.W.Frag} {Hf H Hf1 H1 Hf2 H2 : Hp} {S P P1 P2 : Rg} {R R1 R2 : Nat → Rg} {pp : Prop} {σ : L2.St} {st : Sl} {v : V} {d : D} {vs : List V} {ds : List D} {X : Cx} {L : List Nat}
theorem PR.gone (i : Nat) (p : PR ca K Hf H P pp R σ st) : PR ca K Hf H P pp R (σ.set i none) (st.set i none) where
  pend := p.pend
  len := by rw [List.length_set, List.length_set]; exact p.len
  at_ := fun j d e => by
    rcases set_get e with ⟨_, q⟩ | ⟨q1, q2⟩
    · cases q
    · obtain ⟨v, e2, r⟩ := p.at_ j d q2
      exact ⟨v, by rw [List.getElem?_set_ne q1]; exact e2, r⟩
  dj := p.dj
  dp := p.dp
  w := p.w
theorem tr_up {a : Addr} {o : HO} (n0 : Hf a = none) (hn : H a = none) : Tr S Hf H S (upd Hf a o) (upd H a o) := by
  refine ⟨fun b u q => upd_keep n0 b u q, fun b u q _ => upd_keep hn b u q, fun b q => .inl q, fun b u q => ?_⟩
  by_cases hb : b = a
  · subst hb
    exact .inr (.inr hn)
  · rw [upd_ne hb] at q
    exact .inl q
inductive CHs (ca : Nat → Addr) (X : Cx) (L : List Nat) : List ExceptHandler → List Cl → List Cls1 → Prop
  | nil : CHs ca X L [] [] []
  | plain {x : Str} {c : Value} {t : Nat → Option Bool} {m : MS} {b0 : Stmt} {body : List Stmt} {p1 p2 : Pos} {hds : List ExceptHandler} {l : List Cl} {l' : List Cls1} (hc : Names X x c)
      (ht : ∀ C b, t C = some b → PySem.W.exmOne X.K (.ref (ca C)) c = some b) (hb : ∀ a pn, CSs ca (X.suite a pn) L (b0 :: body) m) (r : CHs ca X L hds l l') :
      CHs ca X L (.ExceptHandler (some (.Name x p1)) none (b0 :: body) p2 :: hds) (⟨t, none, m⟩ :: l) ((c, none, fun a D σ H => ∀ pn, Wss (X.suite a pn) (b0 :: body) D σ H) :: l')
  | named {x n : Str} {i : Nat} {c : Value} {t : Nat → Option Bool} {m : MS} {b0 : Stmt} {body : List Stmt} {p1 p2 : Pos} {hds : List ExceptHandler} {l : List Cl} {l' : List Cls1} (hc : Names X x c)
      (hi : X.N[i]? = some n) (hl : X.env.kindOf n = some .local) (hL : i ∉ L)
      (ht : ∀ C b, t C = some b → PySem.W.exmOne X.K (.ref (ca C)) c = some b) (hb : ∀ a pn, CSs ca (X.suite a pn) L (b0 :: body) m) (r : CHs ca X L hds l l') :
      CHs ca X L (.ExceptHandler (some (.Name x p1)) (some n) (b0 :: body) p2 :: hds) (⟨t, some i, m⟩ :: l) ((c, some i, fun a D σ H => ∀ pn, Wss (X.suite a pn) (b0 :: body) D σ H) :: l')
theorem CHs.hd {hds : List ExceptHandler} {l : List Cl} {l' : List Cls1} (h : CHs ca X L hds l l') : HdC X hds l' := by
  induction h with
  | nil => exact .nil
  | plain hc ht hb r ih => exact .plain hc (fun a pn => ⟨fun pins s σ H D I h => h pn pins s I⟩) ih
  | named hc hi hl hL ht hb r ih => exact .named hc hi hl (fun a pn => ⟨fun pins s σ H D I h => h pn pins s I⟩) ih
/-- the exception is tracked -/
theorem PR.held {x : Xc} {cls : Value} {dd : Option Addr} {a : Addr} (p : PR ca K Hf H Em (XcR ca K Hf H cls dd x) R σ st) (na : H a = none) :
    PR ca K (upd Hf a (XcO a cls dd)) (upd H a (XcO a cls dd)) Em (Rep ca K (upd Hf a (XcO a cls dd)) (upd H a (XcO a cls dd)) Em (.ref a) (.xc x.C x.fs)) R σ st ∧ Tr (jn Em R) Hf H (jn Em R) (upd Hf a (XcO a cls dd)) (upd H a (XcO a cls dd)) := by
  obtain ⟨ec, b, fs, ed, e1, e2, kk, r⟩ := p.pend
  have p0 : PR ca K Hf H Em True R σ st := p.imp fun _ => trivial
  have n0 : Hf a = none := (wl_new (o := .xd []) p0.w na).2
  refine ⟨(p0.stand na).put ?_, tr_up n0 na⟩
  subst ec ed
  exact .xc upd_same (upd_keep n0 _ _ e2) kk (r.keep (fun b o q => upd_keep n0 b o q) fun _ q => q.elim)
theorem wish_of {E : Ends} {x : Xc} {cls : Value} {dd : Option Addr} : ∀ {hds : List ExceptHandler} {l : List Cl} {l' : List Cls1}, CHs ca X L hds l l' →
    PR ca X.K Hf H Em (XcR ca X.K Hf H cls dd x) R σ st → PostS ca X L Hf H (jn Em R) σ (hdsM l x st) E → wishC X.K (wX X) E l' cls dd σ H := by
  intro hds l l' h
  induction h with
  | nil => exact fun p q => q Hf H R σ cls dd (Tr.refl fun _ q => q) p Lk.refl
  | @plain y c t m b0 body p1 p2 hds l l' hc ht hb r ih =>
    intro p q
    unfold hdsM at q
    dsimp only at q
    cases et : t x.C with
    | none => rw [et] at q; exact q.elim
    | some b =>
      rw [et] at q
      refine ⟨b, by rw [p.pend.1]; exact ht _ _ et, fun e => ?_, fun e => ?_⟩
      · subst e
        intro a na pn
        obtain ⟨p1, t1⟩ := p.held na
        refine hb a pn _ _ R σ st E (p1.imp fun _ => trivial) ?_
        dsimp only at q
        cases em : m st with
        | next st2 =>
          rw [em] at q
          exact fun Hf2 H2 R2 σ2 t2 p2 k2 => q Hf2 H2 R2 σ2 (t1.trans t2) p2 k2
        | brk st2 =>
          rw [em] at q
          exact fun Hf2 H2 R2 σ2 t2 p2 k2 => q Hf2 H2 R2 σ2 (t1.trans t2) p2 k2
        | cont st2 =>
          rw [em] at q
          exact fun Hf2 H2 R2 σ2 t2 p2 k2 => q Hf2 H2 R2 σ2 (t1.trans t2) p2 k2
        | ret d2 st2 =>
          rw [em] at q
          exact fun Hf2 H2 P2 R2 σ2 v2 t2 p2 k2 => q Hf2 H2 P2 R2 σ2 v2 (t1.trans t2) p2 k2
        | exc y2 st2 => rw [em] at q; exact q.elim
        | fail => rw [em] at q; exact q.elim
      · subst e
        exact ih p q
  | @named y n i c t m b0 body p1 p2 hds l l' hc hi hl hL ht hb r ih =>
    intro p q
    unfold hdsM at q
    dsimp only at q
    cases et : t x.C with
    | none => rw [et] at q; exact q.elim
    | some b =>
      rw [et] at q
      refine ⟨b, by rw [p.pend.1]; exact ht _ _ et, fun e => ?_, fun e => ?_⟩
      · subst e
        intro a na pn
        obtain ⟨p1, t1⟩ := p.held na
        refine hb a pn _ _ _ (σ.set i (some (.ref a))) (st.set i (some (.xc x.C x.fs))) (endC (some i) E) (p1.store i) ?_
        have t1' := t1.trans (store_tr i)
        have k1 : Lk L σ (σ.set i (some (.ref a))) := Lk.set hL
        dsimp only at q
        cases em : m (st.set i (some (.xc x.C x.fs))) with
        | next st2 =>
          rw [em] at q
          exact fun Hf2 H2 R2 σ2 t2 p2 k2 => q Hf2 H2 R2 (σ2.set i none) (t1'.trans t2) (p2.gone i) (k1.trans (k2.trans (Lk.set hL)))
        | brk st2 =>
          rw [em] at q
          exact fun Hf2 H2 R2 σ2 t2 p2 k2 => q Hf2 H2 R2 (σ2.set i none) (t1'.trans t2) (p2.gone i) (k1.trans (k2.trans (Lk.set hL)))
        | cont st2 =>
          rw [em] at q
          exact fun Hf2 H2 R2 σ2 t2 p2 k2 => q Hf2 H2 R2 (σ2.set i none) (t1'.trans t2) (p2.gone i) (k1.trans (k2.trans (Lk.set hL)))
        | ret d2 st2 =>
          rw [em] at q
          exact fun Hf2 H2 P2 R2 σ2 v2 t2 p2 k2 => q Hf2 H2 P2 R2 (σ2.set i none) v2 (t1'.trans t2) (p2.gone i) (k1.trans (k2.trans (Lk.set hL)))
        | exc y2 st2 => rw [em] at q; exact q.elim
        | fail => rw [em] at q; exact q.elim
      · subst e
        exact ih p q
theorem cs_try {body : List Stmt} {hd : ExceptHandler} {hds : List ExceptHandler} {l : List Cl} {l' : List Cls1} {pos : Pos} {mb : MS} (hs : X.stack = X.env :: X.outer) (hf : X.env.frame = some X.env.locals) (hN : X.N.Nodup)
    (hb : ∀ (pn : List (Addr × Obj)) (xe : Value → Shared → Prop), PassesOwn (model X.prog X.w) X.A X.env xe → CSs ca (X.tr pn xe) L body mb) (hh : CHs ca X L (hd :: hds) l l') :
    CS ca X L (.Try body (hd :: hds) [] [] pos) (sTry mb l) := fun Hf H R σ st E p hq => by
  refine ws_of (ps_tryC (tb := fun W D σ H => ∀ pn xe, Takes (X.tr pn xe) W → PassesOwn (model X.prog X.w) X.A X.env xe → Wss (X.tr pn xe) body D σ H) hs hf hN (takes_wX X) (fun W pn xe tk po => ⟨fun pins s σ H D I h => h pn xe tk po pins s I⟩) hh.hd) ?_
  intro pn xe tk po
  refine hb pn xe po Hf H R σ st E p ?_
  unfold sTry at hq
  cases em : mb st with
  | next st2 => rw [em] at hq; exact hq
  | brk st2 => rw [em] at hq; exact hq
  | cont st2 => rw [em] at hq; exact hq
  | ret d2 st2 => rw [em] at hq; exact hq
  | fail => rw [em] at hq; exact hq
  | exc x st2 =>
    rw [em] at hq
    intro Hf1 H1 R1 σ1 cls dd t1 p1 k1
    exact wX_of tk (wish_of hh p1 (PostS.from t1 k1 hq))

/-! ### e.f, isinstance(e, C), of a tracked exception -/
def oXf (ok : Nat → Bool) (f : Str) : List D → Option Out
  | [.xc C fs] => if ok C then (match fs.lookup f with | some d => if cold d then some (.val d) else none | none => none) else none
  | _ => none
def rXf (K : PySem.W.Frag) (f : Str) : V → Hp → VK → Prop := fun x H Q => ∃ (a C dd : Addr) (fs : List (Str × V)) (v : V), x = .ref a ∧ H a = some (XcO a (.ref C) (some dd)) ∧ H dd = some (.xd fs) ∧ XfC K C ∧
  PySem.W.findIn K (.ref C) f = some none ∧ fs.lookup f = some v ∧ Q v H
theorem pe_xfT {e : Expr} {te : TE} {f : Str} {pos : Pos} (he : PE X e te) (hb : attributeBase e f X.env (eval e X.env) = eval e X.env := by rfl) : PE X (.Attribute e f pos) (fun σ H Q => te σ H fun x H1 => rXf X.K f x H1 Q) := ⟨fun pins s σ H Q I h => by
  refine attr_of hb (thn (he.run pins s σ H _ I h) fun u s1 hh => ?_)
  obtain ⟨x, H1, I1, rx, a, C, dd, fs, v, ex, ea, ed, T, hno, l, q⟩ := hh
  subst ex
  obtain rfl : u = Value.ref a := rx
  have hh : ObjOk X.prog X.w H1 s1.heap a (XcO a (.ref C) (some dd)) := I1.hok a _ ea
  obtain ⟨⟨oe, vs, ha, hz, hd⟩, _⟩ := hh
  have hx : ObjOk X.prog X.w H1 s1.heap dd (.xd fs) := I1.hok dd _ ed
  obtain ⟨mA, hns, hr⟩ := hx
  obtain ⟨od, ho, hl⟩ := lookIn_ns hns
  obtain ⟨u, hu, ru⟩ := RelO.some_of (v := v) (o := mA f) (by rw [← l]; exact hr f)
  have J : PySem.W.InstAt s1.heap a oe C (some od) := by
    refine ⟨ha, hz.1, ?_, by rw [hz.2]; exact ho⟩
    unfold PySem.W.notCls
    rw [hd] <;> rfl
  exact HandSPX.exc_get I1.kIn J T.ga T.gg T.exC (PySem.W.findObj_own T.hdC hno rfl (by rw [hl, hu])) (handed_of ru) ⟨v, H1, I1.tok _, ru, q⟩⟩
theorem rep_xc {C : Nat} {gs : List (Str × D)} (hx : Ex Hf H) (r : Rep ca K Hf H S v (.xc C gs)) : ∃ a dd fs, v = .ref a ∧ H a = some (XcO a (.ref (ca C)) (some dd)) ∧ H dd = some (.xd fs) ∧ fs.map (·.1) = gs.map (·.1) ∧ RepL ca K Hf H Em (fs.map (·.2)) (gs.map (·.2)) := by
  cases r with
  | xc e e2 k r => exact ⟨_, _, _, rfl, hx _ _ e, hx _ _ e2, k, r⟩
theorem os_xf {ok : Nat → Bool} {f : Str} (hX : ∀ C, ok C = true → XfC K (ca C) ∧ PySem.W.findIn K (.ref (ca C)) f = some none) : OpS ca K (rl1 (rXf K f)) (oXf ok f) := fun Hf H vs ds o Q hx rd h q => by
  match ds, h with
  | [.xc C gs], hh =>
    dsimp only [oXf] at hh
    by_cases hC : ok C = true
    · rw [if_pos hC] at hh
      cases el : gs.lookup f with
      | none => rw [el] at hh; cases hh
      | some dd =>
        rw [el] at hh
        dsimp only at hh
        by_cases hc : cold dd = true
        · rw [if_pos hc] at hh
          cases hh
          obtain ⟨v, S, e1, r1⟩ := rdl1 rd rfl
          subst e1
          obtain ⟨a, dx, fs, rfl, e2, e3, k, r⟩ := rep_xc hx r1
          obtain ⟨j, v', h1, h2, h3⟩ := lookup_keys (j := 0) k el
          obtain ⟨v2, T2, e4, r2, _⟩ := repL_at r h3
          rw [h2] at e4
          cases e4
          have hd : hot dd = false := by unfold cold at hc; simpa using hc
          exact ⟨a, ca C, dx, fs, v', rfl, e2, e3, (hX C hC).1, (hX C hC).2, h1, q v' (r2.cold hd)⟩
        · rw [if_neg hc] at hh; cases hh
    · rw [if_neg hC] at hh; cases hh
theorem ce_xf {ok : Nat → Bool} {e : Expr} {oe : Opd} {f : Str} {pos : Pos} (hX : ∀ C, ok C = true → XfC X.K (ca C) ∧ PySem.W.findIn X.K (.ref (ca C)) f = some none) (he : CO ca X e oe) (hb : attributeBase e f X.env (eval e X.env) = eval e X.env := by rfl) : CE ca X (.Attribute e f pos) (eOp (oXf ok f) [oe]) :=
  ce_op (es := [e]) (rl := rl1 (rXf X.K f)) (fun σ H Q h => we_of (pe_xfT (we_pe X e) hb) h) (.cons he .nil) (os_xf hX)
/-- what the class says, for isinstance of its instances -/
structure XiC (K : PySem.W.Frag) (D : Addr) : Prop where
  hc : (PySem.W.clsIn K D).isSome = true
  hg : PySem.W.findIn K (.ref D) "__getattribute__" = some (some (.builtin "BaseException.__getattribute__"))
  hk : PySem.W.findIn K (.ref D) "__getattr__" = some none
  hs : PySem.W.subIn K (.ref D) (.type "BaseException") = some true
  ha : PySem.W.findIn K (.ref D) "__class__" = some (some (.builtin "object.__class__"))
  hn : PySem.W.specialIn K (.builtin "object.__class__") "__get__" = some (some (.builtin "getset_descriptor.__get__"))
  ht : PySem.W.takesIn K (.builtin "object.__class__") = some true
  hm : PySem.W.mroIn K D (.type "object") = some true
def rIsX (K : PySem.W.Frag) : List V → Hp → VK → Prop := fun xs H Q => ∃ (a D dd : Addr) (fs : List (Str × V)) (c : V) (cv : Value) (b : Bool), xs = [.ref a, c] ∧ H a = some (XcO a (.ref D) (some dd)) ∧ H dd = some (.xd fs) ∧ XiC K D ∧
  (∀ u, RelV c u → u = cv) ∧ PySem.W.kitOne K (.ref D) cv = some b ∧ Q (.bl b) H
theorem call_isX : CallR X (.builtin "isinstance") (rIsX X.K) := by
  intro pins s σ H xs us Q I r h
  obtain ⟨a, D, dd, fs, c, cv, b, rfl, ea, ed, C, hcv, e, q⟩ := h
  cases r with
  | cons rx rr =>
    cases rr with
    | cons rt rr =>
      cases rr
      cases rx
      have ec := hcv _ rt
      subst ec
      have hh : ObjOk X.prog X.w H s.heap a (XcO a (.ref D) (some dd)) := I.hok a _ ea
      obtain ⟨⟨oe, vs, ha, hz, hd⟩, _⟩ := hh
      have hx : ObjOk X.prog X.w H s.heap dd (.xd fs) := I.hok dd _ ed
      obtain ⟨mA, hns, hr⟩ := hx
      obtain ⟨od, ho, hl⟩ := lookIn_ns hns
      have J : PySem.W.InstAt s.heap a oe D (some od) := by
        refine ⟨ha, hz.1, ?_, by rw [hz.2]; exact ho⟩
        unfold PySem.W.notCls
        rw [hd] <;> rfl
      exact PySem.W.kia_one (PySem.W.kitx_exc C.hc C.hg C.hk C.hs C.ha C.hn C.ht C.hm) I.kIn J e (fun z => nomatch z) fun tk => ⟨.bl b, H, I.kept (t' := tk) fun _ _ z => z, rfl, q⟩
/-- t: the answers by the exception's class; of C a class of the text, or of T a built-in one -/
def oIsiX (t : Nat → Option Bool) (C2 : Nat) : List D → Option Out
  | [.xc C _, .cls C'] => if C' = C2 then (t C).map fun b => .val (.bl b) else none
  | _ => none
theorem os_isiX {t : Nat → Option Bool} {C2 : Nat} (hX : ∀ C b, t C = some b → XiC K (ca C) ∧ PySem.W.kitOne K (.ref (ca C)) (.ref (ca C2)) = some b) : OpS ca K (rIsX K) (oIsiX t C2) := fun Hf H vs ds o Q hx rd h q => by
  match ds, h with
  | [.xc C gs, .cls C'], hh =>
    dsimp only [oIsiX] at hh
    by_cases hC : C' = C2
    · rw [if_pos hC] at hh
      subst hC
      cases et : t C with
      | none => rw [et] at hh; cases hh
      | some b =>
        rw [et] at hh
        cases hh
        obtain ⟨v, w, S, S', e1, r1, r2⟩ := rdl2 rd rfl
        subst e1
        cases r2
        obtain ⟨a, dd, fs, rfl, e2, e3, _, _⟩ := rep_xc hx r1
        obtain ⟨h1, h2⟩ := hX C b et
        exact ⟨a, ca C, dd, fs, .ref (ca C'), .ref (ca C'), b, rfl, e2, e3, h1, fun u r => r, h2, q _ .bl⟩
    · rw [if_neg hC] at hh; cases hh
end
end DL

/-! DL51: facts of exception classes, names of the text's constants. -/
namespace DL
open PySem PySem.Spec PyProof.Rows L2
section
variable {K : PySem.W.Frag} {C D : Addr} {b : Bool}
theorem kit_ref (h1 : PySem.W.isClsIn K D = true) (h2 : PySem.W.typeIn K (.ref D) = some (.type "type")) (h3 : PySem.W.subIn K (.ref C) (.ref D) = some b) (hne : b = false → (Value.ref C == Value.ref D) = false) :
    PySem.W.kitOne K (.ref C) (.ref D) = some b := by
  have e2 : (PySem.W.clsIn K D).isSome = true := h1
  have e3 : PySem.W.kitCls K (.ref C) (.ref D) = some b := by
    show (if ((PySem.W.clsIn K D).isSome && PySem.W.typeIn K (.ref D) == some (.type "type")) = true then
      PySem.W.subIn K (.ref C) (.ref D) else none) = some b
    rw [e2, h2]
    exact (if_pos (by simp)).trans h3
  show (if (Value.ref C == Value.ref D) = true then some true else PySem.W.kitCls K (.ref C) (.ref D)) = some b
  cases b with
  | true =>
    by_cases h : (Value.ref C == Value.ref D) = true
    · rw [if_pos h]
    · rw [if_neg h, e3]
  | false =>
    rw [hne rfl, e3] <;> rfl
theorem isFn_ty {f : Addr} (h : PySem.W.isFn K (.ref f) = true) : PySem.W.typeIn K (.ref f) = some (.type "function") := eq_of_beq h
end
section
variable {ca : Nat → Addr} {X : Cx} {v : V} {d : D}
end
end DL

/-! DL52: ascending lists; the descending list decides whether all is sorted. -/
namespace Nw
open DL
def bits (b : List Int) : Prop := ∀ x ∈ b, x = 0 ∨ x = 1
/-! ### numbers as rows of bits -/
end Nw

/-! DL53: more evaluation: loops as folds, pairs of neighbours, rows of bits. -/
namespace DL
open PySem (Str)
open Nw
/-- a loop that only keeps an invariant -/
theorem forD_inv {g : MG} {body : MS} (I : Sl → Prop) : ∀ (ds : List D) (st : Sl), I st →
    (∀ d st, d ∈ ds → I st → ∃ st1 st2, g d st = .ok () st1 ∧ body st1 = .next st2 ∧ I st2) → ∃ st', forD g body ds st = .next st' ∧ I st'
  | [], st, h, _ => ⟨st, rfl, h⟩
  | d :: ds, st, h, step => by
    obtain ⟨s1, s2, e1, e2, h2⟩ := step d st List.mem_cons_self h
    obtain ⟨st', e, h3⟩ := forD_inv I ds s2 h2 fun d st hy => step d st (List.mem_cons_of_mem _ hy)
    exact ⟨st', forD_cons e1 e2 e, h3⟩
/-! ### ascending -/
/-- the places where a greater number stands to the left -/
def falls (l : List Int) : List Int := ((List.range (l.length - 1)).map fun (i : Nat) => (1 : Int) + i).filter fun p => decide (l.getD p.toNat 0 < l.getD (p - 1).toNat 0)
end DL

set_option maxHeartbeats 4000000
/-! DL54: a list in a slot is walked where it stands. -/
namespace DL
open PySem PySem.Spec PyProof.Rows L2
section
variable {ca : Nat → Addr} {K : PySem.W.Frag} {Hf H Hf1 H1 Hf2 H2 : Hp} {S S1 S2 P P1 P2 : Rg} {R R1 R2 : Nat → Rg} {pp qq : Prop} {σ σ' : L2.St} {st st' : Sl} {v : V} {d : D} {vs : List V} {ds : List D} {X : Cx} {L : List Nat}
/-- the list that stands in the slot -/
theorem PR.here {i0 : Nat} {o : Bool} {xs : List D} (p : PR ca K Hf H P pp R σ st) (h : getS st i0 = some (.lst o xs)) : ∃ a vs T, σ[i0]? = some (some (.ref a)) ∧ SqL K H a vs ∧ RepL ca K Hf H T vs xs := by
  obtain ⟨v, e, r⟩ := p.at_ i0 _ h
  obtain ⟨a, vs, T, rfl, e2, r2⟩ := rep_lst p.w.ex r
  exact ⟨a, vs, T, e, .inl (.inl e2), r2⟩
end
end DL

/-! DL55: walks of a list where it stands, evaluated. -/
namespace DL
open PySem (Str)
open Nw
end DL

/-! DL56: lists that differ are told apart by a bound; a step left out; enumerations. -/
namespace Nw
open DL
end Nw
namespace DL
open Nw
end DL

/-! DL57: domination by the profile's counts; powers. -/
namespace Nw
open DL
end Nw

/-! DL58: powers of a network. -/
namespace Nw
open DL
end Nw
namespace DL
end DL

/-! DL59: how soon a power is stable. -/
namespace Nw
open DL
end Nw

set_option maxHeartbeats 4000000
/-! DL60: xs.pop(), xs.reverse(), xs.clear() of a slot's own list. -/
namespace DL
open PySem PySem.Spec PyProof.Rows L2
section
variable {ca : Nat → Addr} {K : PySem.W.Frag} {Hf H : Hp} {R : Nat → Rg} {σ : L2.St} {st : Sl} {v : V} {d : D} {vs : List V} {ds xs : List D} {X : Cx} {S T : Rg}
end
end DL

/-! DL61: the parts between places whose step does not occur, sorted. -/
namespace Nw
open DL
end Nw
namespace DL
open Nw
end DL

set_option maxHeartbeats 4000000
/-! DL62: enumerate of a slot's list, where it stands, in a comprehension. -/
namespace DL
open PySem PySem.Spec PyProof.Rows L2
section
variable {ca : Nat → Addr} {K : PySem.W.Frag} {Hf H Hf1 H1 Hf2 H2 : Hp} {S S1 S2 P P1 P2 : Rg} {R R1 R2 : Nat → Rg} {pp qq : Prop} {σ σ' : L2.St} {st st' : Sl} {v : V} {d : D} {vs : List V} {ds : List D} {X : Cx} {L : List Nat}
end
end DL

/-! DL63: the steps walked backwards from the ascending list; the hardest list. -/
namespace Nw
open DL
def lit (l : List Int) (s : Int) : Bool := decide (l.getD (s - 1).toNat 0 < l.getD s.toNat 0)
/-! ### the ascending list -/
def asc (w : Nat) : List Int := (List.range w).map fun (i : Nat) => (1 : Int) + i
end Nw

/-! DL64: enumerate of a slot's list, evaluated. -/
namespace DL
open PySem (Str)
open Nw
end DL

/-! DL65: in, not in, for nested data; the counts of a network and of its hardest list. -/
namespace DL
open PySem PySem.Spec PyProof.Rows L2
section
variable {ca : Nat → Addr} {K : PySem.W.Frag} {Hf H : Hp} {X : Cx}
end
end DL
namespace Nw
open DL
end Nw

/-! DL66: all arrangements; all choices of steps. -/
namespace Nw
open DL
end Nw

set_option maxHeartbeats 4000000
/-! DL67: dict comprehensions of plain values, d[k]. -/
namespace DL
open PySem PySem.Spec PyProof.Rows L2
def valD (kvs : List (Key × D)) (k : Key) : Option D := (kvs.find? fun kv => decide (kv.1 = k)).map (·.2)
section
variable {ca : Nat → Addr} {K : PySem.W.Frag} {Hf H Hf1 H1 Hf2 H2 : Hp} {S S1 S2 P P1 P2 : Rg} {R R1 R2 : Nat → Rg} {pp qq : Prop} {σ σ' : L2.St} {st st' : Sl} {v : V} {d : D} {vs : List V} {ds : List D} {X : Cx} {L : List Nat}
/-- the new dict, beside all -/
structure AccD (ca : Nat → Addr) (K : PySem.W.Frag) (Hf H : Hp) (Dl : Addr) (acc : List (Key × D)) (R : Nat → Rg) (σ : L2.St) (st : Sl) : Prop where
  pr : PR ca K Hf H (fun b => b = Dl ∨ Em b) (∃ kvs : List (Key × V), H Dl = some (.dK kvs) ∧ kvs.map (·.1) = acc.map (·.1) ∧ RepL ca K Hf H Em (kvs.map (·.2)) (acc.map (·.2))) R σ st
end
end DL

/-! DL68: pairs in their order: the resolved pairs; places as a dict. -/
namespace Nw
open DL
/-- the smaller number stands to the left -/
def res (l : List Int) (p : Int × Int) : Bool := decide (l.idxOf p.1 < l.idxOf p.2)
end Nw
namespace DL
open Nw
end DL

/-! DL69: name = [.. for .. for ..]. -/
namespace DL
open PySem PySem.Spec PyProof.Rows L2
section
variable {ca : Nat → Addr} {X : Cx} {L : List Nat}
end
end DL

/-! DL70: sorting by passes; the steps that are missing; networks read backwards. -/
namespace Nw
open DL
def pass (w : Nat) : List Int := (List.range (w - 1)).map fun (i : Nat) => (1 : Int) + (i : Int)
def passes (w : Nat) : Nat → List Int
  | 0 => []
  | n + 1 => passes w n ++ pass w
/-- the steps that passes take -/
def between (w : Nat) (l : List Int) : List Int := actS (passes w w) l
/-! ### read backwards -/
def comp (w : Nat) (l : List Int) : List Int := l.map fun x => (w : Int) + 1 - x
end Nw

/-! DL71: the full network. -/
namespace Nw
open DL
end Nw

/-! DL72: numbers named by their places in another list. -/
namespace Nw
open DL
end Nw
namespace DL
end DL

/-! DL73: networks read backwards: lengths; what completes. -/
namespace Nw
open DL
end Nw

/-! DL74: mirror images. -/
namespace Nw
open DL
/-- read from the right, with opposite signs -/
def turn (l : List Int) : List Int := l.reverse.map fun x => -x
end Nw

/-! DL75: words of exchanges as permutations of places. -/
namespace Nw
open DL
end Nw

/-! DL76: the mirror image's profile; its resolved pairs. -/
namespace Nw
open DL
end Nw

/-! DL77: the mirror image's profile and rest. -/
namespace Nw
open DL
end Nw

set_option maxHeartbeats 4000000
/-! DL78: sorted(set(a list of whole numbers)), fewer than 64 of them. -/
namespace DL
open PySem PySem.Spec PyProof.Rows L2
section
variable {P : Program} {w : World} {A : Around} {E : Value → Shared → Prop} {s : Shared}
end
end DL

set_option maxHeartbeats 1000000
/-! DL79: x, *xs = a tuple. -/
namespace DL
open PySem PySem.Spec PyProof.Rows L2
section
variable {ca : Nat → Addr} {X : Cx} {L : List Nat}
end
end DL

/-! DL80: == and != that only ask the lengths: with an empty list or tuple, or lists of two lengths. -/
namespace DL
open PySem PySem.Spec PyProof.Rows L2 SeqAt
section
variable {X : Cx}
end
section
variable {ca : Nat → Addr} {K : PySem.W.Frag}
end
end DL

/-! DL81: the rest between two results: it acts fully, it leads from the one to the other, and it is the only one of its length. -/
namespace Nw
open DL
end Nw

/-! DL82: a comprehension whose test and item may freeze what the slots hold. -/
namespace DL
end DL
namespace Nw
end Nw

/-! DL83: a, b, c = x, y, z of things that nobody owns. -/
namespace DL
open PySem L2 PyProof.Rows
section
variable {ca : Nat → Addr} {X : Cx} {L : List Nat}
end
end DL

/-! DL84: the steps that are taken back from the end, until a given result is reached: with the places of these steps. -/
namespace Nw
open DL
end Nw

/-! DL85: the text of nested data in which short texts stand, too. -/
namespace DL
open PySem (Str PyData)
/-- a short text of a program -/
def okT (x : Str) : Bool := cpsOk (PyData.shown (.str x)) && (PyData.str x).canLay0 && (PyData.str x).showable && (PyData.str x).leavesShort 26
mutual
/-- short texts, no dicts, numbers of at most 25 digits -/
def smt : PyData → Bool
  | .none => true
  | .bool _ => true
  | .int i => decide (i.natAbs < 10 ^ 25)
  | .str x => okT x
  | .list xs => smtA xs
  | .tuple xs => smtA xs
  | .dict _ => false
def smtA : List PyData → Bool
  | [] => true
  | x :: xs => smt x && smtA xs
end
mutual
theorem smt_cps : ∀ p : PyData, smt p = true → cpsOk p.shown = true
  | .none, _ => cps_str "None"
  | .bool b, _ => by cases b <;> exact cps_str _
  | .int i, _ => cps_str (toString i)
  | .str _, h => by
    rw [smt, okT, Bool.and_eq_true, Bool.and_eq_true, Bool.and_eq_true] at h
    exact h.1.1.1
  | .list xs, h => by rw [smt] at h; rw [PyData.shown]; exact cps_list (smtA_cps xs h)
  | .tuple xs, h => by rw [smt] at h; rw [PyData.shown]; exact cps_tup (smtA_cps xs h)
  | .dict _, h => by rw [smt] at h; cases h
theorem smtA_cps : ∀ xs : List PyData, smtA xs = true → ∀ t ∈ PyData.shownAll xs, cpsOk t = true
  | [], _, t, ht => by rw [PyData.shownAll] at ht; cases ht
  | x :: xs, h, t, ht => by
    rw [smtA, Bool.and_eq_true] at h
    rw [PyData.shownAll] at ht
    rcases List.mem_cons.mp ht with rfl | ht
    · exact smt_cps x h.1
    · exact smtA_cps xs h.2 t ht
end
mutual
theorem smt_all : ∀ p : PyData, smt p = true → p.canLay0 = true ∧ p.showable = true ∧ p.leavesShort 26 = true
  | .none, _ => ⟨rfl, rfl, rfl⟩
  | .bool _, _ => ⟨rfl, rfl, rfl⟩
  | .int i, h => by
    rw [smt, decide_eq_true_eq] at h
    refine ⟨rfl, ?_, ?_⟩
    · rw [PyData.showable, decide_eq_true_eq]
      have := log_small h
      omega
    · rw [PyData.leavesShort, decide_eq_true_eq]
      exact int_len h
  | .str _, h => by
    rw [smt, okT, Bool.and_eq_true, Bool.and_eq_true, Bool.and_eq_true] at h
    exact ⟨h.1.1.2, h.1.2, h.2⟩
  | .list xs, h => by rw [smt] at h; rw [PyData.canLay0, PyData.showable, PyData.leavesShort]; exact smtA_all xs h
  | .tuple xs, h => by rw [smt] at h; rw [PyData.canLay0, PyData.showable, PyData.leavesShort]; exact smtA_all xs h
  | .dict _, h => by rw [smt] at h; cases h
theorem smtA_all : ∀ xs : List PyData, smtA xs = true → PyData.canLayAll0 xs = true ∧ PyData.showableAll xs = true ∧ PyData.leavesShortAll 26 xs = true
  | [], _ => ⟨rfl, rfl, rfl⟩
  | x :: xs, h => by
    rw [smtA, Bool.and_eq_true] at h
    obtain ⟨a, b, c⟩ := smt_all x h.1
    obtain ⟨a2, b2, c2⟩ := smtA_all xs h.2
    rw [PyData.canLayAll0, PyData.showableAll, PyData.leavesShortAll, a, b, c, a2, b2, c2]
    exact ⟨rfl, rfl, rfl⟩
end
/-- data whose text is told: how heavy, how deep -/
structure Rq (p : PyData) : Prop where
  s : smt p = true
  w : p.weight ≤ 500000
  d : p.depth ≤ 60
theorem Rq.ok {p : PyData} (h : Rq p) : rpOk p = true := by
  obtain ⟨a, b, c⟩ := smt_all p h.s
  have l := PyData.shown_le 26 (by decide) p c
  have w := h.w
  have l2 : p.shown.length ≤ 16777216 := by omega
  unfold rpOk
  rw [a, b, PyData.hasDict_of_canLay p a, decide_eq_true (Nat.le_trans h.d (by decide)), decide_eq_true l2]
  rfl
theorem Rq.repr {x : D} {p : PyData} (h : Rq p) (e : toPy x = p) : oRepr [x] = some (.val (.str p.shown)) := by
  subst e
  show (if _ then _ else _) = _
  rw [if_pos h.ok]
theorem Rq.shaped {p : PyData} (h : Rq p) : PySem.SeqAt.shaped (toPy (.str p.shown)) = true := by
  rw [toPy]
  unfold PySem.SeqAt.shaped
  rw [PyData.canLay0, PyData.depth]
  have := smt_cps p h.s
  unfold cpsOk at this
  rw [show PyData.strOk p.shown = true from this]
  rfl
theorem Rq.ne {p : PyData} (h : Rq p) : f2 pNe [.str p.shown, .str p.shown] = some (.val (.bl false)) := by
  refine ne_of ?_
  unfold pNe
  rw [h.shaped, toPy, PyData.eqv]
  simp
theorem Rq.eq {p : PyData} (h : Rq p) : f2 pEq [.str p.shown, .str p.shown] = some (.val (.bl true)) := by
  refine eq_of ?_
  unfold pEq
  rw [h.shaped, toPy, PyData.eqv]
  simp

end DL

/-! DL86: which lists of any numbers a network sorts: told by the places of the numbers up to each threshold. -/
namespace Nw
open DL
/-! ### places -/
end Nw

/-! DL87: a op b op c as a test. -/
namespace DL
open PySem L2 PyProof.Rows
section
variable {ca : Nat → Addr} {X : Cx}
end
end DL

/-! DL88: name *= number. -/
namespace DL
open PySem L2 PyProof.Rows
end DL

/-! DL89: a loop that returns what its first item that has an answer says; the places where one list falls behind another. -/
namespace DL
end DL
namespace Nw
open DL
end Nw

/-! DL90: which class a clause of try names. -/
namespace PySem.W
open PySem
theorem exm_ref {K : PySem.W.Frag} {C D : Addr} {b : Bool} (h1 : PySem.W.subIn K (.ref D) (.type "BaseException") = some true) (h2 : PySem.W.isClsIn K D = true) (h3 : PySem.W.typeIn K (.ref D) = some (.type "type")) (h4 : PySem.W.subIn K (.ref C) (.ref D) = some b) : PySem.W.exmOne K (.ref C) (.ref D) = some b := by
  have e1 : (PySem.W.subIn K (.ref D) (.type "BaseException") == some true) = true := by rw [h1] <;> rfl
  have h2' : (PySem.W.clsIn K D).isSome = true := h2
  have e2 : ((PySem.W.clsIn K D).isSome && PySem.W.typeIn K (.ref D) == some (.type "type")) = true := by
    rw [h2', h3] <;> rfl
  unfold PySem.W.exmOne
  rw [if_pos e1]
  show (if ((PySem.W.clsIn K D).isSome && PySem.W.typeIn K (.ref D) == some (.type "type")) = true then PySem.W.subIn K (.ref C) (.ref D) else none) = some b
  rw [if_pos e2]
  exact h4
end PySem.W

/-! DL91: the sets of places that a network moves in front, found by trying all; the one of them that is nowhere less. -/
namespace Nw
open DL
/-! ### zeros at the places -/
def bitsOf (w : Nat) (S : List Int) : List Int := (asc w).map fun p => if p ∈ S then 0 else 1
def front (w : Nat) (A S : List Int) : Bool := decide (((runL A (bitsOf w S)).take S.length).sum = 0)
end Nw

/-! DL92: evaluation where an exception is raised or caught; values of mixed kinds. -/
namespace DL
open PySem (Str)
section
variable {st st1 st2 st3 : Sl} {a b d : D} {ds es : List D} {m m1 m2 : ME} {ms ns : MA} {F : MF} {x : Xc} {ps : Sl} {i : Nat} {f : List D → Option Out} {t : MT} {s1 s2 : MS} {r : SR}
theorem fn_goX {n w : Nat} {L : List Nat} {body : MS} (hl : ds.length = n) (h : body (ds.map some ++ List.replicate (w - n) none) = .exc x st) : fn n w L body ds = .exc x (keepL L n st) := by
  unfold fn
  rw [if_pos hl, h]
theorem xCallX (h : ms st = .ok ds st1) (hf : F ds = .exc x ps) : eCall F ms st = .exc x st1 := by
  unfold eCall
  rw [h]
  show (match F ds with | .ok d _ => Res.ok d st1 | .exc x _ => .exc x st1 | .fail => .fail) = _
  rw [hf]
theorem zExprX (h : m st = .exc x st1) : sExpr m st = .exc x st1 := by unfold sExpr; rw [h]; rfl
theorem zSeqX (h : s1 st = .exc x st1) : sSeq s1 s2 st = .exc x st1 := by unfold sSeq; rw [h]; rfl
theorem zRaise {C : Nat} {fs : List Str} (h : ms st = .ok ds st1) (hl : ds.length = fs.length) : sRaise C fs ms st = .exc ⟨C, (fs.zip (frzL ds)).reverse⟩ st1 := by
  unfold sRaise
  rw [h]
  show (if _ then _ else _) = _
  rw [if_pos hl]
theorem zTryR {hs : List Cl} (h : s1 st = .ret d st1) : sTry s1 hs st = .ret d st1 := by unfold sTry; rw [h]
theorem zTryX {hs : List Cl} (h : s1 st = .exc x st1) (h2 : hdsM hs x st1 = r) : sTry s1 hs st = r := by unfold sTry; rw [h]; exact h2
theorem zHere {tt : Nat → Option Bool} {j : Nat} {hs : List Cl} {mm : MS} (ht : tt x.C = some true) (h : mm (st.set j (some (.xc x.C x.fs))) = .ret d st1) : hdsM (⟨tt, some j, mm⟩ :: hs) x st = .ret d (st1.set j none) := by
  rw [hdsM, ht]
  show goneS (some j) (mm (st.set j (some (.xc x.C x.fs)))) = _
  rw [h]
  rfl
theorem forD_ret {g : MG} {B : MS} {d v : D} {ds : List D} {st st1 st2 : Sl} (h1 : g d st = .ok () st1) (h2 : B st1 = .ret v st2) : forD g B (d :: ds) st = .ret v st2 := by
  rw [forD, h1]
  show (match B st1 with | .next st2 => _ | .cont st2 => _ | .brk st2 => _ | r => r) = _
  rw [h2]
theorem forD_exc {g : MG} {B : MS} {d : D} {ds : List D} {st st1 st2 : Sl} (h1 : g d st = .ok () st1) (h2 : B st1 = .exc x st2) : forD g B (d :: ds) st = .exc x st2 := by
  rw [forD, h1]
  show (match B st1 with | .next st2 => _ | .cont st2 => _ | .brk st2 => _ | r => r) = _
  rw [h2]
end
/-! ### values of mixed kinds -/
inductive It : D → Prop where
  | int (i : Int) : It (.int i)
  | bl (b : Bool) : It (.bl b)
  | non : It .non
  | str (s : Str) : It (.str s)
  | lst (xs : List D) (h : frzL xs = xs) : It (.lst false xs)
  | tup (xs : List D) (h : frzL xs = xs) : It (.tup xs)
theorem It.frz {d : D} (h : It d) : frz d = d := by
  cases h with
  | int i => rfl
  | bl b => rfl
  | non => rfl
  | str s => rfl
  | lst xs h => rw [DL.frz, h]
  | tup xs h => rw [DL.frz, h]
theorem It.hot {d : D} (h : It d) : hot d = false := by cases h <;> rfl
theorem It.cold {d : D} (h : It d) : cold d = true := by cases h <;> rfl
theorem it_nums (l : List Int) : It (.lst false (nums l)) := .lst _ (by have := nums_frz l; exact this)
theorem it_tup (l : List Int) : It (.tup (nums l)) := .tup _ (nums_frz l)
def isL : D → Bool
  | .lst _ _ => true
  | _ => false
def isI : D → Bool
  | .int _ => true
  | .bl _ => true
  | _ => false
def isB : D → Bool
  | .bl _ => true
  | _ => false
def isT : D → Bool
  | .tup _ => true
  | _ => false
theorem isi_int {d : D} (h : It d) : oIsiB "int" [d, .ty "int"] = some (.val (.bl (isI d))) := by
  cases h with
  | int i => simp [oIsiB, tyName, noScr, kb_int_int, isI]
  | bl b => simp [oIsiB, tyName, noScr, kb_bool_int, isI]
  | non  => simp [oIsiB, tyName, noScr, kb_NoneType_int, isI]
  | str s => simp [oIsiB, tyName, noScr, kb_str_int, isI]
  | lst xs h => simp [oIsiB, tyName, noScr, kb_list_int, isI]
  | tup xs h => simp [oIsiB, tyName, noScr, kb_tuple_int, isI]
theorem isi_bool {d : D} (h : It d) : oIsiB "bool" [d, .ty "bool"] = some (.val (.bl (isB d))) := by
  cases h with
  | int i => simp [oIsiB, tyName, noScr, kb_int_bool, isB]
  | bl b => simp [oIsiB, tyName, noScr, kb_bool_bool, isB]
  | non  => simp [oIsiB, tyName, noScr, kb_NoneType_bool, isB]
  | str s => simp [oIsiB, tyName, noScr, kb_str_bool, isB]
  | lst xs h => simp [oIsiB, tyName, noScr, kb_list_bool, isB]
  | tup xs h => simp [oIsiB, tyName, noScr, kb_tuple_bool, isB]
theorem isi_list {d : D} (h : It d) : oIsiB "list" [d, .ty "list"] = some (.val (.bl (isL d))) := by
  cases h with
  | int i => simp [oIsiB, tyName, noScr, kb_int_list, isL]
  | bl b => simp [oIsiB, tyName, noScr, kb_bool_list, isL]
  | non  => simp [oIsiB, tyName, noScr, kb_NoneType_list, isL]
  | str s => simp [oIsiB, tyName, noScr, kb_str_list, isL]
  | lst xs h => simp [oIsiB, tyName, noScr, kb_list_list, isL]
  | tup xs h => simp [oIsiB, tyName, noScr, kb_tuple_list, isL]
/-- the first place, from k on, that ok does not keep -/
def badAt (ok : Nat → D → Bool) : Nat → List D → Option Nat
  | _, [] => none
  | k, d :: ds => if ok k d then badAt ok (k + 1) ds else some k
theorem enumD_cons (k : Nat) (d : D) (ds : List D) : enumD k (d :: ds) = .tup [.int (k : Int), d] :: enumD (k + 1) ds := by
  rfl
end DL

/-! DL93: lists of a word and a value compared. -/
namespace DL
open PySem PySem.SeqAt
end DL

/-! DL94: str(int); an empty dict's display. -/
namespace DL
open PySem PySem.Spec PyProof.Rows L2
def eDn : ME := fun st => .ok (.dic true []) st
section
variable {ca : Nat → Addr} {K : PySem.W.Frag} {Hf H Hf1 H1 Hf2 H2 : Hp} {S P P1 P2 : Rg} {R R1 R2 : Nat → Rg} {pp : Prop} {σ : L2.St} {st : Sl} {v : V} {d : D} {vs : List V} {ds : List D} {X : Cx} {L : List Nat}
theorem post_newD {Q : VK} {a : Addr} (p : PR ca X.K Hf H P pp R σ st) (h : Post ca X Hf H S σ (.ok (.dic true []) st) Q) (hS : ∀ b, tot R b → S b) (hn : H a = none) : Q (.ref a) (upd H a (.dK [])) := by
  refine h Hf (upd H a (.dK [])) (fun b => b = a) R (.ref a) ⟨fun _ _ e => e, fun b o e _ => upd_keep hn b o e, fun b q => ?_, fun _ _ e => .inl e⟩ (p.drop.grow hn (Rep.dicO rfl upd_same rfl .nil) fun b q => q)
  rcases q with q | q
  · subst q; exact .inr hn
  · exact .inl (hS b q)
theorem ce_dn {pos : Pos} : CE ca X (.Dict [] [] pos) eDn := ce_of pe_dnewK fun Hf H R σ st Q p h => fun a hn => post_newD p h (fun b q => .inr q) hn
end
theorem xDn {st : Sl} : eDn st = .ok (.dic true []) st := rfl
end DL

/-! DL95: repr of data or of an empty dict. -/
namespace DL
open PySem PySem.Spec PyProof.Rows L2
section
variable {ca : Nat → Addr} {K : PySem.W.Frag} {Hf H Hf1 H1 : Hp} {S : Rg} {X : Cx} {v : V} {d : D}
end
end DL

/-! DL96: str * int, bool(int). -/
namespace DL
open PySem PySem.Spec PyProof.Rows L2 Builtin Builtin.Str
section
variable {ca : Nat → Addr} {K : PySem.W.Frag} {Hf H Hf1 H1 : Hp} {S S1 : Rg} {X : Cx} {v : V} {d : D}
end
end DL

/-! DL97: small evaluations, texts' heads, loops that seek (shared by laws of mixed values). -/
namespace DL
open PySem (Str)
open Nw
theorem wEn0 {m : ME} {st st1 : Sl} {o : Bool} {ds : List D} (h : m st = .ok (.lst o ds) st1) (hc : colds ds = true) : iEn m st = .ok (enumD 0 ds) st1 := by
  unfold iEn
  rw [h]
  show (if colds ds = true then _ else _) = _
  rw [if_pos hc]
theorem len_any {o : Bool} {xs : List D} : oLen [.lst o xs] = some (.val (.int (xs.length : Int))) := rfl
theorem rep_d {o : Bool} {d : D} (hd : cold d = true) {k : Nat} (hk : k ≤ 1000) : oMul [.lst o [d], .int (k : Int)] = some (.newL (List.replicate k d)) := by
  have fl : ∀ k : Nat, (List.replicate k [d]).flatten = List.replicate k d := fun k => by
    induction k with
    | zero => rfl
    | succ k ih => rw [List.replicate_succ, List.flatten_cons, ih, List.replicate_succ]; rfl
  have hc : colds [d] = true := by
    unfold colds
    rw [List.all_cons, hd]
    rfl
  show (if colds [d] && decide (-(2 ^ 63) ≤ (k : Int) ∧ (k : Int) < 2 ^ 63 ∧ [d].length * (k : Int).toNat ≤ 16777216) then some (Out.newL (List.replicate (k : Int).toNat [d]).flatten) else none) = _
  rw [hc, Bool.true_and, decide_eq_true ⟨by omega, by omega, by rw [List.length_singleton, Int.toNat_natCast]; omega⟩, if_pos rfl, Int.toNat_natCast, fl]
theorem add_any {o p : Bool} {xs ys : List D} (hc : colds (xs ++ ys) = true) (hl : xs.length + ys.length ≤ 1000000) : oAdd [.lst o xs, .lst p ys] = some (.newL (xs ++ ys)) := by
  show newLc (xs ++ ys) = _
  unfold newLc
  rw [hc, List.length_append]
  exact if_pos (by simp; omega)
def intD : D → Bool
  | .int _ => true
  | _ => false
end DL

/-! DL98: the texts of lists tell their items' texts. -/
namespace DL
open PySem (Str)
end DL

/-! DL99: a, b = a list. -/
namespace DL
open PySem PySem.Spec PyProof.Rows L2
section
variable {ca : Nat → Addr} {X : Cx} {L : List Nat}
end
end DL

/-! DL100 (Nw): the moves drop, double, swap, turn. -/
namespace Nw
open DL
open PySem (Str)
def dist (a b : Int) : Int := if a - b < 0 then -(a - b) else a - b
end Nw

/-! DL101: f-strings; repr of an instance by its own __repr__; == of an instance and another value. -/
namespace DL
open PySem PySem.Spec PyProof.Rows L2
section
variable {ca : Nat → Addr} {K : PySem.W.Frag} {Hf H Hf1 H1 Hf2 H2 : Hp} {S P : Rg} {R R1 R2 : Nat → Rg} {σ : L2.St} {st : Sl} {v : V} {d : D} {vs : List V} {ds : List D} {X : Cx} {L : List Nat}
/-- the parts -/
inductive CJ (ca : Nat → Addr) (X : Cx) : List Expr → List ME → Prop where
  | nil : CJ ca X [] []
  | cons {e : Expr} {m : ME} {es : List Expr} {ms : List ME} (h : CE ca X e m) (r : CJ ca X es ms) : CJ ca X (e :: es) (m :: ms)
end
end DL

/-! DL102: an instance made with a slot lent. -/
namespace DL
open PySem PySem.Spec PyProof.Rows L2
section
variable {ca : Nat → Addr} {K : PySem.W.Frag} {Hf H Hf1 H1 Hf2 H2 : Hp} {S P : Rg} {R R1 R2 : Nat → Rg} {σ : L2.St} {st : Sl} {v : V} {d : D} {vs : List V} {ds : List D} {X : Cx} {L : List Nat}
end
end DL

/-! DL103: the text of a network; f-strings, repr of instances evaluated; lists of mixed values searched. -/
namespace DL
open PySem (Str PyData)
/-- the text of a list of numbers -/
abbrev lsT (S : List Int) : Str := (Py.py S).shown
structure SmS (S : List Int) : Prop where
  s : ∀ x ∈ S, 0 ≤ x ∧ x ≤ 40
  l : S.length ≤ 1000
theorem SmS.rp {S : List Int} (h : SmS S) : Rp (Py.py S) := rp_nums (fun x hx => by have := h.s x hx; omega) (by have := h.l; omega)
theorem SmS.len {S : List Int} (h : SmS S) : (lsT S).length ≤ 16000000 := by
  have r := h.rp
  obtain ⟨a, b, c⟩ := sml_all _ r.s
  have l := PyData.shown_le 26 (by decide) _ c
  have w := r.w
  show (Py.py S).shown.length ≤ _
  omega
end DL

/-! DL104: functions called by keyword. -/
namespace DL
open PySem L2 PyProof.Rows
/-- keywords, from the left: their names, their expressions -/
inductive KwL : List Keyword → List Str → List Expr → Prop where
  | nil : KwL [] [] []
  | cons {n : Str} {e : Expr} {p : Pos} {ks : List Keyword} {nm : List Str} {es : List Expr} (r : KwL ks nm es) : KwL (⟨some n, e, p⟩ :: ks) (n :: nm) (e :: es)
/-- how the values given by keyword go to the parameters -/
structure Pm where
  pm : (α : Type) → List α → List α
  len : ∀ (α : Type) (l : List α), (pm α l).length = l.length
  vals : ∀ (vs : List V) (us : List Value), Vals vs us → Vals (pm V vs) (pm Value us)
  rep : ∀ (ca : Nat → Addr) (K : PySem.W.Frag) (Hf H : Hp) (S : Rg) (vs : List V) (ds : List D), RepL ca K Hf H S vs ds → RepL ca K Hf H S (pm V vs) (pm D ds)
section
variable {P : Program} {w : World} {K : PySem.W.Frag} {mg : Str → Option Value} {base : Heap} {ca : Nat → Addr} {L : List Nat}
end
section
variable {ca : Nat → Addr} {Hf H : Hp} {S P : Rg} {R : Nat → Rg} {σ : L2.St} {st : Sl} {X : Cx}
end
end DL

/-! DL105: a call that gets a slot's flat list for its time only: what it hands back holds no list of others. -/
namespace DL
open PySem L2 PyProof.Rows
section
variable {ca : Nat → Addr} {K : PySem.W.Frag} {Hf H Hf1 H1 Hf2 H2 : Hp} {S P : Rg} {R R1 R2 : Nat → Rg} {σ : L2.St} {st : Sl} {v : V} {d : D} {vs : List V} {ds : List D} {X : Cx} {L : List Nat}
end
end DL

/-! DL106: a for over an owned list whose items are handed to the loop's name with their ownership, and taken back behind each turn. -/
namespace DL
open PySem L2 PyProof.Rows
section
variable {ca : Nat → Addr} {K : PySem.W.Frag} {Hf H Hf1 H1 Hf2 H2 : Hp} {S S1 S2 P : Rg} {R R1 R2 : Nat → Rg} {pp qq : Prop} {σ σ' : L2.St} {st st' : Sl} {v : V} {d : D} {vs : List V} {ds : List D} {X : Cx} {L : List Nat}
end
end DL

/-! DL107: the forms of DL105, DL106 evaluated. -/
namespace DL
open PySem (Str)
end DL

/-! DL108: construction that raises; == of an instance and a value, evaluated; texts joined by +. -/
namespace DL
open PySem (Str PyData)
end DL

/-! DL109: a call of what an expression answers: a def of the text, handed about as a value. -/
namespace DL
open PySem L2 PyProof.Rows
section
variable {ca : Nat → Addr} {K : PySem.W.Frag} {Hf H Hf1 H1 : Hp} {S P : Rg} {R R1 : Nat → Rg} {σ : L2.St} {st : Sl} {X : Cx}
end
end DL

/-! DL110: xs.insert(i, y); xs[a:c] = ys. -/
namespace DL
open PySem L2 PyProof.Rows
section
variable {X : Cx}
end
section
variable {ca : Nat → Addr} {K : PySem.W.Frag} {Hf H Hf1 H1 : Hp} {S P : Rg} {R R1 : Nat → Rg} {σ : L2.St} {st : Sl} {X : Cx} {L : List Nat}
end
/-! evaluated -/
end DL

/-! DL111: len(set(xs)), xs a list of distinct tuples of numbers. -/
namespace DL
open PySem PySem.Spec PyProof.Rows L2
section
variable {X : Cx}
end
section
variable {ca : Nat → Addr} {K : PySem.W.Frag} {Hf H : Hp} {S T : Rg} {X : Cx}
end
end DL

/-! DL112: tuple + tuple. -/
namespace DL
open PySem PySem.Spec PyProof.Rows L2
section
variable {ca : Nat → Addr} {K : PySem.W.Frag} {Hf H Hf1 H1 : Hp} {S S1 : Rg} {X : Cx} {v : V} {d : D}
end
end DL

/-! DL113: in, not in, for a tuple of nested data. -/
namespace DL
open PySem PySem.Spec PyProof.Rows L2
end DL

/-! DL114: a step behind a normal word changes its code in at most one place, by one. -/
namespace Nw
/-- one place is one greater -/
def bump : List Nat → List Nat → Prop
  | c :: r, d :: s => (d = c + 1 ∧ s = r) ∨ (d = c ∧ bump r s)
  | _, _ => False
end Nw

/-! DL115: range(a, b, c) with a written c. -/
namespace DL
open PySem L2 PyProof.Rows
section
variable {ca : Nat → Addr} {K : PySem.W.Frag} {Hf H Hf1 H1 Hf2 H2 : Hp} {S S1 S2 P P1 P2 : Rg} {R R1 R2 : Nat → Rg} {pp qq : Prop} {σ σ' : L2.St} {st st' : Sl} {v : V} {d : D} {vs : List V} {ds : List D} {X : Cx} {L : List Nat}
end
end DL

/-! DL116: dicts of written strings; d.get(k, x). -/
namespace DL
open PySem PySem.Spec PyProof.Rows L2
/-- a dict's display of written strings -/
inductive KvL : List (Option Expr) → List Expr → List (Str × Str) → Prop where
  | nil : KvL [] [] []
  | cons {k v : Str} {j1 j2 : Nat} {p1 p2 : Pos} {ks : List (Option Expr)} {vs : List Expr} {kvs : List (Str × Str)} (r : KvL ks vs kvs) : KvL (some (.Constant (.str k) j1 p1) :: ks) (.Constant (.str v) j2 p2 :: vs) ((k, v) :: kvs)
section
end
section
variable {ca : Nat → Addr} {K : PySem.W.Frag} {Hf H Hf1 H1 Hf2 H2 : Hp} {S P P1 P2 : Rg} {R R1 R2 : Nat → Rg} {pp : Prop} {σ : L2.St} {st : Sl} {v : V} {d : D} {vs : List V} {ds : List D} {X : Cx} {L : List Nat}
end
end DL

/-! DL117: x, y = a, b where a name is used in a block: by way of a tuple that nobody else sees. -/
namespace DL
open PySem L2 PyProof.Rows
section
variable {ca : Nat → Addr} {K : PySem.W.Frag} {Hf H Hf1 H1 : Hp} {S P : Rg} {R : Nat → Rg} {σ : L2.St} {st : Sl} {v w : V} {d e : D} {vs : List V} {ds : List D} {X : Cx} {L : List Nat}
end
end DL

/-! DL118: moves keep the effect; moves turned round lead back. -/
namespace Nw
open PySem (Str)
open DL
inductive MvC : List Int → Str → Nat → List Int → Prop where
  | double (A : List Int) (x : Int) (r : List Int) (h : (A ++ x :: r).length < 1000) : MvC (A ++ x :: r) "double" A.length (A ++ x :: x :: r)
  | drop (A : List Int) (x : Int) (r : List Int) : MvC (A ++ x :: x :: r) "drop" A.length (A ++ x :: r)
  | swap (A : List Int) (x y : Int) (r : List Int) (h : 2 ≤ dist x y) : MvC (A ++ x :: y :: r) "swap" A.length (A ++ y :: x :: r)
  | turn (A : List Int) (x y : Int) (r : List Int) (h : dist x y = 1) : MvC (A ++ x :: y :: x :: r) "turn" A.length (A ++ y :: x :: y :: r)
/-! ### the effect -/
/-! ### turned round -/
end Nw

/-! DL119: a comprehension whose first turn freezes a slot; d.get evaluated. -/
namespace DL
open PySem (Str)
open Nw
section
variable {α : Type}
end
end DL

/-! DL120: DL105 for any items that are not owned (made from DL105, DL107 by a program). -/
namespace DL
open PySem L2 PyProof.Rows
section
variable {ca : Nat → Addr} {K : PySem.W.Frag} {Hf H Hf1 H1 Hf2 H2 : Hp} {S P : Rg} {R R1 R2 : Nat → Rg} {σ : L2.St} {st : Sl} {v : V} {d : D} {vs : List V} {ds : List D} {X : Cx} {L : List Nat}
end
end DL
namespace DL
open PySem (Str)
end DL

/-! DL121: moves that bring a step into a normal word. -/
namespace Nw
open PySem (Str)
open DL
/-! ### a block of a normal word -/
def blk (hi : Int) (n : Nat) : List Int := (List.range n).map fun (t : Nat) => hi - (t : Int)
/-! ### the moves for one more step; the code's last count stands in front -/
end Nw

/-! DL122: moves that lead to the normal word. -/
namespace Nw
open PySem (Str)
open DL
end Nw

/-! DL123: a loop over a slot's list, by places. -/
namespace DL
open PySem (Str)
end DL

/-! DL124: classmethods called by keyword alone. -/
namespace DL
open PySem L2 PyProof.Rows
section
variable {P : Program} {w : World} {K : PySem.W.Frag} {mg : Str → Option Value} {base : Heap} {ca : Nat → Addr} {L : List Nat}
end
section
variable {ca : Nat → Addr} {Hf H : Hp} {S P : Rg} {R : Nat → Rg} {σ : L2.St} {st : Sl} {X : Cx}
end
end DL

/-! DL125: == and != of two values that are both instances (own __eq__) or both data. -/
namespace DL
open PySem L2 PyProof.Rows
section
variable {ca : Nat → Addr} {Hf H : Hp} {S P : Rg} {R : Nat → Rg} {σ : L2.St} {st : Sl} {X : Cx}
end
end DL

/-! DL126: != of two lists of data among which empty dicts may be. -/
namespace DL
open PySem L2 PyProof.Rows
/-- two items whose comparison is known -/
def EI (K : PySem.W.Frag) (H : Hp) (x y : V) (b : Bool) : Prop :=
  (∃ d e, Dp K H x d ∧ Dp K H y e ∧ d.canLay0 = true ∧ e.canLay0 = true ∧ min d.depth e.depth ≤ 60 ∧ b = PyData.eqv d e) ∨
    ∃ p q, x = .ref p ∧ y = .ref q ∧ H p = some (.dK []) ∧ H q = some (.dK []) ∧ b = true
inductive EIs (K : PySem.W.Frag) (H : Hp) : List V → List V → List Bool → Prop where
  | nil : EIs K H [] [] []
  | cons {x y : V} {b : Bool} {xs ys : List V} {bs : List Bool} (h : EI K H x y b) (r : EIs K H xs ys bs) : EIs K H (x :: xs) (y :: ys) (b :: bs)
section
variable {ca : Nat → Addr} {K : PySem.W.Frag} {Hf H : Hp} {S : Rg} {X : Cx} {pins : List (Addr × Obj)} {σ : L2.St} {s : Shared}
end
end DL

/-! DL127: d[k] = v at a slot's own dict; k in d. -/
namespace DL
open PySem PySem.Spec PyProof.Rows L2
section
variable {ca : Nat → Addr} {K : PySem.W.Frag} {Hf H Hf1 H1 Hf2 H2 : Hp} {S S1 S2 P P1 P2 : Rg} {R R1 R2 : Nat → Rg} {pp qq : Prop} {σ σ' : L2.St} {st st' : Sl} {v : V} {d : D} {vs : List V} {ds : List D} {X : Cx} {L : List Nat}
end
end DL

/-! DL128: rows[e].append(x), rows a slot's own list of own lists, x a name. -/
namespace DL
open PySem PySem.Spec PyProof.Rows L2
section
variable {ca : Nat → Addr} {K : PySem.W.Frag} {Hf H Hf1 H1 Hf2 H2 : Hp} {S S1 S2 P P1 P2 : Rg} {R R1 R2 : Nat → Rg} {pp qq : Prop} {σ σ' : L2.St} {st st' : Sl} {v : V} {d : D} {vs : List V} {ds : List D} {X : Cx} {L : List Nat}
end
end DL

/-! DL129: max of a list of ints; with a default. -/
namespace DL
open PySem PySem.Spec PyProof.Rows L2
section
variable {ca : Nat → Addr} {K : PySem.W.Frag} {Hf H : Hp} {S : Rg} {X : Cx} {v : V} {d : D} {vs : List V} {ds : List D}
end
end DL

set_option maxHeartbeats 4000000
/-! DL130: for .. in zip(xs, e), xs a slot's list that is walked where it stands. -/
namespace DL
open PySem PySem.Spec PyProof.Rows L2
section
variable {ca : Nat → Addr} {K : PySem.W.Frag} {Hf H Hf1 H1 Hf2 H2 : Hp} {S S1 S2 P P1 P2 : Rg} {R R1 R2 : Nat → Rg} {pp qq : Prop} {σ σ' : L2.St} {st st' : Sl} {v : V} {d : D} {vs : List V} {ds : List D} {X : Cx} {L : List Nat}
end
end DL

/-! DL131: earliest rounds of steps, longest chains (the plain part of k55's law). -/
namespace DL
open PySem (Str)
open Nw
/-! ### levels -/
def nr (x y : Int) : Prop := x - y ≤ 1 ∧ y - x ≤ 1
structure Ear (ss E : List Int) : Prop where
  le : E.length ≤ ss.length
  pos : ∀ (i : Nat) (v : Int), E[i]? = some v → 1 ≤ v
  lt : ∀ (i : Nat) (v s : Int) (j : Nat) (x t : Int), E[i]? = some v → ss[i]? = some s → j < i → E[j]? = some x → ss[j]? = some t → nr t s → x < v
  wait : ∀ (i : Nat) (v s : Int), E[i]? = some v → ss[i]? = some s → v = 1 ∨ ∃ (j : Nat) (x t : Int), j < i ∧ E[j]? = some x ∧ ss[j]? = some t ∧ nr t s ∧ v = x + 1
/-! ### the dict of the latest steps -/
/-- the dict holds, for each step value, the last index below k -/
structure La (ss : List Int) (k : Nat) (kvs : List (L2.Key × D)) : Prop where
  len : kvs.length ≤ k
  no : ∀ x, valD kvs (.inl x) = none → ∀ j, j < k → ss[j]? ≠ some x
  yes : ∀ x d, valD kvs (.inl x) = some d → ∃ j : Nat, d = .int (j : Int) ∧ j < k ∧ ss[j]? = some x ∧ ∀ j', j < j' → j' < k → ss[j']? ≠ some x
/-! ### the levels of the package -/
abbrev LV := Int × Option Nat
structure Lev (ss : List Int) (L : List LV) : Prop where
  e : Ear ss (L.map (·.1))
  w : ∀ (i : Nat) (p : LV), L[i]? = some p → (p.1 = 1 ∧ p.2 = none) ∨ ∃ (j : Nat) (t s x : Int), p.2 = some j ∧ j < i ∧ ss[j]? = some t ∧ ss[i]? = some s ∧ nr t s ∧ (L.map (·.1))[j]? = some x ∧ p.1 = x + 1
/-! ### the greatest -/
/-- the greatest of a list, at least 0 -/
structure Mx (E : List Int) (m : Int) : Prop where
  ge : ∀ x ∈ E, x ≤ m
  z : 0 ≤ m
  at_ : m = 0 ∨ m ∈ E
/-! ### the longest chain -/
/-- a step b that the step a waits for -/
def Wtf (ss : List Int) (a b : Nat) : Prop := b < a ∧ ∃ t s, ss[b]? = some t ∧ ss[a]? = some s ∧ nr t s
def Adj (ss : List Int) (C : List Nat) : Prop := ∀ (i a b : Nat), C[i]? = some a → C[i + 1]? = some b → Wtf ss a b
/-- what longest_chain answers -/
structure LC (ss : List Int) (m : Int) (C : List Nat) : Prop where
  len : (C.length : Int) = m
  adj : Adj ss C
  mem : ∀ x ∈ C, x < ss.length
/-! ### the schedule -/
/-! ### chains are chains -/
/-! ### the law -/
end DL

/-! DL132: dicts with tuples of numbers and texts as keys: {}, d[k], k in d, d[k] = v. -/
namespace DL
open PySem PySem.Spec PyProof.Rows L2
section
variable {κ : Type} [DecidableEq κ]
def valQ (kvs : List (κ × D)) (k : κ) : Option D := (kvs.find? fun kv => decide (kv.1 = k)).map (·.2)
def putQ (kvs : List (κ × D)) (k : κ) (d : D) : List (κ × D) :=
  if (kvs.any fun kv => decide (kv.1 = k)) = true then kvs.map (fun kv => if kv.1 = k then (kv.1, d) else kv) else kvs ++ [(k, d)]
theorem valQ_cons_pos {p : κ × D} {r : List (κ × D)} {k : κ} (e : p.1 = k) : valQ (p :: r) k = some p.2 := by simp [valQ, List.find?_cons, e]
theorem valQ_cons_neg {p : κ × D} {r : List (κ × D)} {k : κ} (e : ¬ p.1 = k) : valQ (p :: r) k = valQ r k := by simp [valQ, List.find?_cons, e]
theorem valQ_put (k j : κ) (d : D) : ∀ kvs : List (κ × D), valQ (putQ kvs k d) j = if j = k then some d else valQ kvs j := by
  have mp : ∀ kvs : List (κ × D), valQ (kvs.map fun kv => if kv.1 = k then (kv.1, d) else kv) j = (valQ kvs j).map fun x => if j = k then d else x := fun kvs => by
    induction kvs with
    | nil => rfl
    | cons p r ih =>
      rw [List.map_cons]
      by_cases e : p.1 = j
      · rw [valQ_cons_pos e]
        by_cases e2 : p.1 = k
        · rw [if_pos e2, valQ_cons_pos (p := (p.1, d)) e, Option.map_some, if_pos (e.symm.trans e2)]
        · rw [if_neg e2, valQ_cons_pos e, Option.map_some, if_neg (fun z => e2 (e.trans z))]
      · rw [valQ_cons_neg e, ← ih]
        by_cases e2 : p.1 = k
        · rw [if_pos e2, valQ_cons_neg (p := (p.1, d)) e]
        · rw [if_neg e2, valQ_cons_neg e]
  have an : ∀ kvs : List (κ × D), (kvs.any fun kv => decide (kv.1 = k)) = (valQ kvs k).isSome := fun kvs => by
    induction kvs with
    | nil => rfl
    | cons p r ih =>
      rw [List.any_cons]
      by_cases e : p.1 = k
      · rw [decide_eq_true e, Bool.true_or, valQ_cons_pos e]; rfl
      · rw [decide_eq_false e, Bool.false_or, valQ_cons_neg e, ih]
  have ap : ∀ kvs : List (κ × D), valQ kvs k = none → valQ (kvs ++ [(k, d)]) j = if j = k then some d else valQ kvs j := fun kvs => by
    induction kvs with
    | nil =>
      intro _
      by_cases e : k = j
      · rw [List.nil_append, valQ_cons_pos e, if_pos e.symm]
      · rw [List.nil_append, valQ_cons_neg e, if_neg fun z => e z.symm]
    | cons p r ih =>
      intro h
      by_cases e : p.1 = k
      · rw [valQ_cons_pos e] at h; cases h
      · rw [valQ_cons_neg e] at h
        rw [List.cons_append]
        by_cases e2 : p.1 = j
        · rw [valQ_cons_pos e2, valQ_cons_pos e2, if_neg fun z => e (e2.trans z)]
        · rw [valQ_cons_neg e2, valQ_cons_neg e2, ih h]
  intro kvs
  unfold putQ
  by_cases h : (kvs.any fun kv => decide (kv.1 = k)) = true
  · rw [if_pos h, mp]
    rw [an] at h
    by_cases e : j = k
    · subst e
      obtain ⟨x, hx⟩ := Option.isSome_iff_exists.mp h
      rw [hx, Option.map_some, if_pos rfl, if_pos rfl]
    · rw [if_neg e]
      cases valQ kvs j with
      | none => rfl
      | some x => rw [Option.map_some, if_neg e]
  · rw [if_neg h]
    refine ap kvs ?_
    rw [an] at h
    simpa using h
end
section
variable {ca : Nat → Addr} {K : PySem.W.Frag} {Hf H Hf1 H1 Hf2 H2 : Hp} {S S1 S2 P P1 P2 : Rg} {R R1 R2 : Nat → Rg} {pp qq : Prop} {σ σ' : L2.St} {st st' : Sl} {v : V} {d : D} {vs : List V} {ds : List D} {X : Cx} {L : List Nat}
end
end DL

/-! DL133: {k: v}, one pair, k a tuple of numbers and texts. -/
namespace DL
open PySem PySem.Spec PyProof.Rows L2
def two (f : V → V → Hp → Prop) : List V → Hp → Prop
  | [x, y], H => f x y H
  | _, _ => False
section
variable {ca : Nat → Addr} {K : PySem.W.Frag} {Hf H Hf1 H1 Hf2 H2 : Hp} {S P : Rg} {R R1 R2 : Nat → Rg} {pp qq : Prop} {σ : L2.St} {st : Sl} {v : V} {d : D} {vs : List V} {ds : List D} {X : Cx}
end
end DL

/-! DL134: tuple(range(a, b)). -/
namespace DL
open PySem PySem.Spec PyProof.Rows L2
section
variable {ca : Nat → Addr} {K : PySem.W.Frag} {X : Cx}
end
end DL

set_option maxHeartbeats 1000000
/-! DL135: tuple(range(a, b, -1)); displays with starred items; xs.pop(e). -/
namespace DL
open PySem PySem.Spec PyProof.Rows L2
/-! ### tuple(range(a, b, -1)) -/
section
variable {ca : Nat → Addr} {K : PySem.W.Frag} {X : Cx}
end

/-! ### displays with starred items -/
section
variable {ca : Nat → Addr} {K : PySem.W.Frag} {Hf H Hf1 H1 Hf2 H2 : Hp} {S S1 S2 P P1 P2 : Rg} {R R1 R2 : Nat → Rg} {pp qq : Prop} {σ σ' : L2.St} {st st' : Sl} {v : V} {d : D} {vs : List V} {ds xs : List D} {X : Cx} {L : List Nat}
/-! ### xs.pop(e), xs a slot's own list -/
end
end DL

/-! DL136 (Nw): rounds of steps, the fewest rounds, the two searches for them (the plain part of k57's law). -/
namespace Nw
/-- the rounds of steps up to n: ascending, two apart -/
def rds : Nat → List (List Int)
  | 0 => [[]]
  | n + 1 => rds n ++ ((rds n).filter fun r => r.all fun t => decide (2 ≤ ((n : Int) + 1) - t)).map fun r => r ++ [(n : Int) + 1]
/-- what k rounds make of the descending list -/
def rch (w : Nat) : Nat → List Int → Prop
  | 0, v => v = desc w
  | k + 1, v => ∃ u r, rch w k u ∧ r ∈ rds (w - 1) ∧ v = runL r u
/-- .. and no fewer -/
def mn (w k : Nat) (v : List Int) : Prop := rch w k v ∧ ∀ j, j < k → ¬ rch w j v
section
variable {w : Nat}
/-! ### the search with a queue -/
structure BI (w : Nat) (n : Nat) (M : List (List Int × Int)) (Q1 Q2 : List (List Int)) : Prop where
  nd : (M.map (·.1)).Nodup
  val : ∀ v m, (v, m) ∈ M → ∃ k : Nat, m = (k : Int) ∧ k ≤ n + 1 ∧ mn w k v
  two : ∀ v, (v, ((n + 1 : Nat) : Int)) ∈ M ↔ v ∈ Q2
  one : ∀ v ∈ Q1, (v, (n : Int)) ∈ M
  all : ∀ v j, mn w j v → j ≤ n → (v, (j : Int)) ∈ M
  proc : ∀ u, (u, (n : Int)) ∈ M → u ∉ Q1 → ∀ r ∈ rds (w - 1), ∃ m, (runL r u, m) ∈ M
variable {n : Nat} {M : List (List Int × Int)} {Q1 Q2 : List (List Int)}
/-! ### the search by levels -/
structure LI (w c : Nat) (Ks Lv : List (List Int)) : Prop where
  nd : Ks.Nodup
  k : ∀ v, v ∈ Ks ↔ rch w c v
  l : ∀ v, v ∈ Lv ↔ mn w c v
/-- amid a level: what has been seen, the next level so far; P: what has been tried -/
structure LJ (w c : Nat) (Ks Lv K2 F : List (List Int)) (P : List Int → List Int → Prop) : Prop where
  nd : K2.Nodup
  len : K2.length = Ks.length + F.length
  k : ∀ v, v ∈ K2 ↔ v ∈ Ks ∨ v ∈ F
  f : ∀ v ∈ F, v ∉ Ks ∧ ∃ u r, u ∈ Lv ∧ r ∈ rds (w - 1) ∧ v = runL r u
  done : ∀ u r, P u r → runL r u ∈ K2
variable {c : Nat} {Ks Lv K2 F : List (List Int)} {P P' : List Int → List Int → Prop}
/-! ### the full networks -/
theorem stay : ∀ (r : List Int) (v : List Int) (j : Nat), (∀ t ∈ r, (j : Int) + 2 ≤ t ∧ t < v.length) → (runL r v).getD j 0 = v.getD j 0
  | [], v, j, _ => rfl
  | t :: r, v, j, h => by
    have h0 := h t List.mem_cons_self
    obtain ⟨i, hi⟩ : ∃ i : Nat, t = (i : Int) + 1 := ⟨(t - 1).toNat, by omega⟩
    have e := sN_get (l := v) (i := i) (by omega) j
    rw [if_neg (by omega), if_neg (by omega)] at e
    have l : (stp v t).length = v.length := stp_len v t
    show (runL r (stp v t)).getD j 0 = _
    rw [stay r (stp v t) j fun q hq => by rw [l]; exact h q (List.mem_cons_of_mem _ hq)]
    subst hi
    exact e
end
end Nw

/-! DL137 (Nw): the steps of a network level by level; the depth is never less than the fewest rounds. -/
namespace Nw
abbrev In (n : Int) (ss : List Int) : Prop := ∀ s ∈ ss, 1 ≤ s ∧ s < n
/-! ### level by level -/
end Nw
namespace DL
open Nw
end DL

set_option maxHeartbeats 1000000
/-! DL138: sum(xs, []), xs a list of lists. -/
namespace DL
open PySem PySem.Spec PyProof.Rows L2
section
variable {prog : Program} {w : World} {A : Around} {E : Value → Shared → Prop}
end
section
variable {X : Cx} {pins : List (Addr × Obj)} {σ : L2.St} {H : Hp} {s : Shared}
end
section
variable {ca : Nat → Addr} {K : PySem.W.Frag} {Hf H : Hp} {S : Rg} {vs : List V} {ds xs : List D} {X : Cx}
end
end DL

/-! DL139: len of a dict. -/
namespace DL
open PySem PySem.Spec PyProof.Rows L2
section
variable {ca : Nat → Addr} {K : PySem.W.Frag} {X : Cx}
end
end DL

/-! DL140 (Nw): the schedule's rows, any order of each row, the depths of the networks that come of it (the plain part of k58's law). -/
namespace Nw
open DL
/-- the level and the step of an index -/
abbrev lv (E : List Int) (i : Nat) : Int := E.getD i 0
section
variable {ss E : List Int} {M : Nat} {O : List Nat}
/-! ### mirrored, backwards -/
/-! ### two rows at once -/
end
end Nw

set_option maxHeartbeats 1000000
/-! DL141: texts: len, signs, slices, walks, split, join, endswith, removeprefix, int of a text. -/
namespace DL
open PySem PySem.Spec PyProof.Rows L2
section
variable {ca : Nat → Addr} {K : PySem.W.Frag} {Hf H : Hp} {S : Rg} {vs : List V} {ds xs : List D} {X : Cx} {v : V}
/-! ### walking a text -/
end
end DL

set_option maxHeartbeats 1000000
/-! DL142: x, *xs = a list. -/
namespace DL
open PySem PySem.Spec PyProof.Rows L2
section
variable {ca : Nat → Addr} {X : Cx} {L : List Nat}
end
end DL

set_option maxHeartbeats 1000000
/-! DL143: texts made of numbers: joined, split again, shown; steps for the walk. -/
namespace DL
open PySem (Str PyData)
open Nw PySem
open PySem.Spec PyProof.Rows L2
/-! ### a text shown -/
/-- the signs of these texts -/
def okC (c : Nat) : Bool := c == 32 || (decide (48 ≤ c) && decide (c ≤ 58))
end DL

set_option maxHeartbeats 1000000
/-! DL144: a call, the slot's list of own flat lists given for its time only. -/
namespace DL
open PySem L2 PyProof.Rows
section
variable {ca : Nat → Addr} {K : PySem.W.Frag} {Hf H H3 Hf1 H1 Hf2 H2 : Hp} {S P : Rg} {R R1 R2 : Nat → Rg} {σ : L2.St} {st : Sl} {v : V} {d : D} {vs : List V} {ds : List D} {X : Cx} {L : List Nat}
end
end DL
namespace DL
open PySem (Str)
end DL

set_option maxHeartbeats 1000000
/-! DL145: [a:] of a text, a text times an int. -/
namespace DL
open PySem PySem.Spec PyProof.Rows L2
section
variable {ca : Nat → Addr} {K : PySem.W.Frag} {X : Cx}
end
end DL

set_option maxHeartbeats 1000000
/-! DL146: isinstance of an exception and a pair of the text's exception classes. -/
namespace DL
open PySem PySem.Spec PyProof.Rows L2
section
variable {ca : Nat → Addr} {K : PySem.W.Frag} {X : Cx}
end
end DL

set_option maxHeartbeats 1000000
/-! DL147: words read as numbers (plain part of k73's law). -/
namespace DL
open PySem (Str PyData)
open Nw PySem PySem.Spec PyProof.Rows L2 C8 SX
/-- the last sign is a colon -/
def col (l : List Nat) : Bool := decide (l.drop (l.length - 1) = [58])
/-! ### a text's words -/
/-! ### numbers or None -/
/-! ### what is told -/
end DL

set_option maxHeartbeats 1000000
/-! DL148: an own value stored in a field; self.f.append(e), self the slot's own instance, f an own list in its field. -/
namespace DL
open PySem PySem.Spec PyProof.Rows L2
section
variable {ca : Nat → Addr} {K : PySem.W.Frag} {Hf H Hf1 H1 Hf2 H2 : Hp} {S S1 S2 P P1 P2 : Rg} {R R1 R2 : Nat → Rg} {pp qq : Prop} {σ σ' : L2.St} {st st' : Sl} {v : V} {d : D} {vs : List V} {ds : List D} {X : Cx} {L : List Nat}
end
end DL

set_option maxHeartbeats 1000000
/-! DL149: self.f.append((x, self.g)), self the slot's own instance, x a name. -/
namespace DL
open PySem PySem.Spec PyProof.Rows L2
section
variable {ca : Nat → Addr} {K : PySem.W.Frag} {Hf H Hf1 H1 Hf2 H2 : Hp} {S S1 S2 P P1 P2 : Rg} {R R1 R2 : Nat → Rg} {pp qq : Prop} {σ σ' : L2.St} {st st' : Sl} {v : V} {d : D} {vs : List V} {ds : List D} {X : Cx} {L : List Nat}
end
end DL

set_option maxHeartbeats 1000000
/-! DL150: a built-in of one argument, the argument a field of the slot's own instance (len, list .. of an own list in a field). -/
namespace DL
open PySem PySem.Spec PyProof.Rows L2
section
variable {ca : Nat → Addr} {K : PySem.W.Frag} {Hf H : Hp} {X : Cx}
end
end DL

set_option maxHeartbeats 1000000
/-! DL151: self.f.pop(), self.f.reverse(), self.f.clear(), f an own list in a field of the slot's own instance. -/
namespace DL
open PySem PySem.Spec PyProof.Rows L2
section
variable {ca : Nat → Addr} {K : PySem.W.Frag} {Hf H : Hp} {X : Cx}
end
end DL

set_option maxHeartbeats 1000000
/-! DL152: a field of the slot's own instance as a target (of an unpacking). -/
namespace DL
open PySem PySem.Spec PyProof.Rows L2
section
variable {ca : Nat → Addr} {X : Cx} {L : List Nat}
end
end DL

set_option maxHeartbeats 1000000
/-! DL153: a property whose getter is a guarded def (FnG), read; also of an own instance in a slot (lent for the call). -/
namespace DL
open PySem PySem.Spec PyProof.Rows L2
section
variable {ca : Nat → Addr} {X : Cx}
end
end DL

set_option maxHeartbeats 1000000
/-! DL154: an expression that only reads an owned thing in a slot: it is let stand for the expression's time, and then owned again. The value must be flat, or an own list of flat things; the other slots must be empty or flat. -/
namespace DL
open PySem PySem.Spec PyProof.Rows L2
section
variable {ca : Nat → Addr} {K : PySem.W.Frag} {Hf H Hf1 H1 : Hp} {S S1 : Rg} {X : Cx}
end
end DL

set_option maxHeartbeats 2000000
/-! DL155: != of two lists all of whose items are equal by eqBool (own == inside): the answer False. -/
namespace DL
open PySem PySem.SeqAt GQ
open AutoSeq1 (wpAny_loadPart')
open MeetsSeq MeetsSeq2 MeetsSeq3 SeqRoads2
section
variable {prog : Program} {w : World} {A : Around} {R : Result → Shared → Prop}
end
section
variable {prog : Program} {w : World} {A : Around} {E : Value → Shared → Prop} {s : Shared}
end
open PySem.Spec PyProof.Rows L2
section
variable {X : Cx} {n : Nat} {D : Eqv}
end
end DL

/-! DL156: sleeping generators stay as they are while code that does not wake them runs (a frame rule for generators, own work over Runs). -/
namespace DL
open PySem PyProof.Rows
open Sem (wp)

/-- only plain frames -/
def NG (fs : List Frame) : Prop := ∀ f ∈ fs, ∃ k h g l c p kp, f = Frame.ret k h g l c p kp
def NGS : GenState → Prop
  | .suspended _ _ _ _ fs _ => NG fs
  | _ => True
def NGE : End → Prop
  | .susp _ _ _ _ _ _ fs => NG fs
  | .ret _ => True
/-- a sleeper that can never be woken -/
def Dead (x : GenState) : Prop := ∃ l c p fs cl, x = .suspended (fun _ => .unsupported "") l c p fs cl
def Susp (x : GenState) : Prop := ∃ k c p fs cl, x = .suspended k [] c p fs cl
/-- it cannot be woken: dead, or running -/
def Dz (x : GenState) : Prop := Dead x ∨ x = .running
/-- the left one is a dead copy of the right one, or they are the same -/
inductive E1 : GenState → GenState → Prop
  | same {x} : NGS x → E1 x x
  | dead {k l' c p fs fs' cl} : fs.map Frame.where_ = fs'.map Frame.where_ → E1 (.suspended (fun _ => .unsupported "") [.none] c p fs cl) (.suspended k l' c p fs' cl)
structure GSim (ga gb : Array GenState) : Prop where
  size : ga.size = gb.size
  at_ : ∀ (i : Nat) (x y : GenState), ga[i]? = some x → gb[i]? = some y → E1 x y
/-- the dead ones on the left, and their likes on the right, stay -/
def GKp (ga gb ga' gb' : Array GenState) : Prop := ∀ (i : Nat) (x y : GenState), ga[i]? = some x → gb[i]? = some y → Dz x → ga'[i]? = some x ∧ gb'[i]? = some y

theorem GSim.get {ga gb : Array GenState} (h : GSim ga gb) {i : Nat} {x : GenState} (e : ga[i]? = some x) : ∃ y, gb[i]? = some y ∧ E1 x y := by
  obtain ⟨hi, _⟩ := Array.getElem?_eq_some_iff.mp e
  have hi' : i < gb.size := by rw [← h.size]; exact hi
  exact ⟨gb[i], Array.getElem?_eq_getElem hi', h.at_ i x _ e (Array.getElem?_eq_getElem hi')⟩
theorem E1.seen {x y : GenState} (h : E1 x y) : x.seen = y.seen := by
  cases h with
  | same _ => rfl
  | dead e => simp only [GenState.seen, e]
theorem E1.bare {x y : GenState} (h : E1 x y) : x.bare = y.bare := by
  cases h with
  | same _ => rfl
  | dead e => rfl
theorem GKp.refl {ga gb : Array GenState} : GKp ga gb ga gb := fun _ _ _ a b _ => ⟨a, b⟩
theorem GKp.trans {ga gb ga' gb' ga2 gb2 : Array GenState} (a : GKp ga gb ga' gb') (b : GKp ga' gb' ga2 gb2) : GKp ga gb ga2 gb2 := fun i x y h1 h2 h3 =>
  let ⟨q1, q2⟩ := a i x y h1 h2 h3
  b i x y q1 q2 h3
theorem GSim.set {ga gb : Array GenState} (h : GSim ga gb) (g : Nat) {z : GenState} (hz : NGS z) : GSim (ga.setIfInBounds g z) (gb.setIfInBounds g z) := by
  refine ⟨by simp [h.size], fun i x y e1 e2 => ?_⟩
  by_cases hi : g = i
  · subst hi
    rw [Array.getElem?_setIfInBounds_self] at e1 e2
    split at e1
    · split at e2
      · cases e1; cases e2; exact .same hz
      · cases e2
    · cases e1
  · rw [Array.getElem?_setIfInBounds_ne hi] at e1 e2
    exact h.at_ i x y e1 e2
theorem GKp.set {ga gb : Array GenState} (g : Nat) {z : GenState} (hn : ∀ x : GenState, ga[g]? = some x → ¬ Dz x) : GKp ga gb (ga.setIfInBounds g z) (gb.setIfInBounds g z) := fun i x y e1 e2 d => by
  have hi : g ≠ i := fun e => hn x (e ▸ e1) d
  rw [Array.getElem?_setIfInBounds_ne hi, Array.getElem?_setIfInBounds_ne hi]
  exact ⟨e1, e2⟩
/-- one whose state was not dead is set, later -/
theorem GKp.set2 {ga gb ga' gb' : Array GenState} (k : GKp ga gb ga' gb') (g : Nat) {z : GenState} (hn : ∀ x : GenState, ga[g]? = some x → ¬ Dz x) : GKp ga gb (ga'.setIfInBounds g z) (gb'.setIfInBounds g z) := fun i x y e1 e2 d => by
  have hi : g ≠ i := fun e => hn x (e ▸ e1) d
  rw [Array.getElem?_setIfInBounds_ne hi, Array.getElem?_setIfInBounds_ne hi]
  exact k i x y e1 e2 d
theorem GSim.push {ga gb : Array GenState} (h : GSim ga gb) {z : GenState} (hz : NGS z) : GSim (ga.push z) (gb.push z) := by
  refine ⟨by simp [h.size], fun i x y e1 e2 => ?_⟩
  rw [Array.getElem?_push] at e1 e2
  rw [h.size] at e1
  split at e1
  · rename_i hi
    rw [if_pos hi] at e2
    cases e1; cases e2
    exact .same hz
  · rename_i hi
    rw [if_neg hi] at e2
    exact h.at_ i x y e1 e2
theorem GKp.push {ga gb : Array GenState} {z z' : GenState} : GKp ga gb (ga.push z) (gb.push z') := fun i x y e1 e2 _ => by
  obtain ⟨h1, _⟩ := Array.getElem?_eq_some_iff.mp e1
  obtain ⟨h2, _⟩ := Array.getElem?_eq_some_iff.mp e2
  rw [Array.getElem?_push, Array.getElem?_push, if_neg (Nat.ne_of_lt h1), if_neg (Nat.ne_of_lt h2)]
  exact ⟨e1, e2⟩
theorem ng_split : ∀ {fs : List Frame}, NG fs → splitAtGen fs = none
  | [], _ => rfl
  | f :: fs, h => by
    obtain ⟨k, h', g, l, c, p, kp, rfl⟩ := h _ (List.mem_cons_self)
    show (splitAtGen fs).map _ = none
    rw [ng_split fun f' hf => h f' (List.mem_cons_of_mem _ hf)]
    rfl
theorem ng_app {fs gs : List Frame} (a : NG fs) (b : NG gs) : NG (fs ++ gs) := fun f hf => (List.mem_append.mp hf).elim (a f) (b f)
theorem no_unsup0 {M : Model} {Γ : Ctx} {p : Pos} {s s' : Shared} {e : End} {w : String} : ¬ Runs M Γ p (.unsupported w) [] s e s' := fun h => by cases h
theorem no_unsup {M : Model} {Γ : Ctx} {p : Pos} {fs : List Frame} {s s' : Shared} {e : End} {w : String} : ¬ Runs M Γ p (.unsupported w) fs s e s' := fun h => by
  cases fs with
  | nil => exact no_unsup0 h
  | cons f fs => cases h <;> exact no_unsup0 (by assumption)
theorem nge_state {e : End} (h : NGE e) : NGS e.genState := by
  cases e with
  | ret r => trivial
  | susp v g l k c p fs => exact h

/-- a run with dead copies is a run with the sleepers as they are -/
theorem runs_sim {M : Model} {Γ : Ctx} {p : Pos} {t : Sem PySem.Fin} {fs : List Frame} {a a' : Shared} {e : End} (h : Runs M Γ p t fs a e a') : NG fs → ∀ gb, GSim a.gens gb →
    ∃ gb', Runs M Γ p t fs { a with gens := gb } e { a' with gens := gb' } ∧ GSim a'.gens gb' ∧ GKp a.gens gb a'.gens gb' ∧ NGE e := by
  induction h with
  | done => exact fun _ gb hs => ⟨gb, .done, hs, .refl, trivial⟩
  | raise => exact fun _ gb hs => ⟨gb, .raise, hs, .refl, trivial⟩
  | again hq _ ih => exact fun hn gb hs => let ⟨gb', r, q⟩ := ih hn gb hs; ⟨gb', .again hq r, q⟩
  | rule _ ih => exact fun hn gb hs => let ⟨gb', r, q⟩ := ih hn gb hs; ⟨gb', .rule r, q⟩
  | «at» _ ih => exact fun hn gb hs => let ⟨gb', r, q⟩ := ih hn gb hs; ⟨gb', .at r, q⟩
  | load hl _ ih => exact fun hn gb hs => let ⟨gb', r, q⟩ := ih hn gb hs; ⟨gb', .load hl r, q⟩
  | update hl _ ih => exact fun hn gb hs => let ⟨gb', r, q⟩ := ih hn gb hs; ⟨gb', .update hl r, q⟩
  | loadIfAlive _ ih => exact fun hn gb hs => let ⟨gb', r, q⟩ := ih hn gb hs; ⟨gb', .loadIfAlive r, q⟩
  | point _ ih => exact fun hn gb hs => let ⟨gb', r, q⟩ := ih hn gb hs; ⟨gb', .point r, q⟩
  | alloc _ ih => exact fun hn gb hs => let ⟨gb', r, q⟩ := ih hn gb hs; ⟨gb', .alloc r, q⟩
  | fresh _ ih => exact fun hn gb hs => let ⟨gb', r, q⟩ := ih hn gb hs; ⟨gb', .fresh r, q⟩
  | ask _ ih => exact fun hn gb hs => let ⟨gb', r, q⟩ := ih hn gb hs; ⟨gb', .ask r, q⟩
  | choose hl _ ih => exact fun hn gb hs => let ⟨gb', r, q⟩ := ih hn gb hs; ⟨gb', .choose hl r, q⟩
  | os _ ih => exact fun hn gb hs => let ⟨gb', r, q⟩ := ih hn gb hs; ⟨gb', .os r, q⟩
  | handled _ ih => exact fun hn gb hs => let ⟨gb', r, q⟩ := ih hn gb hs; ⟨gb', .handled r, q⟩
  | genState hg _ ih =>
    intro hn gb hs
    obtain ⟨y, hy, e1⟩ := hs.get hg
    rw [e1.seen] at ih
    obtain ⟨gb', r, q⟩ := ih hn gb hs
    exact ⟨gb', .genState hy r, q⟩
  | stack _ ih => exact fun hn gb hs => let ⟨gb', r, q⟩ := ih hn gb hs; ⟨gb', .stack r, q⟩
  | thread _ ih => exact fun hn gb hs => let ⟨gb', r, q⟩ := ih hn gb hs; ⟨gb', .thread r, q⟩
  | newGen _ ih =>
    intro hn gb hs
    obtain ⟨gb', r, q1, q2, q3⟩ := ih hn _ (GSim.push (z := .fresh _) hs trivial)
    refine ⟨gb', .newGen ?_, q1, GKp.push.trans q2, q3⟩
    rw [hs.size] at r
    exact r
  | call _ _ ih1 ih2 =>
    intro hn gb hs
    obtain ⟨gb1, r1, q1, q2, _⟩ := ih1 hn gb hs
    obtain ⟨gb2, r2, z1, z2, z3⟩ := ih2 hn gb1 q1
    exact ⟨gb2, .call r1 r2, z1, q2.trans z2, z3⟩
  | callSusp _ ih1 =>
    intro hn gb hs
    obtain ⟨gb1, r1, q1, q2, q3⟩ := ih1 hn gb hs
    exact ⟨gb1, .callSusp r1, q1, q2, ng_app q3 fun f hf => by
      rw [List.mem_singleton.mp hf]
      exact ⟨_, _, _, _, _, _, _, rfl⟩⟩
  | yield => exact fun hn gb hs => ⟨gb, .yield, hs, .refl, hn⟩
  | resumeFresh hg _ hq _ ih1 ih2 =>
    intro hn gb hs
    rename_i Γ0 p0 g l k s c e₁ s₁ e s' _ _
    obtain ⟨y, hy, e1⟩ := hs.get hg
    cases e1 with
    | same _ =>
      have nd : ∀ x : GenState, s.gens[g]? = some x → ¬ Dz x := fun x ex d0 => by
        rw [hg] at ex
        cases ex
        rcases d0 with ⟨_, _, _, _, _, d⟩ | d <;> cases d
      obtain ⟨gb1, r1, q1, q2, q3⟩ := ih1 (fun f hf => absurd hf (List.not_mem_nil)) (gb.setIfInBounds g .running) (hs.set g trivial)
      obtain ⟨gb2, r2, z1, z2, z3⟩ := ih2 hn (gb1.setIfInBounds g e₁.genState) (q1.set g (nge_state q3))
      refine ⟨gb2, .resumeFresh hy r1 hq r2, z1, ?_, z3⟩
      have k1 : GKp s.gens gb s₁.gens gb1 := (GKp.set g nd).trans q2
      exact (k1.set2 g nd).trans z2
  | resumeSuspended hg hr hq _ ih1 ih2 =>
    intro hn gb hs
    rename_i Γ0 p0 g r l k s k₀ l₀ c₀ p₀ fs cl e₁ s₁ e s' _
    obtain ⟨y, hy, e1⟩ := hs.get hg
    have nk : k₀ ≠ fun _ => .unsupported "" := fun z => by
      subst z
      exact no_unsup hr
    cases e1 with
    | dead _ => exact absurd rfl nk
    | same hng =>
      have nd : ∀ x : GenState, s.gens[g]? = some x → ¬ Dz x := fun x ex d0 => by
        rw [hg] at ex
        cases ex
        rcases d0 with ⟨_, _, _, _, _, d⟩ | d
        · cases d
          exact nk rfl
        · cases d
      obtain ⟨gb1, r1, q1, q2, q3⟩ := ih1 hng (gb.setIfInBounds g .running) (hs.set g trivial)
      obtain ⟨gb2, r2, z1, z2, z3⟩ := ih2 hn (gb1.setIfInBounds g e₁.genState) (q1.set g (nge_state q3))
      refine ⟨gb2, .resumeSuspended hy r1 hq r2, z1, ?_, z3⟩
      have k1 : GKp s.gens gb s₁.gens gb1 := (GKp.set g nd).trans q2
      exact (k1.set2 g nd).trans z2
  | resumeJustStarted hg hv _ ih =>
    intro hn gb hs
    obtain ⟨y, hy, e1⟩ := hs.get hg
    cases e1 with
    | same _ =>
      obtain ⟨gb', r, q⟩ := ih hn gb hs
      exact ⟨gb', .resumeJustStarted hy hv r, q⟩
  | resumeThrowFresh hg _ ih =>
    intro hn gb hs
    obtain ⟨y, hy, e1⟩ := hs.get hg
    cases e1 with
    | same _ =>
      obtain ⟨gb', r, q1, q2, q3⟩ := ih hn _ (GSim.set hs _ (z := .finished) trivial)
      exact ⟨gb', .resumeThrowFresh hy r, q1, (GKp.set _ (fun x ex d0 => by
        rw [hg] at ex
        cases ex
        rcases d0 with ⟨_, _, _, _, _, d⟩ | d <;> cases d)).trans q2, q3⟩
  | resumeRunning hg _ ih =>
    intro hn gb hs
    obtain ⟨y, hy, e1⟩ := hs.get hg
    cases e1 with
    | same _ =>
      obtain ⟨gb', r, q⟩ := ih hn gb hs
      exact ⟨gb', .resumeRunning hy r, q⟩
  | resumeFinished hg _ ih =>
    intro hn gb hs
    obtain ⟨y, hy, e1⟩ := hs.get hg
    cases e1 with
    | same _ =>
      obtain ⟨gb', r, q⟩ := ih hn gb hs
      exact ⟨gb', .resumeFinished hy r, q⟩
  | segRet _ _ ih1 ih2 =>
    intro hn gb hs
    obtain ⟨gb1, r1, q1, q2, _⟩ := ih1 (fun f hf => absurd hf (List.not_mem_nil)) gb hs
    obtain ⟨gb2, r2, z1, z2, z3⟩ := ih2 (fun f hf => hn f (List.mem_cons_of_mem _ hf)) gb1 q1
    exact ⟨gb2, .segRet r1 r2, z1, q2.trans z2, z3⟩
  | segGen _ _ _ _ =>
    intro hn gb hs
    obtain ⟨_, _, _, _, _, _, _, z⟩ := hn _ (List.mem_cons_self)
    cases z
  | segSuspOut hsp _ ih =>
    intro hn gb hs
    obtain ⟨gb1, r1, q1, q2, q3⟩ := ih (fun f hf => absurd hf (List.not_mem_nil)) gb hs
    exact ⟨gb1, .segSuspOut hsp r1, q1, q2, ng_app q3 hn⟩
  | segSuspGen hsp _ _ _ _ _ =>
    intro hn gb hs
    rw [ng_split hn] at hsp
    cases hsp

/-- .. told of a wp -/
theorem wp_sim {α : Type} (M : Model) (Γ : Ctx) (t : Sem α) : ∀ (Q : α → Pos → Shared → Prop) (E : Value → Pos → Shared → Prop) (p : Pos) (a : Shared) (gb : Array GenState), GSim a.gens gb → wp M Γ t Q E p a →
    wp M Γ t (fun x p' s' => ∃ ga, GSim ga s'.gens ∧ GKp a.gens gb ga s'.gens ∧ Q x p' { s' with gens := ga }) (fun x p' s' => ∃ ga, GSim ga s'.gens ∧ GKp a.gens gb ga s'.gens ∧ E x p' { s' with gens := ga }) p { a with gens := gb } := by
  have more : ∀ {α : Type} {Γ : Ctx} {t : Sem α} {Q : α → Pos → Shared → Prop} {E : Value → Pos → Shared → Prop} {p : Pos} {g1 g2 g3 g4 : Array GenState} {s : Shared}, GKp g1 g2 g3 g4 →
      wp M Γ t (fun x p' s' => ∃ ga, GSim ga s'.gens ∧ GKp g3 g4 ga s'.gens ∧ Q x p' { s' with gens := ga }) (fun x p' s' => ∃ ga, GSim ga s'.gens ∧ GKp g3 g4 ga s'.gens ∧ E x p' { s' with gens := ga }) p s →
      wp M Γ t (fun x p' s' => ∃ ga, GSim ga s'.gens ∧ GKp g1 g2 ga s'.gens ∧ Q x p' { s' with gens := ga }) (fun x p' s' => ∃ ga, GSim ga s'.gens ∧ GKp g1 g2 ga s'.gens ∧ E x p' { s' with gens := ga }) p s := fun {α Γ t Q E p g1 g2 g3 g4 s} k h =>
    Sem.wp_mono _ _ _ (fun x p' s' ⟨ga, a, b, c⟩ => ⟨ga, a, k.trans b, c⟩) (fun x p' s' ⟨ga, a, b, c⟩ => ⟨ga, a, k.trans b, c⟩) _ _ h
  have nng : NG [] := fun f hf => absurd hf (List.not_mem_nil)
  induction t with
  | pure x => intro Q E p a gb hs h; exact ⟨a.gens, hs, .refl, h⟩
  | raise e => intro Q E p a gb hs h; exact ⟨a.gens, hs, .refl, h⟩
  | unsupported _ => intro Q E p a gb _ h; exact h
  | finish _ => intro Q E p a gb _ h; exact h
  | rule _ k ih => intro Q E p a gb hs h; exact ih () Q E p a gb hs h
  | «at» p' k ih => intro Q E p a gb hs h; exact ih () Q E p' a gb hs h
  | load b _ k ih => intro Q E p a gb hs h; obtain ⟨o, ho, h⟩ := h; exact ⟨o, ho, ih o Q E p a gb hs h⟩
  | update b _ f k ih => intro Q E p a gb hs h; exact ⟨h.1, ih () Q E p { a with heap := a.heap.update b f } gb hs h.2⟩
  | loadIfAlive b k ih => intro Q E p a gb hs h; exact ih _ Q E p a gb hs h
  | point _ k ih => intro Q E p a gb hs h; exact ih () Q E p a gb hs h
  | register _ _ => intro Q E p a gb _ h; exact h
  | alloc o k ih => intro Q E p a gb hs h; exact ih _ Q E p { a with heap := a.heap.push o } gb hs h
  | fresh k ih => intro Q E p a gb hs h; exact ih _ Q E p { a with toks := a.toks + 1 } gb hs h
  | ask k ih => intro Q E p a gb hs h; exact ih _ Q E p a gb hs h
  | choose src m k ih => intro Q E p a gb hs h; exact ⟨h.1, ih _ Q E p { a with drawn := a.drawn.bump src } gb hs h.2⟩
  | os q _ k ih => intro Q E p a gb hs h; exact ih _ Q E p { a with os := (Os.step a.os q).1 } gb hs h
  | call c hd _ _ k ih =>
    intro Q E p a gb hs h
    obtain ⟨r, s', hr, h⟩ := h
    obtain ⟨gb1, r1, q1, q2, _⟩ := runs_sim hr nng gb hs
    exact ⟨r, _, r1, more q2 (ih r Q E p s' gb1 q1 h)⟩
  | handled own k ih => intro Q E p a gb hs h; exact ih _ Q E p a gb hs h
  | genState g k ih =>
    intro Q E p a gb hs h
    obtain ⟨st, hst, h⟩ := h
    obtain ⟨y, hy, e1⟩ := hs.get hst
    rw [e1.seen] at h
    exact ⟨y, hy, ih _ Q E p a gb hs h⟩
  | newGen c k ih =>
    intro Q E p a gb hs h
    have h' := ih _ Q E p _ (gb.push (.fresh c)) (hs.push (z := .fresh c) trivial) h
    have := more (GKp.push (ga := a.gens) (gb := gb)) h'
    rw [hs.size] at this
    exact this
  | resume g r _ k ih =>
    intro Q E p a gb hs h
    obtain ⟨res, s', hw, h⟩ := h
    have key : ∃ gb', Wakes M Γ p g r { a with gens := gb } res { s' with gens := gb' } ∧ GSim s'.gens gb' ∧ GKp a.gens gb s'.gens gb' := by
      unfold Wakes at hw ⊢
      cases eg : a.gens[g]? with
      | none => rw [eg] at hw; exact hw.elim
      | some x =>
        rw [eg] at hw
        obtain ⟨y, hy, e1⟩ := hs.get eg
        rw [show ({ a with gens := gb } : Shared).gens[g]? = some y from hy]
        cases x with
        | fresh c =>
          cases e1 with
          | same _ =>
            have nd : ∀ x : GenState, a.gens[g]? = some x → ¬ Dz x := fun x ex d0 => by
              rw [eg] at ex
              cases ex
              rcases d0 with ⟨_, _, _, _, _, d⟩ | d <;> cases d
            dsimp only at hw ⊢
            split at hw
            · obtain ⟨e₁, s₁, hr, hq, rfl, rfl⟩ := hw
              obtain ⟨gb1, r1, q1, q2, q3⟩ := runs_sim hr nng (gb.setIfInBounds g .running) (hs.set g trivial)
              exact ⟨gb1.setIfInBounds g e₁.genState, ⟨e₁, _, r1, hq, rfl, rfl⟩, q1.set g (nge_state q3), ((GKp.set g nd).trans q2).set2 g nd⟩
            · obtain ⟨rfl, rfl⟩ := hw
              exact ⟨gb, ⟨rfl, rfl⟩, hs, .refl⟩
            · obtain ⟨rfl, rfl⟩ := hw
              exact ⟨gb.setIfInBounds g .finished, ⟨rfl, rfl⟩, hs.set g trivial, GKp.set g nd⟩
        | suspended k₀ l₀ c₀ p₀ fs cl =>
          dsimp only at hw
          obtain ⟨e₁, s₁, hr, hq, rfl, rfl⟩ := hw
          have nk : k₀ ≠ fun _ => .unsupported "" := fun z => by
            subst z
            exact no_unsup hr
          cases e1 with
          | dead _ => exact absurd rfl nk
          | same hng =>
            have nd : ∀ x : GenState, a.gens[g]? = some x → ¬ Dz x := fun x ex d0 => by
              rw [eg] at ex
              cases ex
              rcases d0 with ⟨_, _, _, _, _, d⟩ | d
              · cases d
                exact nk rfl
              · cases d
            dsimp only
            obtain ⟨gb1, r1, q1, q2, q3⟩ := runs_sim hr hng (gb.setIfInBounds g .running) (hs.set g trivial)
            exact ⟨gb1.setIfInBounds g e₁.genState, ⟨e₁, _, r1, hq, rfl, rfl⟩, q1.set g (nge_state q3), ((GKp.set g nd).trans q2).set2 g nd⟩
        | running =>
          cases e1 with
          | same _ =>
            dsimp only at hw ⊢
            obtain ⟨rfl, rfl⟩ := hw
            exact ⟨gb, ⟨rfl, rfl⟩, hs, .refl⟩
        | finished =>
          cases e1 with
          | same _ =>
            dsimp only at hw ⊢
            obtain ⟨rfl, rfl⟩ := hw
            exact ⟨gb, ⟨rfl, rfl⟩, hs, .refl⟩
    obtain ⟨gb', w, q1, q2⟩ := key
    exact ⟨res, _, w, more q2 (ih res Q E p s' gb' q1 h)⟩
  | yield _ _ _ _ => intro Q E p a gb _ h; exact h
  | stack k ih => intro Q E p a gb hs h; exact ih _ Q E p a gb hs h
  | fork _ _ => intro Q E p a gb _ h; exact h
  | thread k ih => intro Q E p a gb hs h; exact ih _ Q E p a gb hs h
  | await _ _ _ _ _ => intro Q E p a gb _ h; exact h

/-- a dead copy -/
def dead : GenState → GenState
  | .suspended _ _ c p fs cl => .suspended (fun _ => .unsupported "") [.none] c p (fs.map fun f => Frame.ret (fun _ => .unsupported "") none false [] f.where_.1 f.where_.2 []) cl
  | x => x
open Classical in
/-- all sleepers but those of I are dead -/
noncomputable def kill (I : Nat → Prop) (gs : Array GenState) : Array GenState := gs.mapIdx fun i x => if I i then x else dead x
open Classical in
theorem kill_sim {I : Nat → Prop} {gs : Array GenState} (hI : ∀ (i : Nat) (x : GenState), I i → gs[i]? = some x → NGS x) : GSim (kill I gs) gs := by
  refine ⟨by simp [kill], fun i x y e1 e2 => ?_⟩
  rw [kill, Array.getElem?_mapIdx, e2] at e1
  simp only [Option.map_some, Option.some.injEq] at e1
  subst e1
  by_cases hi : I i
  · rw [if_pos hi]; exact .same (hI i y hi e2)
  · rw [if_neg hi]
    cases y with
    | suspended k l c p fs cl =>
      refine .dead ?_
      rw [List.map_map]
      exact List.map_congr_left fun f _ => rfl
    | _ => exact .same trivial
/-- the sleepers but those of I are as they were, and what runs runs -/
structure Kept (I : Nat → Prop) (s s' : Shared) : Prop where
  susp : ∀ (i : Nat) (x : GenState), ¬ I i → s.gens[i]? = some x → Susp x → s'.gens[i]? = some x
  run : ∀ i : Nat, s.gens[i]? = some .running → s'.gens[i]? = some .running
theorem Kept.refl {I : Nat → Prop} {s : Shared} : Kept I s s := ⟨fun _ _ _ e _ => e, fun _ e => e⟩
theorem Kept.trans {I J : Nat → Prop} {s s1 s2 : Shared} (a : Kept I s s1) (b : Kept J s1 s2) (h : ∀ i, J i → I i) : Kept I s s2 := ⟨fun i x n e su => b.susp i x (fun z => n (h i z)) (a.susp i x n e su) su, fun i e => b.run i (a.run i e)⟩
open Classical in
theorem kill_at {I : Nat → Prop} {gs : Array GenState} {i : Nat} {x : GenState} (n : ¬ I i) (e : gs[i]? = some x) : (kill I gs)[i]? = some (dead x) := by
  rw [kill, Array.getElem?_mapIdx, e]
  simp [n]
open Classical in
theorem kill_in {I : Nat → Prop} {gs : Array GenState} {i : Nat} {x : GenState} (n : I i) (e : gs[i]? = some x) : (kill I gs)[i]? = some x := by
  rw [kill, Array.getElem?_mapIdx, e]
  simp [n]
theorem allBare_sim {ga gb : Array GenState} (h : GSim ga gb) (b : AllBare ga) : AllBare gb := fun y hy => by
  obtain ⟨i, hi, e⟩ := Array.mem_iff_getElem.mp hy
  have hi' : i < ga.size := by rw [h.size]; exact hi
  have q := h.at_ i ga[i] y (Array.getElem?_eq_getElem hi') (by rw [Array.getElem?_eq_getElem hi, e])
  rw [← q.bare]
  exact b _ (Array.getElem_mem hi')
theorem kept_of {I : Nat → Prop} {s s' : Shared} {ga : Array GenState} (k : GKp (kill I s.gens) s.gens ga s'.gens) : Kept I s s' := by
  refine ⟨fun i x n e su => ?_, fun i e => ?_⟩
  · refine (k i (dead x) x (kill_at n e) e ?_).2
    obtain ⟨k, c, p, fs, cl, rfl⟩ := su
    exact .inl ⟨_, _, _, _, _, rfl⟩
  · by_cases h : I i
    · exact (k i .running .running (kill_in h e) e (.inr rfl)).2
    · exact (k i (dead .running) .running (kill_at h e) e (.inr rfl)).2
/-- the copies stay dead -/
def KeptD (I : Nat → Prop) (s : Shared) (ga : Array GenState) : Prop := ∀ (i : Nat) (x : GenState), ¬ I i → s.gens[i]? = some x → Susp x → ga[i]? = some (dead x)
theorem KeptD.no {I : Nat → Prop} {s : Shared} {ga : Array GenState} (k : KeptD I s ga) {i : Nat} {x y : GenState} (n : ¬ I i) (e : s.gens[i]? = some x) (su : Susp x) (e2 : ga[i]? = some y) (su2 : Susp y) : False := by
  rw [k i x n e su] at e2
  cases e2
  obtain ⟨_, _, _, _, _, rfl⟩ := su
  obtain ⟨_, _, _, _, _, h⟩ := su2
  cases h
/-- THE FRAME RULE: what holds with all sleepers (but I's) dead holds with them alive, and they sleep on -/
theorem wpAny_frame {α : Type} {M : Model} {A : Around} {t : Sem α} {Q : α → Shared → Prop} {E : Value → Shared → Prop} {s : Shared} (I : Nat → Prop) (hI : ∀ (i : Nat) (x : GenState), I i → s.gens[i]? = some x → NGS x)
    (h : wpAny M A t Q E { s with gens := kill I s.gens }) :
    wpAny M A t (fun a s' => Kept I s s' ∧ ∃ ga, GSim ga s'.gens ∧ Q a { s' with gens := ga }) (fun e s' => Kept I s s' ∧ ∃ ga, GSim ga s'.gens ∧ E e { s' with gens := ga }) s := by
  intro Γ p hΓ
  exact Sem.wp_mono _ _ _ (fun x p' s' ⟨ga, a, b, c⟩ => ⟨kept_of b, ga, a, c⟩) (fun x p' s' ⟨ga, a, b, c⟩ => ⟨kept_of b, ga, a, c⟩) _ _ (wp_sim M Γ t _ _ p { s with gens := kill I s.gens } s.gens (kill_sim hI) (h Γ p hΓ))
end DL

/-! DL157: private things that lie still while code runs that does not know them. -/
namespace DL
open PySem L2 PyProof.Rows

/-- private things: objects, sleeping generators -/
structure Prv where
  obj : Addr → Option Obj
  gen : Nat → Option GenState
  run : Nat → Prop := fun _ => False
  os : Option OsState := Option.none
  s0 : Option Shared := Option.none
def Prv.none : Prv := { obj := fun _ => Option.none, gen := fun _ => Option.none }
/-- a private object, told to the others -/
def PO (b : Addr) (o : Obj) : HO := .ext fun h => h.get? b = some o
def plus (H : Hp) (G : Prv) : Hp := fun b => match G.obj b with
  | some o => some (PO b o)
  | Option.none => H b
def minus (H : Hp) (G : Prv) : Hp := fun b => match G.obj b with
  | some _ => Option.none
  | Option.none => H b
/-- they lie so, nobody knows them -/
structure Held (X : Cx) (pins : List (Addr × Obj)) (H : Hp) (G : Prv) (s : Shared) : Prop where
  obj : ∀ b o, G.obj b = some o → s.heap.get? b = some o ∧ FpOk X pins H b
  gen : ∀ (i : Nat) (x : GenState), G.gen i = some x → s.gens[i]? = some x ∧ Susp x ∧ NGS x
  run : ∀ i : Nat, G.run i → s.gens[i]? = some .running
  os : ∀ o, G.os = some o → X.s_0.os = o
  s0 : ∀ o, G.s0 = some o → X.s_0 = o
theorem Held.nil {X : Cx} {pins : List (Addr × Obj)} {H : Hp} {s : Shared} : Held X pins H Prv.none s := ⟨fun _ _ e => (nomatch e), fun _ _ e => (nomatch e), fun _ e => e.elim, fun _ e => (nomatch e), fun _ e => (nomatch e)⟩
theorem plus_in {H : Hp} {G : Prv} {b : Addr} {o : Obj} (e : G.obj b = some o) : plus H G b = some (PO b o) := by unfold plus; rw [e]
theorem plus_out {H : Hp} {G : Prv} {b : Addr} (e : G.obj b = Option.none) : plus H G b = H b := by unfold plus; rw [e]
theorem minus_in {H : Hp} {G : Prv} {b : Addr} {o : Obj} (e : G.obj b = some o) : minus H G b = Option.none := by unfold minus; rw [e]
theorem minus_out {H : Hp} {G : Prv} {b : Addr} (e : G.obj b = Option.none) : minus H G b = H b := by unfold minus; rw [e]
theorem tp_plus {Hf H : Hp} {G : Prv} (t : TpH Hf H) : TpH Hf (plus H G) := fun b xs e => by
  cases q : G.obj b with
  | none => rw [plus_out q] at e; exact t b xs e
  | some o => rw [plus_in q] at e; cases e
theorem tp_minus {Hf H : Hp} {G : Prv} (t : TpH Hf H) : TpH Hf (minus H G) := fun b xs e => by
  cases q : G.obj b with
  | none => rw [minus_out q] at e; exact t b xs e
  | some o => rw [minus_in q] at e; cases e

section
variable {X : Cx} {pins : List (Addr × Obj)} {σ : L2.St} {H H' : Hp} {s s' : Shared} {G : Prv}
theorem obj_of_some {b : Addr} {u : HO} (hn : ∀ b o, G.obj b = some o → H b = Option.none) (e : H b = some u) : G.obj b = Option.none := by
  cases q : G.obj b with
  | none => rfl
  | some o => rw [hn b o q] at e; cases e
theorem po_ok {P : Program} {w : World} {h : Heap} {b : Addr} {o : Obj} (e : h.get? b = some o) : ObjOk P w H h b (PO b o) := ⟨e, ⟨o, e⟩, fun _ _ q k => k o q⟩
theorem _root_.L2.Inv.plus (I : Inv X pins σ H s) (hd : Held X pins H G s) : Inv X pins σ (DL.plus H G) s := by
  have hn : ∀ b o, G.obj b = some o → H b = Option.none := fun b o e => (hd.obj b o e).2.1
  have keep : ∀ b u, H b = some u → DL.plus H G b = some u := fun b u e => by rw [plus_out (obj_of_some hn e)]; exact e
  refine ⟨I.ok, I.os, I.bare, ⟨I.base.keep, I.base.slot, fun b o e n hx => ?_, I.base.there, fun b xs e => keep _ _ (I.base.tups b xs e), fun b o u e => keep _ _ (I.base.frzs b o u e), fun b ps e => ?_⟩, I.loc, I.cell, ?_, fun x c e => ?_, fun p hp => ?_, fun b u e => ?_, I.len⟩
  · cases q : G.obj b with
    | none => rw [plus_out q]; exact I.base.free b o e n hx
    | some o' =>
      rcases (hd.obj b o' q).2.2.2.2.1 with z | z
      · exact absurd z hx
      · exact absurd (Nat.lt_of_lt_of_le (Heap.lt_size e) z) (Nat.lt_irrefl _)
  · obtain ⟨m, q⟩ := I.base.tbls b ps e
    exact ⟨m, keep _ _ q⟩
  · cases q : G.obj X.env.locals with
    | none => rw [plus_out q]; exact I.free
    | some o => exact absurd rfl (hd.obj _ o q).2.2.1
  · cases q : G.obj c with
    | none => rw [plus_out q]; exact I.freeC x c e
    | some o => exact absurd rfl ((hd.obj c o q).2.2.2.2.2.1 x c e)
  · obtain ⟨e, n, r⟩ := I.pin p hp
    refine ⟨e, ?_, r⟩
    cases q : G.obj p.1 with
    | none => rw [plus_out q]; exact n
    | some o => exact absurd rfl ((hd.obj p.1 o q).2.2.2.2.2.2 p hp)
  · cases q : G.obj b with
    | none =>
      rw [plus_out q] at e
      exact (I.hok b u e).stay (fun _ _ _ z => z) (fun c z => keep _ _ z) fun c xs z => keep _ _ z
    | some o =>
      rw [plus_in q] at e
      cases e
      exact po_ok (hd.obj b o q).1
/-- what of the private things' places does not change -/
def Still (X : Cx) (pins : List (Addr × Obj)) (G : Prv) : Prop := ∀ b o, G.obj b = some o → b ≠ X.env.locals ∧ b ∉ X.fs ∧ (b ∈ X.ex ∨ X.s_0.heap.objs.size ≤ b) ∧ (∀ x c, X.env.cells.lookup x = some c → c ≠ b) ∧ ∀ p ∈ X.pn ++ pins, p.1 ≠ b
theorem Held.still (hd : Held X pins H G s) : Still X pins G := fun b o e => (hd.obj b o e).2.2
theorem _root_.L2.Inv.minus (I : Inv X pins σ H' s) (st : Still X pins G) (hp : ∀ b o, G.obj b = some o → H' b = some (PO b o)) : Inv X pins σ (DL.minus H' G) s := by
  have keep : ∀ b u, H' b = some u → (∀ o, u ≠ PO b o) → DL.minus H' G b = some u := fun b u e n => by
    cases q : G.obj b with
    | none => rw [minus_out q]; exact e
    | some o =>
      rw [hp b o q] at e
      cases e
      exact absurd rfl (n o)
  have none' : ∀ b, H' b = Option.none → DL.minus H' G b = Option.none := fun b e => by
    cases q : G.obj b with
    | none => rw [minus_out q]; exact e
    | some o => exact minus_in q
  have back : ∀ b u, DL.minus H' G b = some u → H' b = some u := fun b u e => by
    cases q : G.obj b with
    | none => rw [minus_out q] at e; exact e
    | some o => rw [minus_in q] at e; cases e
  refine ⟨I.ok, I.os, I.bare, ⟨I.base.keep, I.base.slot, fun b o e n hx => none' b (I.base.free b o e n hx), I.base.there, fun b xs e => keep _ _ (I.base.tups b xs e) (fun o z => nomatch z), fun b o u e => keep _ _ (I.base.frzs b o u e) (fun o z => nomatch z), fun b ps e => ?_⟩, I.loc, I.cell, none' _ I.free, fun x c e => none' _ (I.freeC x c e), fun p hp => ?_, fun b u e => ?_, I.len⟩
  · obtain ⟨m, q⟩ := I.base.tbls b ps e
    exact ⟨m, keep _ _ q fun o z => nomatch z⟩
  · obtain ⟨e, n, r⟩ := I.pin p hp
    exact ⟨e, none' _ n, r⟩
  · exact (I.hok b u (back b u e)).stay (fun _ _ _ z => z) (fun c z => keep _ _ z (fun o z => nomatch z)) fun c xs z => keep _ _ z (fun o z => nomatch z)
theorem Held.back (I : Inv X pins σ H' s') (hd : Held X pins H G s) (hp : ∀ b o, G.obj b = some o → H' b = some (PO b o)) (k : Kept (fun _ => False) s s') : Held X pins (DL.minus H' G) G s' :=
  ⟨fun b o e => ⟨(I.hok b _ (hp b o e)).1, minus_in e, hd.still b o e⟩, fun i x e => ⟨k.susp i x (fun z => z) (hd.gen i x e).1 (hd.gen i x e).2.1, (hd.gen i x e).2⟩, fun i e => k.run i (hd.run i e), hd.os, hd.s0⟩
theorem _root_.L2.Inv.sim {ga : Array GenState} (h : GSim ga s.gens) (I : Inv X pins σ H { s with gens := ga }) : Inv X pins σ H s :=
  ⟨I.ok, I.os, allBare_sim h I.bare, I.base, I.loc, I.cell, I.free, I.freeC, I.pin, I.hok, I.len⟩
theorem _root_.L2.Inv.kill {J : Nat → Prop} (I : Inv X pins σ H s) : Inv X pins σ H { s with gens := kill J s.gens } :=
  ⟨I.ok, I.os, fun y hy => by
    obtain ⟨i, hi, e⟩ := Array.mem_iff_getElem.mp hy
    have hi' : i < s.gens.size := by simpa [DL.kill] using hi
    have q : (DL.kill J s.gens)[i]? = some y := by rw [Array.getElem?_eq_getElem hi, e]
    have eb : s.gens[i]? = some s.gens[i] := Array.getElem?_eq_getElem hi'
    have b := I.bare _ (Array.getElem_mem hi')
    by_cases hj : J i
    · rw [kill_in hj eb] at q
      cases q
      exact b
    · rw [kill_at hj eb] at q
      cases q
      revert b
      cases s.gens[i] <;> exact id, I.base, I.loc, I.cell, I.free, I.freeC, I.pin, I.hok, I.len⟩
end

/-- what is wanted of an exception does not ask for the sleepers -/
def SimOk (X : Cx) : Prop := ∀ (e : Value) (s : Shared) (ga : Array GenState), GSim ga s.gens → X.xe e { s with gens := ga } → X.xe e s
theorem simOk_blk {X : Cx} {s : Shared} {H : Hp} {sc : Scope} {env : Env} {fp : List Addr} : SimOk (X.blk s H sc env fp) := fun _ _ _ _ h => h.elim

section
variable {X : Cx} {pins : List (Addr × Obj)} {σ : L2.St} {H H' Hf : Hp} {s s' : Shared} {G : Prv} {ca : Nat → Addr} {R : Nat → Rg} {st : Sl} {L : List Nat} {P : Rg} {pp : Prop}
theorem run_frame {α : Type} {t : Sem α} {Q : α → Shared → Prop} (hx : SimOk X) (hQ : ∀ a (s : Shared) ga, GSim ga s.gens → Q a { s with gens := ga } → Q a s) (I : Inv X pins σ H s)
    (h : ∀ s, Inv X pins σ H s → wpAny (model X.prog X.w) X.A t Q X.xe s) : wpAny (model X.prog X.w) X.A t (fun a s' => Kept (fun _ => False) s s' ∧ Q a s') X.xe s :=
  wpAny_mono (wpAny_frame (fun _ => False) (fun _ _ z => z.elim) (h _ (I.kill (J := fun _ => False)))) (fun a s' ⟨k, ga, g, q⟩ => ⟨k, hQ a s' ga g q⟩) fun e s' ⟨_, ga, g, q⟩ => hx e s' ga g q

theorem PR.plus (p : PR ca X.K Hf H P pp R σ st) (hn : ∀ b o, G.obj b = some o → H b = Option.none) : PR ca X.K Hf (DL.plus H G) P pp R σ st := by
  have keep : ∀ b u, H b = some u → DL.plus H G b = some u := fun b u e => by rw [plus_out (obj_of_some hn e)]; exact e
  refine ⟨p.pend, p.len, fun i d e => ?_, p.dj, p.dp, ⟨fun b o e => keep b o (p.w.ex b o e), fun b q => ?_, p.w.nf, tp_plus p.w.tp⟩⟩
  · obtain ⟨v, e1, r⟩ := p.at_ i d e
    exact ⟨v, e1, r.keep (fun _ _ e => e) fun b _ o e => keep b o e⟩
  · obtain ⟨o, e⟩ := p.w.dm b q
    exact ⟨o, keep b o e⟩
/-- a step among the known things is one without the private ones -/
theorem Tr.minus {S S' : Rg} {Hf' : Hp} (hn : ∀ b o, G.obj b = some o → H b = Option.none) (hS : ∀ b o, G.obj b = some o → ¬ S b) (t : Tr S Hf (DL.plus H G) S' Hf' H') :
    Tr S Hf H S' Hf' (DL.minus H' G) ∧ (∀ b o, G.obj b = some o → H' b = some (PO b o)) ∧ (∀ b o, G.obj b = some o → ¬ S' b) := by
  have kp : ∀ b o, G.obj b = some o → H' b = some (PO b o) := fun b o e => t.keep b _ (plus_in e) (hS b o e)
  have hnone : ∀ b, DL.plus H G b = Option.none → H b = Option.none := fun b e => by
    cases q : G.obj b with
    | none => rw [plus_out q] at e; exact e
    | some o => rw [plus_in q] at e; cases e
  refine ⟨⟨t.fx, fun b o e n => ?_, fun b q => (t.nw b q).imp_right (hnone b), fun b o e => (t.fz b o e).imp_right fun q => q.imp_right (hnone b)⟩, kp, fun b o e q => ?_⟩
  · have g := obj_of_some hn e
    rw [minus_out g]
    exact t.keep b o (by rw [plus_out g]; exact e) n
  · rcases t.nw b q with z | z
    · exact hS b o e z
    · rw [plus_in e] at z; cases z
theorem PR.minus (p : PR ca X.K Hf H' P pp R σ st) (hp : ∀ b o, G.obj b = some o → ¬ jn P R b) (hf : ∀ b o, G.obj b = some o → Hf b = Option.none) : PR ca X.K Hf (DL.minus H' G) P pp R σ st := by
  have keep : ∀ b u, (∀ o, G.obj b ≠ some o) → H' b = some u → DL.minus H' G b = some u := fun b u n e => by
    cases q : G.obj b with
    | none => rw [minus_out q]; exact e
    | some o => exact absurd q (n o)
  refine ⟨p.pend, p.len, fun i d e => ?_, p.dj, p.dp, ⟨fun b o e => keep b o (fun o' q => ?_) (p.w.ex b o e), fun b q => ?_, p.w.nf, tp_minus p.w.tp⟩⟩
  · obtain ⟨v, e1, r⟩ := p.at_ i d e
    exact ⟨v, e1, r.keep (fun _ _ e => e) fun b q o e => keep b o (fun o' z => hp b o' z (.inr ⟨i, q⟩)) e⟩
  · rw [hf b o' q] at e; cases e
  · obtain ⟨o, e⟩ := p.w.dm b q
    exact ⟨o, keep b o (fun o' z => hp b o' z q) e⟩
/-- the pending datum goes with it -/
theorem Rep.minus {S : Rg} {v : V} {d : D} (r : Rep ca X.K Hf H' S v d) (hp : ∀ b o, G.obj b = some o → ¬ S b) : Rep ca X.K Hf (DL.minus H' G) S v d :=
  r.keep (fun _ _ e => e) fun b q o e => by
    cases z : G.obj b with
    | none => rw [minus_out z]; exact e
    | some o' => exact absurd q (hp b o' z)
theorem held_nf {S S' : Rg} {Hf' : Hp} (hn : ∀ b o, G.obj b = some o → H b = Option.none) (hx : Ex Hf H) (hS : ∀ b o, G.obj b = some o → ¬ S b) (t : Tr S Hf (DL.plus H G) S' Hf' H') : ∀ b o, G.obj b = some o → Hf' b = Option.none := fun b o e => by
  cases q : Hf' b with
  | none => rfl
  | some u =>
    rcases t.fz b u q with z | z | z
    · have := hx b u z
      rw [hn b o e] at this; cases this
    · exact (hS b o e z).elim
    · rw [plus_in e] at z; cases z

/-- nothing is raised -/
def SR.quiet : SR → Prop
  | .exc _ _ => False
  | _ => True
theorem sp_sim {D : Ends} (f : Flow) (s : Shared) (ga : Array GenState) (h : GSim ga s.gens) (q : SP X pins D f { s with gens := ga }) : SP X pins D f s := by
  cases f with
  | next => obtain ⟨σ, H, I, q⟩ := q; exact ⟨σ, H, I.sim h, q⟩
  | brk => obtain ⟨σ, H, I, q⟩ := q; exact ⟨σ, H, I.sim h, q⟩
  | cont => obtain ⟨σ, H, I, q⟩ := q; exact ⟨σ, H, I.sim h, q⟩
  | ret u => obtain ⟨v, σ, H, I, r, q⟩ := q; exact ⟨v, σ, H, I.sim h, r, q⟩
end
end DL

/-! DL158: what a generator promises that sleeps or has not begun; a for loop over one. -/
namespace DL
open PySem L2 PyProof.Rows

section
variable (ca : Nat → Addr) (P : Program) (w : World) (K : PySem.W.Frag) (mg : Str → Option Value) (base : Heap) (outer : List Env) (k : Nat) (os0 : OsState)
/-- the state in which it may be woken -/
structure Wk (Hf0 : Hp) (G : Prv) (A : Around) (s : Shared) (Hf H : Hp) : Prop where
  room : RoomG k A
  os : s.os = os0
  env : Env0 P w K mg base A outer s H
  fx : Ex Hf0 Hf
  hx : Ex Hf H
  tp : TpH Hf H
  obj : ∀ b o, G.obj b = some o → s.heap.get? b = some o ∧ H b = none ∧ b ∉ frs outer
  gen : ∀ (i : Nat) (x : GenState), G.gen i = some x → s.gens[i]? = some x ∧ NGS x
/-- what its turn leaves: Q the region of what it made -/
structure Woke (G : Prv) (s : Shared) (Hf H : Hp) (s1 : Shared) (Hf1 H1 : Hp) (Q : Rg) (ex : List Addr) : Prop where
  os : s1.os = s.os
  bare : AllBare s1.gens
  exs : ∀ b ∈ ex, ∃ o, G.obj b = some o
  un : Un (frs outer) ex H H1 s.heap s1.heap
  hok : HOk P w H1 s1.heap
  tr : Tr Em Hf H Q Hf1 H1
  w : Wl Hf1 H1 Q
/-- its private things from then on -/
structure Anew (G G1 : Prv) (s s1 : Shared) (H1 : Hp) : Prop where
  obj : ∀ b o, G1.obj b = some o → s1.heap.get? b = some o ∧ H1 b = none ∧ ((∃ o', G.obj b = some o') ∨ s.heap.objs.size ≤ b)
  gen : ∀ (i : Nat) (x : GenState), G1.gen i = some x → s1.gens[i]? = some x ∧ Susp x ∧ NGS x
  run : ∀ i : Nat, ¬ G1.run i
  os : G1.os = none
  s0 : G1.s0 = none
/-- the generator's own object is among them -/
def IsG (G : Prv) (a : Addr) : Prop := ∃ o, G.obj a = some o ∧ o.cls = .type "generator"
/-- it will hand out these data -/
def GenSt (a : Addr) : List D → Hp → Prv → Prop
  | [], Hf0, G => ∀ A s Hf H, Wk P w K mg base outer k os0 Hf0 G A s Hf H → wpAny (model P w) A (callSpecial? (.ref a) "__next__") (fun _ _ => False) (fun e s1 => StopX e s1.heap ∧ ∃ Hf1 H1 ex, Woke P w outer G s Hf H s1 Hf1 H1 Em ex) s
  | d :: ds, Hf0, G => ∀ A s Hf H, Wk P w K mg base outer k os0 Hf0 G A s Hf H → wpAny (model P w) A (callSpecial? (.ref a) "__next__") (fun r s1 => ∃ u v Hf1 H1 Q G1 ex, r = some u ∧ RelV v u ∧ Woke P w outer G s Hf H s1 Hf1 H1 Q ex ∧
      Rep ca K Hf1 H1 Q v d ∧ Anew G G1 s s1 H1 ∧ IsG G1 a ∧ GenSt a ds Hf1 G1) (fun _ _ => False) s
/-- an iterator at a over private things: it will hand out these data to the target tg -/
def WSt (tg : Expr) (a : Addr) : List D → Hp → Prv → Prop
  | [], Hf0, G => ∀ A s Hf H, Wk P w K mg base outer k os0 Hf0 G A s Hf H → wpAny (model P w) A (pyNext (.ref a)) (fun r s1 => r = none ∧ ∃ Hf1 H1 ex, Woke P w outer G s Hf H s1 Hf1 H1 Em ex) (fun _ _ => False) s
  | d :: ds, Hf0, G => ∀ A s Hf H, Wk P w K mg base outer k os0 Hf0 G A s Hf H → wpAny (model P w) A (pyNext (.ref a)) (fun r s1 => ∃ u, r = some u ∧ wpAny (model P w) A (letOwnedTupleGo tg (.ref a) u) (fun _ s2 => ∃ v Hf1 H1 Q G1 ex, RelV v u ∧
      Woke P w outer G s Hf H s2 Hf1 H1 Q ex ∧ Rep ca K Hf1 H1 Q v d ∧ Anew G G1 s s2 H1 ∧ WSt tg a ds Hf1 G1) (fun _ _ => False) s1) (fun _ _ => False) s
end
section
variable {ca : Nat → Addr} {P : Program} {w : World} {K : PySem.W.Frag} {mg : Str → Option Value} {base : Heap} {outer : List Env} {k : Nat} {os0 : OsState} {Hf0 Hf1 : Hp} {G : Prv}
theorem Wk.sooner {A : Around} {s : Shared} {Hf H : Hp} (w' : Wk P w K mg base outer k os0 Hf1 G A s Hf H) (h : Ex Hf0 Hf1) : Wk P w K mg base outer k os0 Hf0 G A s Hf H := ⟨w'.room, w'.os, w'.env, fun b o e => w'.fx b o (h b o e), w'.hx, w'.tp, w'.obj, w'.gen⟩
theorem GenSt.later {a : Addr} {ds : List D} (g : GenSt ca P w K mg base outer k os0 a ds Hf0 G) (h : Ex Hf0 Hf1) : GenSt ca P w K mg base outer k os0 a ds Hf1 G := by
  cases ds with
  | nil => exact fun A s Hf H q => g A s Hf H (q.sooner h)
  | cons d ds => exact fun A s Hf H q => g A s Hf H (q.sooner h)
theorem WSt.later {tg : Expr} {a : Addr} {ds : List D} (g : WSt ca P w K mg base outer k os0 tg a ds Hf0 G) (h : Ex Hf0 Hf1) : WSt ca P w K mg base outer k os0 tg a ds Hf1 G := by
  cases ds with
  | nil => exact fun A s Hf H q => g A s Hf H (q.sooner h)
  | cons d ds => exact fun A s Hf H q => g A s Hf H (q.sooner h)
end
/-- its private things are there, nobody knows them -/
structure Made (X : Cx) (pins : List (Addr × Obj)) (H : Hp) (G : Prv) (s : Shared) : Prop where
  obj : ∀ b o, G.obj b = some o → s.heap.get? b = some o ∧ FpOk X pins H b
  gen : ∀ (i : Nat) (x : GenState), G.gen i = some x → s.gens[i]? = some x ∧ NGS x
theorem Held.made {X : Cx} {pins : List (Addr × Obj)} {H : Hp} {G : Prv} {s : Shared} (h : Held X pins H G s) : Made X pins H G s := ⟨h.obj, fun i x e => ⟨(h.gen i x e).1, (h.gen i x e).2.2⟩⟩
/-- none of it has begun -/
def Fresh (G : Prv) : Prop := ∀ (i : Nat) (x : GenState), G.gen i = some x → ∃ c, x = .fresh c
abbrev GSrc := Sl → Res (List D)
/-- an expression whose value is a generator that has not begun -/
def CGn (ca : Nat → Addr) (X : Cx) (k : Nat) (e : Expr) (src : GSrc) : Prop := ∀ (Hf H : Hp) (R : Nat → Rg) (σ : L2.St) (st : Sl), PR ca X.K Hf H Em True R σ st → ∀ (ds : List D) (st1 : Sl), src st = .ok ds st1 →
  ∀ (pins : List (Addr × Obj)) (s : Shared), Inv X pins σ H s → wpAny (model X.prog X.w) X.A (eval e X.env) (fun u s1 => ∃ (a : Addr) (g : Nat) (Hf1 H1 : Hp) (R1 : Nat → Rg) (G : Prv), u = .ref a ∧ s1.heap.IsGen a g ∧ Inv X pins σ H1 s1 ∧
    Tr (jn Em R) Hf H (jn Em R1) Hf1 H1 ∧ PR ca X.K Hf1 H1 Em True R1 σ st1 ∧ Made X pins H1 G s1 ∧ IsG G a ∧ GenSt ca X.prog X.w X.K X.mg X.base X.stack k X.s_0.os a ds Hf1 G ∧ Fresh G) X.xe s

/-- its own iterator -/
def Self (P : Program) (w : World) (a : Addr) (o : Obj) : Prop := ∀ (A : Around) (s : Shared) (Q : Value → Shared → Prop) (E : Value → Shared → Prop), s.heap.get? a = some o → Q (.ref a) s → wpAny (model P w) A (pyIter (.ref a)) Q E s
/-- what is walked: private things -/
def CWk (ca : Nat → Addr) (X : Cx) (k : Nat) (tg e : Expr) (src : GSrc) : Prop := ∀ (Hf H : Hp) (R : Nat → Rg) (σ : L2.St) (st : Sl), PR ca X.K Hf H Em True R σ st → ∀ (ds : List D) (st1 : Sl), src st = .ok ds st1 →
  ∀ (pins : List (Addr × Obj)) (s : Shared), Inv X pins σ H s → wpAny (model X.prog X.w) X.A (eval e X.env) (fun v s0 => wpAny (model X.prog X.w) X.A (pyIter v) (fun u s1 => ∃ (a : Addr) (Hf1 H1 : Hp) (R1 : Nat → Rg) (G : Prv), u = .ref a ∧ Inv X pins σ H1 s1 ∧
    Tr (jn Em R) Hf H (jn Em R1) Hf1 H1 ∧ PR ca X.K Hf1 H1 Em True R1 σ st1 ∧ Made X pins H1 G s1 ∧ (∃ o, G.obj a = some o ∧ Self X.prog X.w a o) ∧ WSt ca X.prog X.w X.K X.mg X.base X.stack k X.s_0.os tg a ds Hf1 G) X.xe s0) X.xe s

section
variable {ca : Nat → Addr} {X : Cx} {pins : List (Addr × Obj)} {σ : L2.St} {H Hf H1 Hf1 : Hp} {s s1 : Shared} {G G1 : Prv} {R : Nat → Rg} {st : Sl} {L : List Nat} {Q : Rg} {k : Nat}
theorem Made.wk {os0 : OsState} (ho : s.os = os0) (I : Inv X pins σ H s) (hr : RoomG k X.A) (hx : Ex Hf H) (htp : TpH Hf H) (m : Made X pins H G s) : Wk X.prog X.w X.K X.mg X.base X.stack k os0 Hf G X.A s Hf H :=
  ⟨hr, ho, I.env0, fun _ _ e => e, hx, htp, fun b o e => ⟨(m.obj b o e).1, (m.obj b o e).2.1, fun z => (List.mem_cons.mp (I.stkSub b z)).elim (m.obj b o e).2.2.1 (m.obj b o e).2.2.2.1⟩, m.gen⟩
theorem Woke.inv {ex : List Addr} (I : Inv X pins σ H s) (m : Made X pins H G s) (w : Woke X.prog X.w X.stack G s Hf H s1 Hf1 H1 Q ex) : Inv X pins σ H1 s1 :=
  I.call' w.os w.un w.hok w.bare fun b hb => by
    obtain ⟨o, e⟩ := w.exs b hb
    obtain ⟨_, _, f1, _, f3, f4, f5⟩ := m.obj b o e
    exact ⟨f3, f1, f4, f5⟩
theorem Anew.held (I : Inv X pins σ H s) (m : Made X pins H G s) (I1 : Inv X pins σ H1 s1) (a : Anew G G1 s s1 H1) : Held X pins H1 G1 s1 :=
  ⟨fun b o e => by
    obtain ⟨q1, q2, q3⟩ := a.obj b o e
    refine ⟨q1, ?_⟩
    rcases q3 with ⟨o', q3⟩ | q3
    · exact ⟨q2, (m.obj b o' q3).2.2⟩
    · exact I.fpOk q3 q2, a.gen, fun i e => (a.run i e).elim, fun o e => (by rw [a.os] at e; cases e), fun o e => (by rw [a.s0] at e; cases e)⟩
/-- the slots' data beside a new thing -/
theorem PR.woke {v : V} {d : D} (p : PR ca X.K Hf H Em True R σ st) (t : Tr Em Hf H Q Hf1 H1) (w : Wl Hf1 H1 Q) (r : Rep ca X.K Hf1 H1 Q v d) : PR ca X.K Hf1 H1 Q (Rep ca X.K Hf1 H1 Q v d) R σ st ∧ Tr (jn Em R) Hf H (jn Q R) Hf1 H1 := by
  have wR : Wl Hf H (tot R) := p.w.mono fun b q => .inr q
  have bs := t.beside wR fun b _ q2 => q2.elim
  refine ⟨⟨r, p.len, fun i d e => ?_, p.dj, fun i b q1 q2 => bs.2.1 b ⟨i, q2⟩ q1, ⟨w.ex, fun b q => ?_, fun b q => ?_, mkTp⟩⟩, ?_⟩
  · obtain ⟨v, e1, r⟩ := p.at_ i d e
    exact ⟨v, e1, r.keep t.fx fun b q o e => bs.1 b ⟨i, q⟩ o e⟩
  · rcases q with q | q
    · exact w.dm b q
    · exact (bs.2.2 b q).1
  · rcases q with q | q
    · exact w.nf b q
    · exact (bs.2.2 b q).2
  · refine ((t.with (tot R)).more fun b q => ?_).less fun b q => ?_
    · exact q.elim (fun q => .inr q) fun q => .inl q
    · exact q.elim (fun q => .inr q) .inl
theorem stop_is {e : Value} {A : Around} {Q : Bool → Shared → Prop} {E : Value → Shared → Prop} {P : Program} {w : World} (h : StopX e s.heap) (q : Q true s) : wpAny (model P w) A (isInstance e (.type "StopIteration")) Q E s := by
  obtain ⟨a, o, vs, rfl, ho, hc, _⟩ := h
  exact wpAny_isInstance (T := "StopIteration") (b := true) ⟨o, ho, hc⟩ isSubtype_stop q
theorem next_some {P : Program} {w : World} {A : Around} {it : Value} {s : Shared} {Q : Option Value → Shared → Prop} {E : Value → Shared → Prop} (h : wpAny (model P w) A (callSpecial? it "__next__") Q (fun _ _ => False) s)
    (hQ : ∀ r s1, Q r s1 → ∃ u, r = some u) : wpAny (model P w) A (pyNext it) Q E s := by
  unfold pyNext
  refine wpAny_bind (wpAny_attempt (wpAny_mono h (fun r s1 q => ?_) fun _ _ z => z.elim))
  obtain ⟨u, rfl⟩ := hQ r s1 q
  exact wpAny_pure q
theorem next_none {P : Program} {w : World} {A : Around} {it : Value} {s : Shared} {Q : Shared → Prop} {E : Value → Shared → Prop} (h : wpAny (model P w) A (callSpecial? it "__next__") (fun _ _ => False) (fun e s1 => StopX e s1.heap ∧ Q s1) s) :
    wpAny (model P w) A (pyNext it) (fun r s1 => r = none ∧ Q s1) E s := by
  unfold pyNext
  refine wpAny_bind (wpAny_attempt (wpAny_mono h (fun _ _ z => z.elim) fun e s1 ⟨h1, h2⟩ => ?_))
  exact wpAny_bind (stop_is h1 (wpAny_pure ⟨rfl, h2⟩))
theorem go_gen {M : Model} {A : Around} {E : Value → Shared → Prop} {tg : Expr} {a : Addr} {u : Value} {o : Obj} {Qq : Unit → Shared → Prop} (ho : s.heap.get? a = some o) (hc : o.cls = .type "generator") (hQ : Qq () s) : wpAny M A (letOwnedTupleGo tg (.ref a) u) Qq E s := by
  unfold letOwnedTupleGo
  have key : ∀ b : Addr, wpAny M A (do
      let o ← load a
      match o.cls, o.data with
      | .type n, .fields vs =>
        if ["enumerate", "zip", "dict_itemiterator", "dict_reverseitemiterator", "odict_iterator", "itertools.zip_longest", "itertools.pairwise"].contains n && vs[0]? == some (rawInt b) then
          rule "for.unpacks-the-owned-tuple"
          updateField a 0 .none
      | _, _ => pure ()) Qq E s := fun b => by
    refine wpAny_bind (wpAny_load ho ?_)
    rw [hc]
    cases o.data <;> first
      | exact wpAny_pure hQ
      | (dsimp only
         rw [if_neg (by simp)]
         exact wpAny_pure hQ)
  cases tg <;> first
    | exact wpAny_pure hQ
    | (cases u <;> first
        | exact wpAny_pure hQ
        | exact key _)

theorem wst_gen {P : Program} {w : World} {K : PySem.W.Frag} {mg : Str → Option Value} {base : Heap} {outer : List Env} {os0 : OsState} {tg : Expr} {a : Addr} : ∀ {ds : List D} {Hf : Hp} {G : Prv}, GenSt ca P w K mg base outer k os0 a ds Hf G → WSt ca P w K mg base outer k os0 tg a ds Hf G
  | [], _, _, g => fun A s Hf H q => next_none (g A s Hf H q)
  | d :: ds, _, _, g => fun A s Hf H q => thn (next_some (g A s Hf H q) fun r s1 ⟨u, _, _, _, _, _, _, er, _⟩ => ⟨u, er⟩) fun r s1 ⟨u, v, Hf1, H1, Q, G1, ex, er, rv, w1, r1, a1, ⟨o1, g1, c1⟩, gs⟩ =>
      ⟨u, er, go_gen (a1.obj a o1 g1).1 c1 ⟨v, Hf1, H1, Q, G1, ex, rv, w1, r1, a1, wst_gen gs⟩⟩
theorem cwk_gen {tg e : Expr} {src : GSrc} (h : CGn ca X k e src) : CWk ca X k tg e src := fun Hf H R σ st p ds st1 es pins s I =>
  thn (h Hf H R σ st p ds st1 es pins s I) fun u s1 ⟨a, g, Hf1, H1, R1, G, eu, hg, I1, t1, p1, m1, ⟨o, q, _⟩, gs, _⟩ => by
    subst eu
    refine wpAny_pyIter_gen hg ⟨a, Hf1, H1, R1, G, rfl, I1, t1, p1, m1, ⟨o, q, fun A s' Q E eo h' => ?_⟩, wst_gen gs⟩
    obtain ⟨o', nm, qn, e1, r⟩ := hg
    rw [(m1.obj a o q).1] at e1
    cases e1
    exact wpAny_pyIter_gen ⟨o, nm, qn, eo, r⟩ h'
/-- a target's store, the private things held -/
theorem cg_held {tg : Expr} {t : TG} {g : MG} {v : V} {u : Value} {d : D} (hx : SimOk X) (hg : CG ca X L tg t g) (I : Inv X pins σ H s) (p : PR ca X.K Hf H Q (Rep ca X.K Hf H Q v d) R σ st) (hd : Held X pins H G s) (rv : RelV v u) {Z : L2.St → Hp → Prop}
    (h : match g d st with
      | .ok _ st' => ∀ Hf' H' R' σ', Tr (jn Q R) Hf H (jn Em R') Hf' H' → PR ca X.K Hf' H' Em True R' σ' st' → Lk L σ σ' → Z σ' H'
      | _ => False) : wpAny (model X.prog X.w) X.A (assign tg X.env u) (fun _ s' => ∃ σ' H', Inv X pins σ' H' s' ∧ Held X pins H' G s' ∧ Z σ' H') X.xe s := by
  have hn : ∀ b o, G.obj b = some o → H b = Option.none := fun b o e => (hd.obj b o e).2.1
  have hS : ∀ b o, G.obj b = some o → ¬ jn Q R b := fun b o e q => by
    obtain ⟨z', z⟩ := p.w.dm b q
    rw [hn b o e] at z; cases z
  have p1 : PR ca X.K Hf (plus H G) Q (Rep ca X.K Hf (plus H G) Q v d) R σ st :=
    (p.plus hn).imp fun r => r.keep (fun _ _ e => e) fun b _ o e => by rw [plus_out (obj_of_some hn e)]; exact e
  have ht := hg.2 Hf (plus H G) Q R σ st v d (fun σ' H' => (∀ b o, G.obj b = some o → H' b = some (PO b o)) ∧ Z σ' (minus H' G)) p1 (by
    cases e : g d st with
    | fail => rw [e] at h; exact h
    | exc x st1 => rw [e] at h; exact h
    | ok a st1 =>
      rw [e] at h
      intro Hf1 H1 R1 σ1 t q kk
      obtain ⟨t', a, b⟩ := t.minus hn hS
      exact ⟨a, h Hf1 _ R1 σ1 t' (q.minus b (held_nf hn p.w.ex hS t)) kk⟩)
  refine wpAny_mono (run_frame hx (fun a s ga gg ⟨σ', H', I', q⟩ => ⟨σ', H', I'.sim gg, q⟩) (I.plus hd) fun s' I' => hg.1.run pins s' σ _ v u _ I' rv ht) (fun a s' ⟨kp, σ', H', I', a', q⟩ => ?_) fun _ _ z => z
  exact ⟨σ', _, I'.minus hd.still a', hd.back I' a' kp, q⟩
end
end DL

/-! DL159: a list comprehension over a generator (or over what walks one). -/
namespace DL
open PySem L2 PyProof.Rows

section
variable {X : Cx} {pins : List (Addr × Obj)} {σ : L2.St} {H H' Hf : Hp} {s s' : Shared} {G : Prv} {ca : Nat → Addr} {R : Nat → Rg} {st : Sl} {L : List Nat} {P : Rg} {pp : Prop} {k : Nat}
theorem ce_held {e : Expr} {m : ME} (hx : SimOk X) (he : CE ca X e m) (I : Inv X pins σ H s) (p : PR ca X.K Hf H Em True R σ st) (hd : Held X pins H G s) {d : D} {st1 : Sl} (em : m st = .ok d st1) {Q : VK}
    (h : ∀ Hf' H' P R' v, Tr (jn Em R) Hf H (jn P R') Hf' H' → PR ca X.K Hf' H' P (Rep ca X.K Hf' H' P v d) R' σ st1 → Q v H') : wpAny (model X.prog X.w) X.A (eval e X.env) (fun u s' => ∃ v H', Inv X pins σ H' s' ∧ Held X pins H' G s' ∧ RelV v u ∧ Q v H') X.xe s := by
  have hn : ∀ b o, G.obj b = some o → H b = Option.none := fun b o e => (hd.obj b o e).2.1
  have hS : ∀ b o, G.obj b = some o → ¬ jn Em R b := fun b o e q => by
    obtain ⟨z', z⟩ := p.w.dm b q
    rw [hn b o e] at z; cases z
  have hw := he Hf (plus H G) R σ st (fun v H' => (∀ b o, G.obj b = some o → H' b = some (PO b o)) ∧ Q v (minus H' G)) (p.plus hn) (by
    rw [em]
    intro Hf1 H1 P1 R1 v t q
    obtain ⟨t', a, b⟩ := t.minus hn hS
    have q' := q.minus b (held_nf hn p.w.ex hS t)
    exact ⟨a, h Hf1 _ P1 R1 v t' (q'.imp fun r => r.minus fun b' o' e' z => b b' o' e' (.inl z))⟩)
  exact wpAny_mono (run_frame hx (fun a s ga gg ⟨v, H', I', q⟩ => ⟨v, H', I'.sim gg, q⟩) (I.plus hd) fun s' I' => We.run hw pins s' I') (fun u s' ⟨kp, v, H', I', rv, a', q⟩ => ⟨v, _, I'.minus hd.still a', hd.back I' a' kp, rv, q⟩) fun _ _ z => z
/-- the clause's tests, private things held -/
def TestsH (ca : Nat → Addr) (X : Cx) (ifs : List Expr) (mt : MT) : Prop := ∀ (G : Prv) (pins : List (Addr × Obj)) (Hf H : Hp) (R : Nat → Rg) (σ : L2.St) (st : Sl) (s : Shared) (b : Bool) (st1 : Sl) (Q : Hp → Prop), Inv X pins σ H s → PR ca X.K Hf H Em True R σ st → Held X pins H G s → mt st = .ok b st1 →
  (∀ Hf' H' R', Tr (jn Em R) Hf H (jn Em R') Hf' H' → PR ca X.K Hf' H' Em True R' σ st1 → Q H') →
  wpAny (model X.prog X.w) X.A (forIn ifs true fun c r => if r = true then do let ok ← isTrue c X.env (eval c X.env); pure (ForInStep.yield ok) else pure (ForInStep.yield r)) (fun b' s' => b' = b ∧ ∃ H', Inv X pins σ H' s' ∧ Held X pins H' G s' ∧ Q H') X.xe s
theorem testsH_nil : TestsH ca X [] tYesM := fun G pins Hf H R σ st s b st1 Q I p hd em h => by
  cases em
  exact wpAny_tests_nil ⟨rfl, H, I, hd, h Hf H R (Tr.refl fun _ q => q) p⟩
theorem app_held {Dl : Addr} {xs : List V} {y : V} {u : Value} (hx : SimOk X) (I : Inv X pins σ H s) (hd : Held X pins H G s) (hD : H Dl = some (.lst xs)) (hz : xs.length < sizeLine) (r : RelV y u) :
    wpAny (model X.prog X.w) X.A (call (.builtin "list.append") [.ref Dl, u]) (fun _ s' => Inv X pins σ (upd H Dl (.lst (xs ++ [y]))) s' ∧ Held X pins (upd H Dl (.lst (xs ++ [y]))) G s') X.xe s := by
  have hn : ∀ b o, G.obj b = some o → H b = Option.none := fun b o e => (hd.obj b o e).2.1
  have gD : G.obj Dl = Option.none := obj_of_some hn hD
  have hne : ∀ b o, G.obj b = some o → b ≠ Dl := fun b o e z => by rw [z, gD] at e; cases e
  have em : upd H Dl (.lst (xs ++ [y])) = minus (upd (plus H G) Dl (.lst (xs ++ [y]))) G := by
    funext b
    cases q : G.obj b with
    | none =>
      rw [minus_out q]
      by_cases z : b = Dl
      · rw [z, upd_same, upd_same]
      · rw [upd_ne z, upd_ne z, plus_out q]
    | some o => rw [minus_in q, upd_ne (hne b o q)]; exact hn b o q
  have pk : ∀ b o, G.obj b = some o → (upd (plus H G) Dl (.lst (xs ++ [y]))) b = some (PO b o) := fun b o e => by rw [upd_ne (hne b o e)]; exact plus_in e
  refine wpAny_mono (run_frame (Q := fun _ s' => Inv X pins σ (upd (plus H G) Dl (.lst (xs ++ [y]))) s') hx (fun a s ga gg I' => I'.sim gg) (I.plus hd) fun s' I' => app_ok I' (by rw [plus_out gD]; exact hD) hz r fun s2 I2 => I2) (fun a s' ⟨kp, I'⟩ => ?_) fun _ _ z => z
  rw [em]
  exact ⟨I'.minus hd.still pk, hd.back I' pk kp⟩
/-- what is walked; what it raises is not followed -/
abbrev noXs (src : GSrc) : GSrc := fun st => (src st).noX
theorem lcG_core {src : GSrc} {elt tg iter : Expr} {ifs : List Expr} {scope : Scope} {own : List (Str × Nat)} {pos pos' : Pos} {t : TG} {g : MG} {mt : MT} {me : ME} {use : Option (Value → Sem Unit)} {Qf : Value → Shared → Prop} {Q : VK}
    (hc : X.calm = true) (hN : X.N.Nodup) (I : Inv X pins σ H s) (hi : CWk ca X k tg iter src) (ok : BlkOk X.N X.env.scope scope own) (hr : RoomG k X.A)
    (hg : ∀ n s H C cl fp, CG ca (bk X scope s H C cl fp) (but n (own.map (·.2))) tg t g) (ht : ∀ s H C cl fp, TestsH ca (bk X scope s H C cl fp) ifs mt) (he : ∀ s H C cl fp, CE ca (bk X scope s H C cl fp) elt me)
    (hs : ∀ x, foldedSetIterable iter X.env x = pure x) (p : PR ca X.K Hf H Em True R σ st) (h : Post ca X Hf H (jn Em R) σ (eLc (noXs src) g mt me (own.map (·.2)) st) Q)
    (hRR : ∀ D C s' m H', Inv X pins σ H' s' → Q (.ref D) H' → s'.heap.Ns C m → FpOk X pins H' C → compPost (model X.prog X.w) X.A X.xe use Qf (.ref D) C (.ok .next) s') :
    wpAny (model X.prog X.w) X.A (comprehension (.ListComp elt [⟨tg, iter, ifs, 0⟩] scope pos) scope X.env pos' (newList []) false (eval iter X.env) use) Qf X.xe s := by
  have hfree : ∀ y ∈ scope.names, y.2 = .free → ∃ c, X.env.cells.lookup y.1 = some c := fun y hy e => by
    rcases ok.free y hy e with k | k
    · exact I.ok.has _ (.inl k)
    · exact I.ok.has _ (.inr k)
  unfold eLc at h
  cases es : src st with
  | fail => rw [show noXs src st = .fail by show (src st).noX = _; rw [es]; rfl] at h; exact h.elim
  | exc x st1 => rw [show noXs src st = .fail by show (src st).noX = _; rw [es]; rfl] at h; exact h.elim
  | ok ds st1 =>
  rw [show noXs src st = .ok ds st1 by show (src st).noX = _; rw [es]; rfl] at h
  refine wpAny_comprehension_free (use := use) rfl hs (closure_ok hfree) ok.kind (fun y hy e => by rw [ok.uniq y hy, e])
    (thn (hi Hf H R σ st p ds st1 es pins s I) fun xv s0 hx => thn hx fun itv s2 ⟨a, Hf2, H2, R2, G, ev, I2, t2, p2, m2, ⟨oa, ga, slf⟩, gst⟩ => ?_)
  subst ev
  generalize hw : own.map (·.2) = w at h hg
  have h1 : Post ca X Hf2 H2 (jn Em R2) σ ((compD g mt me w ds (wipeS st1 w) []).bind fun acc st2 => .ok (.lst true acc) st2) Q := Post.from t2 h
  clear h
  refine wpAny_newObj_type (newEnv_comp ?_) (by show 0 ≤ sizeLine; decide)
  generalize hD : s2.heap.objs.size = Dl
  have hDn : H2 Dl = none := I2.hok.fresh (Nat.le_of_eq hD)
  generalize hs3 : ({ s2 with heap := s2.heap.push { cls := .type "list", data := .seq ([] : List Value).toArray } } : Shared) = s3
  have I3 : Inv X pins σ (upd H2 Dl (.lst [])) s3 := by
    rw [← hs3]
    refine I2.laid (t' := s2.toks) (fun b o e => Heap.get?_push_of_some _ e) (Nat.le_of_eq hD) ⟨Nat.zero_le _, [], 0, .nil, ?_⟩
    rw [← hD]
    exact Heap.get?_push_size _ rfl
  have h3 : s3.heap = s2.heap.push { cls := .type "list", data := .seq ([] : List Value).toArray } := by rw [← hs3]
  -- the private things, as a list
  obtain ⟨fp, hfp⟩ : ∃ fp : List Addr, fp = (List.range s2.heap.objs.size).filter fun b => (G.obj b).isSome := ⟨_, rfl⟩
  have fpo : ∀ b ∈ fp, ∃ o, G.obj b = some o := fun b hb => by
    rw [hfp] at hb
    exact Option.isSome_iff_exists.mp (List.mem_filter.mp hb).2
  have fpi : ∀ b o, G.obj b = some o → b ∈ fp := fun b o e => by
    rw [hfp]
    exact List.mem_filter.mpr ⟨List.mem_range.mpr (Heap.lt_size (m2.obj b o e).1), by rw [e]; rfl⟩
  have f3 : ∀ b ∈ fp, FpOk X pins (upd H2 Dl (.lst [])) b ∧ b < s3.heap.objs.size := fun b hb => by
    obtain ⟨o, e⟩ := fpo b hb
    have hlt := Heap.lt_size (m2.obj b o e).1
    refine ⟨⟨?_, (m2.obj b o e).2.2⟩, by rw [h3, Heap.size_push]; exact Nat.lt_succ_of_lt hlt⟩
    rw [upd_ne (by rw [← hD]; exact Nat.ne_of_lt hlt)]
    exact (m2.obj b o e).2.1
  have I4 := block_start I3 ok hN f3
  rw [hw] at I4
  have pg : ∀ n, CG ca (X.blk s3 (upd H2 Dl (.lst [])) scope (compEnvC scope (cellsFrom (s3.heap.objs.size + 1) scope.names (cloFrom X.env.cells scope.names [])) s3.heap.objs.size X.env) fp) (but n w) tg t g := fun n => hg n s3 _ _ _ fp
  have pt : TestsH ca (X.blk s3 (upd H2 Dl (.lst [])) scope (compEnvC scope (cellsFrom (s3.heap.objs.size + 1) scope.names (cloFrom X.env.cells scope.names [])) s3.heap.objs.size X.env) fp) ifs mt := ht s3 _ _ _ fp
  have pe : DL.CE ca (X.blk s3 (upd H2 Dl (.lst [])) scope (compEnvC scope (cellsFrom (s3.heap.objs.size + 1) scope.names (cloFrom X.env.cells scope.names [])) s3.heap.objs.size X.env) fp) elt me := he s3 _ _ _ fp
  show codeAny _ _ (.compStart (.ListComp elt [⟨tg, iter, ifs, 0⟩] scope pos) 0 (.ref a) (.ref Dl) (compEnvC scope (cellsFrom (s3.heap.objs.size + 1) scope.names (cloFrom X.env.cells scope.names [])) s3.heap.objs.size X.env)) (compPost (model X.prog X.w) X.A X.xe use Qf (.ref Dl) s3.heap.objs.size) { s3 with heap := pushCells (s3.heap.push { cls := .type "dict", data := .dict #[] }) scope.names }
  generalize hce : compEnvC scope (cellsFrom (s3.heap.objs.size + 1) scope.names (cloFrom X.env.cells scope.names [])) s3.heap.objs.size X.env = ce at I4 pg pt pe ⊢
  have cL : ce.locals = s3.heap.objs.size := by subst hce; rfl
  generalize hH3 : upd H2 Dl (.lst []) = H3 at I3 I4 pg pt pe f3
  generalize hs4 : ({ s3 with heap := pushCells (s3.heap.push { cls := .type "dict", data := .dict #[] }) scope.names } : Shared) = s4 at I4 ⊢
  -- the private things and the slots in the block
  have k34 : ∀ b o, s2.heap.get? b = some o → s4.heap.get? b = some o := fun b o e => by
    rw [← hs4]
    refine pushCells_keeps _ _ _ _ (Heap.get?_push_of_some _ ?_)
    rw [h3]
    exact Heap.get?_push_of_some _ e
  have g34 : s4.gens = s2.gens := by rw [← hs4, ← hs3]
  have ne2 : ∀ b o, H2 b = some o → H3 b = some o := fun b o e => by rw [← hH3]; exact upd_keep hDn b o e
  have m4 : Made (X.blk s3 H3 scope ce fp) [] H3 G s4 := ⟨fun b o e => ⟨k34 b o (m2.obj b o e).1, (f3 b (fpi b o e)).1.1, (I4.ok.exf b (fpi b o e)).1, I4.ok.exfs b (fpi b o e), .inl (fpi b o e), fun x c z => (I4.ok.exf b (fpi b o e)).2 x c z, fun p hp => absurd (show p ∈ ([] : List (Addr × Obj)) ++ [] from hp) (by simp)⟩,
    fun i x e => by rw [g34]; exact m2.gen i x e⟩
  have hD1 : Hf2 Dl = none := (wl_new (o := .lst []) p2.w hDn).2
  have acc0 : Acc ca X.K Hf2 H3 Dl Em [] R2 (L2.wipe σ w) (wipeS st1 w) := ⟨by
    rw [← hH3]
    exact (p2.wipe w).grow (o := .lst []) hDn (P' := fun b => b = Dl ∨ Em b) (qq := ∃ vs, (upd H2 Dl (.lst [])) Dl = some (.lst vs) ∧ RepL ca X.K Hf2 (upd H2 Dl (.lst [])) Em vs [] ∧ ¬ Em Dl) ⟨[], upd_same, .nil, fun q => q⟩ (fun b q => q.elim id fun q => q.elim)⟩
  have tr0 : Tr (jn Em R2) Hf2 H2 (jn (fun b => b = Dl ∨ Em b) R2) Hf2 H3 := by
    refine ⟨fun _ _ e => e, fun b o e _ => ne2 b o e, fun b q => ?_, fun _ _ e => .inl e⟩
    rcases q with (q | q) | q
    · subst q; exact .inr hDn
    · exact q.elim
    · exact .inl (.inr q)
  have loop : codeAny (model X.prog X.w) X.A (.compLoop (.ListComp elt [⟨tg, iter, ifs, 0⟩] scope pos) 0 (.ref a) (.ref Dl) ce) (compPost (model X.prog X.w) X.A X.xe use Qf (.ref Dl) s3.heap.objs.size) s4 := by
    refine compLoop_any (fun n s' => ∃ ds' st' Hf' H' R' G' A acc, n = ds'.length ∧ Inv (X.blk s3 H3 scope ce fp) [] (L2.wipe σ w) H' s' ∧ Tr (jn Em R2) Hf2 H2 (jn (fun b => b = Dl ∨ A b) R') Hf' H' ∧ Acc ca X.K Hf' H' Dl A acc R' (L2.wipe σ w) st' ∧ Made (X.blk s3 H3 scope ce fp) [] H' G' s' ∧
      WSt ca X.prog X.w X.K X.mg X.base X.stack k X.s_0.os tg a ds' Hf' G' ∧ compD g mt me w ds' st' acc = compD g mt me w ds (wipeS st1 w) []) ?_ ds.length ⟨ds, wipeS st1 w, Hf2, H3, R2, G, Em, [], rfl, I4, tr0, acc0, m4, gst, rfl⟩
    rintro n s5 ⟨ds', st', Hf', H', R', G', A, acc, rfl, I5, t', ac, m5, g5, ef⟩
    have p' := ac.pr
    have hwk := m5.wk (I5.os.trans I3.os) I5 hr p'.w.ex p'.w.tp
    cases ds' with
    | nil =>
      refine thnF (g5 _ _ _ _ hwk) fun r s6 ⟨er, Hf6, H6, ex, w6⟩ => ?_
      subst er
      have I6 := w6.inv I5 m5
      have I7 : Inv X pins σ H6 s6 := I3.call' (ch := fp) I6.os I6.base I6.hok I6.bare fun b hb => ⟨(f3 b hb).1.2.2.2.1, (f3 b hb).1.2.1, (f3 b hb).1.2.2.2.2.1, (f3 b hb).1.2.2.2.2.2⟩
      have nC : H6 s3.heap.objs.size = none := by
        have z : H6 ce.locals = none := I6.free
        rw [cL] at z
        exact z
      obtain ⟨m, hn, _⟩ := I6.loc
      have hn : s6.heap.Ns ce.locals m := hn
      rw [cL] at hn
      refine hRR Dl s3.heap.objs.size s6 m H6 I7 ?_ hn (I3.fpOk (Nat.le_refl _) nC)
      rw [compD] at ef
      rw [← ef] at h1
      have h2 : Post ca X Hf2 H2 (jn Em R2) σ (.ok (.lst true acc) st') Q := h1
      obtain ⟨vs0, eD, rA, nA⟩ := p'.pend
      have pAcc : PR ca X.K Hf' H' (fun b => b = Dl ∨ A b) True R' (L2.wipe σ w) st' := p'.imp fun _ => trivial
      obtain ⟨p6, t6⟩ := PR.woke (X := X.blk s3 H3 scope ce fp) (v := .non) (d := .non) p'.drop w6.tr w6.w .non
      obtain ⟨c1, c2, c3, c4, c5⟩ := PR.carry (ppf := fun _ _ => True) pAcc t6 p6
      have p7 : PR ca X.K Hf6 H6 (fun b => b = Dl ∨ A b) (Rep ca X.K Hf6 H6 (fun b => b = Dl ∨ A b) (.ref Dl) (.lst true acc)) R' (L2.wipe σ w) st' :=
        ⟨.lstO (.inl rfl) (c1 Dl (.inl rfl) _ eD) ((rA.keep w6.tr.fx (fun b q => c1 b (.inr q))).mono fun b q => ⟨.inr q, fun z => nA (z ▸ q)⟩), p6.len, p6.at_, p6.dj, c3, c4.mono fun b q => q.elim (fun q => .inl (.inl q)) .inr⟩
      exact h2 Hf6 H6 (fun b => b = Dl ∨ A b) R' (.ref Dl) (t'.trans (c5.less fun b q => q.elim (fun q => .inl (.inl q)) .inr)) p7.unwipe
    | cons d ds' =>
      refine thnF (g5 _ _ _ _ hwk) fun r s6' ⟨u, er, hgo⟩ => ?_
      subst er
      refine thnF hgo fun _ s6 ⟨v, Hf6, H6, Q6, G6, ex, rv, w6, r6, a6, gs6⟩ => ?_
      have I6 := w6.inv I5 m5
      have h6 := a6.held I5 m5 I6
      obtain ⟨p6, t6⟩ := PR.woke (X := X.blk s3 H3 scope ce fp) p'.drop w6.tr w6.w r6
      have hnf : compD g mt me w ds (wipeS st1 w) [] = .fail → False := fun z => by rw [z] at h1; exact h1
      rw [compD] at ef
      have pAcc : PR ca X.K Hf' H' (fun b => b = Dl ∨ A b) True R' (L2.wipe σ w) st' := p'.imp fun _ => trivial
      obtain ⟨vs0, eD, rA, nA⟩ := p'.pend
      cases eg : g d st' with
      | fail => rw [eg] at ef; exact (hnf ef.symm).elim
      | exc x0 st2 => rw [eg] at ef; exact (hnf ef.symm).elim
      | ok a0 st2 =>
      rw [eg] at ef
      refine thnF (cg_held (Z := fun σ7 H7 => ∃ Hf7 R7, Tr (jn Q6 R') Hf6 H6 (jn Em R7) Hf7 H7 ∧ PR ca X.K Hf7 H7 Em True R7 σ7 st2 ∧ Lk (but (L2.wipe σ w).length w) (L2.wipe σ w) σ7) simOk_blk (pg (L2.wipe σ w).length) I6 p6 h6 rv (by
        rw [eg]
        exact fun Hf7 H7 R7 σ7 t7 p7 k7 => ⟨Hf7, R7, t7, p7, k7⟩)) fun _ s7 ⟨σ7, H7, I7, h7, Hf7, R7, t7, p7, k7⟩ => ?_
      have ew : L2.wipe σ7 w = L2.wipe σ w := by rw [wipe_lk k7, wipe_wipe]
      dsimp only [Res.bind, Res.noX] at ef
      cases et : mt st2 with
      | fail => rw [et] at ef; exact (hnf ef.symm).elim
      | exc x0 st4 => rw [et] at ef; exact (hnf ef.symm).elim
      | ok kk st4 =>
      rw [et] at ef
      dsimp only at ef
      refine thnF (pt G6 [] Hf7 H7 R7 σ7 st2 s7 kk st4 (fun H8 => ∃ Hf8 R8, Tr (jn Em R7) Hf7 H7 (jn Em R8) Hf8 H8 ∧ PR ca X.K Hf8 H8 Em True R8 σ7 st4) I7 p7 h7 et fun Hf8 H8 R8 t8 p8 => ⟨Hf8, R8, t8, p8⟩) fun b s8 ⟨eb, H8, I8, h8, Hf8, R8, t8, p8⟩ => ?_
      subst eb
      have tA := (t6.trans t7).trans t8
      have fin : ∀ {s' : Shared} {H9 Hf9 : Hp} {R9 : Nat → Rg} {A9 : Rg} {acc9 : List D} {st9 : Sl}, Inv (X.blk s3 H3 scope ce fp) [] σ7 H9 s' → Held (X.blk s3 H3 scope ce fp) [] H9 G6 s' → Tr (jn Em R2) Hf2 H2 (jn (fun b => b = Dl ∨ A9 b) R9) Hf9 H9 → Ex Hf6 Hf9 → Acc ca X.K Hf9 H9 Dl A9 acc9 R9 (L2.wipe σ w) (wipeS st9 w) →
          compD g mt me w ds' (wipeS st9 w) acc9 = compD g mt me w ds (wipeS st1 w) [] → ∃ m, m < (d :: ds').length ∧ ∃ ds' st' Hf' H' R' G' A acc, m = ds'.length ∧ Inv (X.blk s3 H3 scope ce fp) [] (L2.wipe σ w) H' s' ∧ Tr (jn Em R2) Hf2 H2 (jn (fun b => b = Dl ∨ A b) R') Hf' H' ∧ Acc ca X.K Hf' H' Dl A acc R' (L2.wipe σ w) st' ∧ Made (X.blk s3 H3 scope ce fp) [] H' G' s' ∧
          WSt ca X.prog X.w X.K X.mg X.base X.stack k X.s_0.os tg a ds' Hf' G' ∧ compD g mt me w ds' st' acc = compD g mt me w ds (wipeS st1 w) [] := fun {s' H9 Hf9 R9 A9 acc9 st9} I9 h9 t9 e9 ac9 ef9 => by
        have hl : (L2.wipe σ w).length = σ7.length := by rw [← ew, wipe_length]
        refine ⟨ds'.length, Nat.lt_succ_self _, ds', wipeS st9 w, Hf9, H9, R9, G6, A9, acc9, rfl, I9.weak hl (fun j v e => ?_), t9, ac9, h9.made, gs6.later e9, ef9⟩
        rw [← ew] at e
        exact (wipe_some e).1
      cases b with
      | false =>
        rw [if_neg (by decide)] at ef
        rw [if_neg (by decide)]
        obtain ⟨c1, c2, c3, c4, c5⟩ := PR.carry (ppf := fun _ _ => True) pAcc tA p8
        refine fin (R9 := R8) (A9 := A) (acc9 := acc) (st9 := st4) I8 h8 ((t'.trans c5).less fun b q => ?_) (fun b o e => t8.fx b o (t7.fx b o e)) ⟨?_⟩ ef
        · rcases q with q | q
          · exact .inl (.inl q)
          · exact .inr q
        · have p9 : PR ca X.K Hf8 H8 (fun b => b = Dl ∨ A b) (∃ vs, H8 Dl = some (.lst vs) ∧ RepL ca X.K Hf8 H8 A vs acc ∧ ¬ A Dl) R8 σ7 st4 :=
            ⟨⟨vs0, c1 Dl (.inl rfl) _ eD, rA.keep tA.fx (fun b q => c1 b (.inr q)), nA⟩, p8.len, p8.at_, p8.dj, c3, c4.mono fun b q => by
              rcases q with q | q
              · exact .inl (.inl q)
              · exact .inr q⟩
          have := p9.wipe w
          rw [ew] at this
          exact this
      | true =>
        rw [if_pos rfl] at ef
        rw [if_pos rfl]
        cases ee : me st4 with
        | fail => rw [ee] at ef; exact (hnf ef.symm).elim
        | exc x0 st5 => rw [ee] at ef; exact (hnf ef.symm).elim
        | ok y st5 =>
        rw [ee] at ef
        dsimp only at ef
        refine thnF (ce_held (Q := fun vy H9 => ∃ Hf9 P9 R9, Tr (jn Em R8) Hf8 H8 (jn P9 R9) Hf9 H9 ∧ PR ca X.K Hf9 H9 P9 (Rep ca X.K Hf9 H9 P9 vy y) R9 σ7 st5) simOk_blk pe I8 p8 h8 ee fun Hf9 H9 P9 R9 v t9 p9 => ⟨Hf9, P9, R9, t9, p9⟩) fun uy s9 ⟨vy, H9, I9, h9, ry, Hf9, P9, R9, t9, p9⟩ => ?_
        obtain ⟨c1, c2, c3, c4, c5⟩ := PR.carry (ppf := fun _ _ => True) pAcc (tA.trans t9) p9
        by_cases hl : acc.length < 16777216
        · rw [if_pos hl] at ef
          have eD9 := c1 Dl (.inl rfl) _ eD
          have rA9 := rA.keep (tA.trans t9).fx (fun b q => c1 b (.inr q))
          refine thnF (app_held (X := X.blk s3 H3 scope ce fp) simOk_blk I9 h9 eD9 (by rw [rA.length, ← sz_eq]; exact hl) ry) fun _ s10 ⟨I10, h10⟩ => ?_
          have hnD : ∀ b, (A b ∨ P9 b) → b ≠ Dl := fun b q z => by
            subst z
            rcases q with q | q
            · exact nA q
            · exact c2 b (.inl rfl) q
          have hk : ∀ b o, b ≠ Dl → H9 b = some o → upd H9 Dl (.lst (vs0 ++ [vy])) b = some o := fun b o n e => by rw [upd_ne n]; exact e
          refine fin (R9 := R9) (A9 := fun b => A b ∨ P9 b) (acc9 := acc ++ [y]) (st9 := st5) I10 h10 (((t'.trans c5).trans ⟨fun _ _ e => e, fun b o e n => ?_, fun b q => .inl q, fun _ _ e => .inl e⟩).less fun b q => ?_) (fun b o e => t9.fx b o (t8.fx b o (t7.fx b o e))) ⟨?_⟩ ef
          · rw [upd_ne fun z => n (.inl (.inl (.inl z)))]; exact e
          · rcases q with (q | q | q) | q
            · exact .inl (.inl (.inl q))
            · exact .inl (.inl (.inr q))
            · exact .inl (.inr q)
            · exact .inr q
          · have rN := (repL_snoc rA9 p9.pend fun b q1 q2 => c2 b (.inr q1) q2).keep (H' := upd H9 Dl (.lst (vs0 ++ [vy]))) (fun _ _ e => e) fun b q o e => hk b o (hnD b q) e
            have p10 : PR ca X.K Hf9 (upd H9 Dl (.lst (vs0 ++ [vy]))) (fun b => b = Dl ∨ A b ∨ P9 b) (∃ vs, (upd H9 Dl (.lst (vs0 ++ [vy]))) Dl = some (.lst vs) ∧ RepL ca X.K Hf9 (upd H9 Dl (.lst (vs0 ++ [vy]))) (fun b => A b ∨ P9 b) vs (acc ++ [y]) ∧ ¬ (A Dl ∨ P9 Dl)) R9 σ7 st5 :=
              ⟨⟨_, upd_same, rN, fun q => hnD Dl q rfl⟩, p9.len, fun k d e => by
                obtain ⟨v, e1, r⟩ := p9.at_ k d e
                exact ⟨v, e1, r.keep (fun _ _ e => e) fun b q o e => hk b o (fun z => c3 k b (.inl z) q) e⟩, p9.dj, fun k b q1 q2 => by
                rcases q1 with q | q | q
                · exact c3 k b (.inl q) q2
                · exact c3 k b (.inr q) q2
                · exact p9.dp k b q q2, ⟨fun b o e => by
                  by_cases z : b = Dl
                  · subst z
                    have := c4.nf b (.inl (.inl (.inl rfl)))
                    rw [this] at e; cases e
                  · exact hk b o z (c4.ex b o e), fun b q => by
                  by_cases z : b = Dl
                  · subst z; exact ⟨_, upd_same⟩
                  · obtain ⟨o, e⟩ := c4.dm b (by
                      rcases q with (q | q | q) | q
                      · exact .inl (.inl (.inl q))
                      · exact .inl (.inl (.inr q))
                      · exact .inl (.inr q)
                      · exact .inr q)
                    exact ⟨o, hk b o z e⟩, fun b q => c4.nf b (by
                      rcases q with (q | q | q) | q
                      · exact .inl (.inl (.inl q))
                      · exact .inl (.inl (.inr q))
                      · exact .inl (.inr q)
                      · exact .inr q), mkTp⟩⟩
            have := p10.wipe w
            rw [ew] at this
            exact this
        · rw [if_neg hl] at ef; exact (hnf ef.symm).elim
  exact codeAny_compStart_list loop (slf X.A s4 _ _ (k34 a oa (m2.obj a oa ga).1) loop)
/-- [elt for tg in gen if ..] -/
theorem ce_lcG {src : GSrc} {elt tg iter : Expr} {ifs : List Expr} {scope : Scope} {own : List (Str × Nat)} {pos : Pos} {t : TG} {g : MG} {mt : MT} {me : ME} (hc : X.calm = true) (hN : X.N.Nodup) (hi : CWk ca X k tg iter src) (ok : BlkOk X.N X.env.scope scope own) (hr : RoomG k X.A)
    (hg : ∀ n s H C cl fp, CG ca (bk X scope s H C cl fp) (but n (own.map (·.2))) tg t g) (ht : ∀ s H C cl fp, TestsH ca (bk X scope s H C cl fp) ifs mt) (he : ∀ s H C cl fp, CE ca (bk X scope s H C cl fp) elt me) (hs : ∀ x, foldedSetIterable iter X.env x = pure x := by intro _; rfl) :
    CE ca X (.ListComp elt [⟨tg, iter, ifs, 0⟩] scope pos) (eLc (noXs src) g mt me (own.map (·.2))) := fun Hf H R σ st Q p h => We.mk fun pins s I => by
  rw [eval_ListComp]
  refine lcG_core hc hN I hi ok hr hg ht he hs p h fun D C s' m H' I' q hn f => ⟨m, hn, fun h'' sb => ?_⟩
  obtain ⟨f0, f1, f2, f3, f4, f5⟩ := f
  exact ⟨.ref D, H', I'.turned (t' := s'.toks) (fun b o hb e => (sb.2 b hb).trans e) f0 f1 f3 f4 f5, rfl, q⟩
end
end DL

/-! DL160: dead places stay dead; segments of a generator's run with a free end; a heap cut down. -/
namespace DL
open PySem L2 PyProof.Rows
open Sem (wp)

/-! ### the heap only grows, and what is dead stays so -/
structure HM (h h' : Heap) : Prop where
  size : h.objs.size ≤ h'.objs.size
  dead : ∀ b, b < h.objs.size → h.get? b = none → h'.get? b = none
theorem HM.refl {h : Heap} : HM h h := ⟨Nat.le_refl _, fun _ _ e => e⟩
theorem HM.trans {h h1 h2 : Heap} (a : HM h h1) (b : HM h1 h2) : HM h h2 := ⟨Nat.le_trans a.size b.size, fun x hx e => b.dead x (Nat.lt_of_lt_of_le hx a.size) (a.dead x hx e)⟩
theorem HM.push {h : Heap} {o : Obj} : HM h (h.push o) := by
  refine ⟨by rw [Heap.size_push]; exact Nat.le_succ _, fun b hb e => ?_⟩
  cases h with
  | mk objs l =>
    unfold Heap.get? Heap.push at *
    dsimp only at *
    rw [Array.getElem?_push_lt hb]
    rw [Array.getElem?_eq_getElem hb] at e
    exact e
theorem HM.update {h : Heap} {a : Addr} {f : Obj → Obj} (ha : (h.get? a).isSome) : HM h (h.update a f) := by
  refine ⟨by rw [Heap.size_update]; exact Nat.le_refl _, fun b hb e => ?_⟩
  have hne : a ≠ b := fun z => by rw [z, e] at ha; cases ha
  rw [Heap.get?_update_other _ _ hne]
  exact e
theorem runs_hm {M : Model} {Γ : Ctx} {p : Pos} {t : Sem PySem.Fin} {fs : List Frame} {s s' : Shared} {e : End} (h : Runs M Γ p t fs s e s') : HM s.heap s'.heap := by
  induction h with
  | done => exact .refl
  | raise => exact .refl
  | again _ _ ih => exact ih
  | rule _ ih => exact ih
  | «at» _ ih => exact ih
  | load _ _ ih => exact ih
  | update hl _ ih => exact (HM.update hl).trans ih
  | loadIfAlive _ ih => exact ih
  | point _ ih => exact ih
  | alloc _ ih => exact HM.push.trans ih
  | fresh _ ih => exact ih
  | ask _ ih => exact ih
  | choose _ _ ih => exact ih
  | os _ ih => exact ih
  | handled _ ih => exact ih
  | genState _ _ ih => exact ih
  | stack _ ih => exact ih
  | thread _ ih => exact ih
  | newGen _ ih => exact ih
  | call _ _ ih1 ih2 => exact ih1.trans ih2
  | callSusp _ ih1 => exact ih1
  | yield => exact .refl
  | resumeFresh _ _ _ _ ih1 ih2 => exact HM.trans ih1 ih2
  | resumeSuspended _ _ _ _ ih1 ih2 => exact HM.trans ih1 ih2
  | resumeJustStarted _ _ _ ih => exact ih
  | resumeThrowFresh _ _ ih => exact ih
  | resumeRunning _ _ ih => exact ih
  | resumeFinished _ _ ih => exact ih
  | segRet _ _ ih1 ih2 => exact ih1.trans ih2
  | segGen _ _ ih1 ih2 => exact HM.trans ih1 ih2
  | segSuspOut _ _ ih => exact ih
  | segSuspGen _ _ _ _ ih1 ih2 => exact HM.trans ih1 ih2

/-! ### segments: Φ is told the end, or the state in which it sleeps -/
def Sg (M : Model) (A : Around) (Φ : End → Shared → Prop) (c : Code) (t : Sem PySem.Fin) (fs : List Frame) (s : Shared) : Prop := ∀ Γ p, Γ.code = c → Γ.Woken A → ∃ e s', Runs M Γ p t fs s e s' ∧ Φ e s'
section
variable {M : Model} {A : Around} {Φ : End → Shared → Prop} {c : Code} {fs : List Frame} {s : Shared}
theorem Sg.imp {Φ' : End → Shared → Prop} {t : Sem PySem.Fin} (h : Sg M A Φ c t fs s) (hΦ : ∀ e s', HM s.heap s'.heap → Φ e s' → Φ' e s') : Sg M A Φ' c t fs s := fun Γ p hc hΓ =>
  let ⟨e, s', hr, q⟩ := h Γ p hc hΓ
  ⟨e, s', hr, hΦ e s' (runs_hm hr) q⟩
theorem sg_wrap {α : Type} {m : Sem α} {K : α → Sem PySem.Fin} {J : Value → Sem PySem.Fin} {gd lv} (h : wpAny M (A.over c fs) m (fun a s' => Sg M A Φ c (K a) fs s') (fun x s' => Sg M A Φ c (J x) fs s') s) : Sg M A Φ c (m.wrap K J gd lv) fs s := by
  rintro Γ p rfl hΓ
  exact runs_wrap_of_wp K J gd lv m (h (Γ.over fs) p (hΓ.over fs)) (fun a p' s' h' => h' Γ p' rfl hΓ) (fun x p' s' h' => h' Γ p' rfl hΓ)
theorem sg_bindw {α β : Type} {m : Sem α} {K : α → Sem β} {K' : β → Sem PySem.Fin} {J : Value → Sem PySem.Fin} {gd lv} (h : wpAny M (A.over c fs) m (fun a s' => Sg M A Φ c ((K a).wrap K' J gd lv) fs s') (fun x s' => Sg M A Φ c (J x) fs s') s) : Sg M A Φ c ((m >>= K).wrap K' J gd lv) fs s := by
  rw [Sem.bind_eq_wrap', Sem.wrap_wrap]
  exact sg_wrap h
theorem sg_at {p' : Pos} {k : Unit → Sem PySem.Fin} (h : Sg M A Φ c (k ()) fs s) : Sg M A Φ c (.at p' k) fs s :=
  sg_wrap (m := standAt p') (K := k) (J := .raise) (gd := id) (lv := id) (wpAny_standAt h)
theorem sg_point {l : List Value} {k : Unit → Sem PySem.Fin} (h : Sg M A Φ c (k ()) fs s) : Sg M A Φ c (.point l k) fs s :=
  sg_wrap (m := point) (K := k) (J := .raise) (gd := id) (lv := fun _ => l) (wpAny_point h)
theorem sg_call {c' : Code} {h g l} {k : Result → Sem PySem.Fin} (hc : ∀ p, Sg M A Φ c' (M.den c') (.ret k h g l c p [] :: fs) s) : Sg M A Φ c (.call c' h g l k) fs s := by
  rintro Γ p rfl hΓ
  obtain ⟨e, s', hr, he⟩ := hc p (Γ.goto c') p rfl (hΓ.goto c')
  exact ⟨e, s', runs_call_seg hr, he⟩
theorem sg_leaf {k h g l c₁ p₁ kp} (r : Result) (hk : Sg M A Φ c₁ (k r) fs s) : Sg M A Φ c (leafOf r) (.ret k h g l c₁ p₁ kp :: fs) s := by
  rintro Γ p rfl hΓ
  obtain ⟨e, s', hr, he⟩ := hk (Γ.goto c₁) p₁ rfl (hΓ.goto c₁)
  exact ⟨e, s', Runs.pop r hr, he⟩
theorem sg_again {c' : Code} (hq : c'.quiet = true) (hc : Sg M A Φ c' (M.den c') fs s) : Sg M A Φ c (.pure (.again c')) fs s := by
  rintro Γ p rfl hΓ
  obtain ⟨e, s', hr, he⟩ := hc (Γ.goto c') p rfl (hΓ.goto c')
  exact ⟨e, s', Runs.head (c₁ := c') (fun _ _ x => .again hq x) hr, he⟩
theorem sg_end (r : Result) (h : Φ (.ret r) s) : Sg M A Φ c (leafOf r) [] s := by
  rintro Γ p rfl _
  exact ⟨.ret r, s, Runs.leaf r, h⟩
theorem sg_yield {v g l} {k : Resume → Sem PySem.Fin} (hfs : NG fs) (h : ∀ p, Φ (.susp v g l k c p fs) s) : Sg M A Φ c (.yield v g l k) fs s := by
  rintro Γ p rfl _
  exact ⟨_, s, Runs.yield' fs (ng_split hfs), h p⟩
/-- a generator is woken: what its segment tells goes to what follows -/
theorem wpAny_resumeS {E : Value → Shared → Prop} {g : Nat} {r : Resume} {l : List Value} {α : Type} {k : GenResult → Sem α} {Q : α → Shared → Prop} {A : Around} {s : Shared}
    (hgo : ∃ gs, s.gens[g]? = some gs ∧ ((∃ c, gs = .fresh c ∧ r = .send .none ∧ Sg M A Φ c (M.den c) [] (s.setGen g .running)) ∨ ∃ k₀ l₀ c p fs cl, gs = .suspended k₀ l₀ c p fs cl ∧ Sg M A Φ c (k₀ r) fs (s.setGen g .running)))
    (hq : ∀ e s', Φ e s' → e.quiet = true) (hR : ∀ x s₁, Φ (.ret x) s₁ → wpAny M A (k (End.ret x).result) Q E (s₁.setGen g .finished))
    (hY : ∀ v g0 l0 k0 c0 p0 f0 s₁, Φ (.susp v g0 l0 k0 c0 p0 f0) s₁ → wpAny M A (k (.yielded v)) Q E (s₁.setGen g (End.susp v g0 l0 k0 c0 p0 f0).genState)) : wpAny M A (.resume g r l k) Q E s := by
  intro Γ p hΓ
  rw [Sem.wp_resume]
  have fin : ∀ e₁ s₁, Φ e₁ s₁ → wp M Γ (k e₁.result) (fun a _ s' => Q a s') (fun e _ s' => E e s') p (s₁.setGen g e₁.genState) := fun e₁ s₁ he => by
    cases e₁ with
    | ret x => exact hR x s₁ he Γ p hΓ
    | susp v g₀ l₀ k₀ c₀ p₀ fs₀ => exact hY v g₀ l₀ k₀ c₀ p₀ fs₀ s₁ he Γ p hΓ
  obtain ⟨gs, hg, ⟨c, rfl, rfl, hs⟩ | ⟨k₀, l₀, c, p₀, fs, cl, rfl, hs⟩⟩ := hgo
  · obtain ⟨e₁, s₁, hr, he⟩ := hs (Γ.wake c p) p rfl (hΓ.wake c p)
    exact ⟨_, _, by unfold Wakes; rw [hg]; exact ⟨e₁, s₁, hr, hq e₁ s₁ he, rfl, rfl⟩, fin e₁ s₁ he⟩
  · obtain ⟨e₁, s₁, hr, he⟩ := hs (Γ.wake c p) p₀ rfl (hΓ.wake c p)
    exact ⟨_, _, by unfold Wakes; rw [hg]; exact ⟨e₁, s₁, hr, hq e₁ s₁ he, rfl, rfl⟩, fin e₁ s₁ he⟩
end

/-! ### a heap cut down to its first L places, of which those of p are kept -/
def cutH (h : Heap) (n : Nat) (p : Addr → Bool) : Heap := ⟨Array.ofFn (n := n) fun i => if p i.1 then (h.objs[i.1]?).getD ⟨.none, none, .freed, #[]⟩ else ⟨.none, none, .freed, #[]⟩, h.life⟩
theorem cutH_size {h : Heap} {n : Nat} {p : Addr → Bool} : (cutH h n p).objs.size = n := by simp [cutH]
theorem cutH_get {h : Heap} {n : Nat} {p : Addr → Bool} {b : Addr} (hb : b < n) (hp : p b = true) : (cutH h n p).get? b = h.get? b := by
  unfold Heap.get? cutH
  dsimp only
  rw [Array.getElem?_ofFn, dif_pos hb]
  dsimp only
  rw [if_pos hp]
  cases e : h.objs[b]? with
  | none => rfl
  | some o => rfl
theorem of_cutH {h : Heap} {n : Nat} {p : Addr → Bool} {b : Addr} {o : Obj} (e : (cutH h n p).get? b = some o) : b < n ∧ p b = true ∧ h.get? b = some o := by
  have hb : b < n := by
    have := Heap.lt_size e
    rwa [cutH_size] at this
  cases hp : p b with
  | true => exact ⟨hb, rfl, by rw [← cutH_get hb hp]; exact e⟩
  | false =>
    exfalso
    unfold Heap.get? cutH at e
    dsimp only at e
    rw [Array.getElem?_ofFn, dif_pos hb] at e
    dsimp only at e
    rw [hp] at e
    cases e
end DL

/-! DL161: a generator's body: what it hands out, statement by statement. -/
namespace DL
open PySem L2 PyProof.Rows

mutual
/-- what is owned of it is lists -/
def okD : D → Bool
  | .lst true xs => okDs xs
  | .ins true _ _ => false
  | .dic true _ => false
  | .dct true _ => false
  | _ => true
def okDs : List D → Bool
  | [] => true
  | d :: ds => okD d && okDs ds
end
def okSl : Sl → Bool
  | [] => true
  | none :: st => okSl st
  | some d :: st => okD d && okSl st

/-- a generator's frame -/
structure GF where
  P : Program
  w : World
  K : PySem.W.Frag
  mg : Str → Option Value
  base : Heap
  N : List Str
  env : Env
  outer : List Env
  k : Nat
  a : Addr
  go : Obj
  g : Nat
  os : OsState
def GF.cx (F : GF) (A : Around) (s0 : Shared) : Cx := { prog := F.P, w := F.w, K := F.K, mg := F.mg, base := F.base, A := A.deeper F.env, N := F.N, s_0 := s0, H_0 := fun _ => none, env := F.env, outer := F.outer, stack := F.env :: F.outer, ex := [], fn := fun _ => true, calm := true, pn := [], xe := fun _ _ => False }
/-- what it knows -/
structure GZ where
  Hf : Hp
  H : Hp
  R : Nat → Rg
  σ : L2.St
  st : Sl
  W : Prv
/-- it holds its own object, it runs -/
structure GHold (F : GF) (W : Prv) : Prop where
  obj : W.obj F.a = some F.go
  run : W.run F.g ∧ ∀ i, W.run i → i = F.g
  os : W.os = some F.os
structure GInv (ca : Nat → Addr) (F : GF) (A : Around) (z : GZ) (P : Rg) (pp : Prop) (s : Shared) : Prop where
  cx : ∃ s0 : Shared, s0.heap.objs.size = F.env.locals ∧ Inv (F.cx A s0) [] z.σ z.H s ∧ Held (F.cx A s0) [] z.H z.W s
  room : RoomG F.k (A.deeper F.env)
  pr : PR ca F.K z.Hf z.H P pp z.R z.σ z.st
  hold : GHold F z.W
/-- from z on, no sleep between -/
structure GZ.tr (z : GZ) (P : Rg) (z1 : GZ) : Prop where
  t : Tr (jn Em z.R) z.Hf z.H (jn P z1.R) z1.Hf z1.H
  s0 : z1.W.s0 = z.W.s0
theorem GZ.tr.trans {z z1 z2 : GZ} {P : Rg} (a : z.tr Em z1) (b : z1.tr P z2) : z.tr P z2 := ⟨a.t.trans b.t, b.s0.trans a.s0⟩
theorem GZ.tr.refl {z : GZ} : z.tr Em z := ⟨Tr.refl fun _ q => q, rfl⟩
/-- the same things held -/
structure Prv.Same (W W1 : Prv) : Prop where
  obj : W.obj = W1.obj
  gen : W.gen = W1.gen
  run : W.run = W1.run
  os : W.os = W1.os
theorem Prv.Same.rfl {W : Prv} : Prv.Same W W := ⟨Eq.refl _, Eq.refl _, Eq.refl _, Eq.refl _⟩
theorem Prv.Same.trans {W W1 W2 : Prv} (a : Prv.Same W W1) (b : Prv.Same W1 W2) : Prv.Same W W2 := ⟨a.obj.trans b.obj, a.gen.trans b.gen, a.run.trans b.run, a.os.trans b.os⟩
/-- what the segment's end is to do: the data are handed out one by one, then it ends -/
def GAcc (ca : Nat → Addr) (F : GF) : List D → Around → GZ → (End → Shared → Prop) → Prop
  | [], A, z, Φ => ∀ (s1 : Shared) (z1 : GZ), GInv ca F A z1 Em True s1 → z.tr Em z1 → Φ (.ret (.ok (.ret .none))) s1
  | d :: ds, A, z, Φ => ∀ (s1 : Shared) (z1 : GZ) (P1 : Rg) (v : V) (u : Value) (k' : Resume → Sem PySem.Fin) (c' : Code) (p' : Pos) (fs' : List Frame), GInv ca F A z1 P1 (Rep ca F.K z1.Hf z1.H P1 v d) s1 → z.tr P1 z1 → RelV v u → NG fs' → fs'.any Frame.guarded = false → okSl z1.st = true →
      (∀ (A2 : Around) (s2 : Shared) (z2 : GZ), z2.st = z1.st → Prv.Same z2.W z1.W → GInv ca F A2 z2 Em True s2 → Ex z1.Hf z2.Hf → ∀ Φ', GAcc ca F ds A2 z2 Φ' → Sg (model F.P F.w) A2 Φ' c' (k' (.send .none)) fs' s2) →
      Φ (.susp u false [] k' c' p' fs') s1
def GRun (ca : Nat → Addr) (F : GF) (ds : List D) (A : Around) (z : GZ) (c : Code) (t : Sem PySem.Fin) (fs : List Frame) (s : Shared) : Prop := ∀ Φ, GAcc ca F ds A z Φ → Sg (model F.P F.w) A Φ c t fs s
/-- a generator statement's meaning: what it hands out, how it ends -/
abbrev GM := Sl → List D × SR
def flowOf : SR → Option (Flow × Sl)
  | .next st => some (.next, st)
  | .brk st => some (.brk, st)
  | .cont st => some (.cont, st)
  | _ => none
/-- where the code stands -/
structure GCd (F : GF) (c : Code) (fs : List Frame) (gd : Bool → Bool) : Prop where
  over : ∀ A : Around, A.over c fs = A.deeper F.env
  ng : NG fs
  guard : fs.any Frame.guarded = false
  gd : gd false = false
/-- what follows a statement of which ds was handed out -/
def GNext (ca : Nat → Addr) (F : GF) (A : Around) (z : GZ) (ds dsK : List D) (f : Flow) (st' : Sl) (c : Code) (K : Flow → Sem PySem.Fin) (fs : List Frame) : Prop :=
  ∀ (A' : Around) (s' : Shared) (z' : GZ), z'.st = st' → Prv.Same z'.W z.W → GInv ca F A' z' Em True s' → Ex z.Hf z'.Hf → (ds = [] → A' = A ∧ z.tr Em z') → GRun ca F dsK A' z' c (K f) fs s'
/-- b: no sleeper is held -/
def GB (ca : Nat → Addr) (F : GF) (b : Bool) (st : Stmt) (m : GM) : Prop := ∀ (A : Around) (s : Shared) (z : GZ) (c : Code) (fs : List Frame) (K : Flow → Sem PySem.Fin) (J : Value → Sem PySem.Fin) (gd : Bool → Bool) (lv : List Value → List Value) (dsK : List D), GCd F c fs gd → lv [] = [] → GInv ca F A z Em True s → (b = true → z.W.gen = fun _ => none) →
  ∀ ds out f st', m z.st = (ds, out) → flowOf out = some (f, st') → GNext ca F A z ds dsK f st' c K fs → GRun ca F (ds ++ dsK) A z c ((exec st F.env).wrap K J gd lv) fs s
def GBs (ca : Nat → Addr) (F : GF) (b : Bool) (body : List Stmt) (m : GM) : Prop := ∀ (A : Around) (s : Shared) (z : GZ) (c : Code) (fs : List Frame) (K : Flow → Sem PySem.Fin) (J : Value → Sem PySem.Fin) (gd : Bool → Bool) (lv : List Value → List Value) (dsK : List D), GCd F c fs gd → lv [] = [] → GInv ca F A z Em True s → (b = true → z.W.gen = fun _ => none) →
  ∀ ds out f st', m z.st = (ds, out) → flowOf out = some (f, st') → GNext ca F A z ds dsK f st' c K fs → GRun ca F (ds ++ dsK) A z c ((execs body F.env).wrap K J gd lv) fs s

section
variable {ca : Nat → Addr} {F : GF} {A : Around} {z z' : GZ} {s s' : Shared} {c : Code} {fs : List Frame} {K : Flow → Sem PySem.Fin} {J : Value → Sem PySem.Fin} {gd : Bool → Bool} {lv : List Value → List Value} {dsK ds : List D}
theorem GAcc.from {Φ : End → Shared → Prop} (a : GAcc ca F ds A z Φ) (t : z.tr Em z') : GAcc ca F ds A z' Φ := by
  cases ds with
  | nil => exact fun s1 z1 I t1 => a s1 z1 I (t.trans t1)
  | cons d ds => exact fun s1 z1 P1 v u k' c' p' fs' I t1 => a s1 z1 P1 v u k' c' p' fs' I (t.trans t1)
/-- a plain piece of code -/
theorem grun_wp {α : Type} {m : Sem α} {K : α → Sem PySem.Fin} (hov : ∀ A : Around, A.over c fs = A.deeper F.env)
    (h : wpAny (model F.P F.w) (A.deeper F.env) m (fun a s' => ∃ z', z.tr Em z' ∧ GRun ca F dsK A z' c (K a) fs s') (fun _ _ => False) s) : GRun ca F dsK A z c (m.wrap K J gd lv) fs s := fun Φ acc =>
  sg_wrap (by rw [hov]; exact wpAny_mono h (fun a s' ⟨z', t, g⟩ => g Φ (acc.from t)) fun _ _ q => q.elim)
theorem simOk_gf {s0 : Shared} : SimOk (F.cx A s0) := fun _ _ _ _ h => h.elim
theorem GInv.drop {P : Rg} {pp : Prop} (g : GInv ca F A z P pp s) : GInv ca F A z Em True s := ⟨g.cx, g.room, g.pr.drop, g.hold⟩

/-- two pieces of code in a row, the sleepers dead -/
theorem run_frame2 {X : Cx} {α β : Type} {t : Sem α} {B : α → Prop} {t2 : α → Sem β} {Q : α → β → Shared → Prop} {I : Nat → Prop} (hx : SimOk X) (hQ : ∀ a b (s : Shared) ga, GSim ga s.gens → Q a b { s with gens := ga } → Q a b s)
    (hI : ∀ (i : Nat) (x : GenState), I i → s.gens[i]? = some x → NGS x)
    (h : wpAny (model X.prog X.w) X.A t (fun a s1 => B a ∧ wpAny (model X.prog X.w) X.A (t2 a) (Q a) X.xe s1) X.xe { s with gens := kill I s.gens }) :
    wpAny (model X.prog X.w) X.A t (fun a s1 => B a ∧ wpAny (model X.prog X.w) X.A (t2 a) (fun b s2 => Kept I s s2 ∧ Q a b s2) X.xe s1) X.xe s := by
  intro Γ p hΓ
  refine Sem.wp_mono _ _ _ (fun a p' s1 ⟨ga, g1, k1, b1, q1⟩ => ⟨b1, ?_⟩) (fun e p' s1 ⟨ga, g1, k1, q1⟩ => hx e s1 ga g1 q1) _ _ (wp_sim _ Γ t _ _ p { s with gens := kill I s.gens } s.gens (kill_sim hI) (h Γ p hΓ))
  intro Γ2 p2 hΓ2
  exact Sem.wp_mono _ _ _ (fun b p'' s2 ⟨gb, g2, k2, q2⟩ => ⟨kept_of (k1.trans k2), hQ a b s2 gb g2 q2⟩) (fun e p'' s2 ⟨gb, g2, k2, q2⟩ => hx e s2 gb g2 q2) _ _ (wp_sim _ Γ2 (t2 a) _ _ p2 { s1 with gens := ga } s1.gens g1 (q1 Γ2 p2 hΓ2))

/-! ### statements that hand out nothing -/
theorem cs_heldQ {X : Cx} {pins : List (Addr × Obj)} {σ : L2.St} {H Hf : Hp} {R : Nat → Rg} {st : Sl} {L : List Nat} {G : Prv} {b : Stmt} {m : MS} (hx : SimOk X) (hb : CS ca X L b m) (I : Inv X pins σ H s) (p : PR ca X.K Hf H Em True R σ st) (hd : Held X pins H G s) {f : Flow} {st1 : Sl} (em : flowOf (m st) = some (f, st1)) :
    wpAny (model X.prog X.w) X.A (exec b X.env) (fun f' s' => f' = f ∧ ∃ Hf' R' σ' H', Inv X pins σ' H' s' ∧ Held X pins H' G s' ∧ Tr (jn Em R) Hf H (jn Em R') Hf' H' ∧ PR ca X.K Hf' H' Em True R' σ' st1) X.xe s := by
  have hn : ∀ b o, G.obj b = some o → H b = Option.none := fun b o e => (hd.obj b o e).2.1
  have hS : ∀ b o, G.obj b = some o → ¬ jn Em R b := fun b o e q => by
    obtain ⟨u, z⟩ := p.w.dm b q
    rw [hn b o e] at z; cases z
  let Z : L2.St → Hp → Prop := fun σ' H' => (∀ b o, G.obj b = some o → H' b = some (PO b o)) ∧ ∃ Hf' R', Tr (jn Em R) Hf H (jn Em R') Hf' (minus H' G) ∧ PR ca X.K Hf' (minus H' G) Em True R' σ' st1
  have key : ∀ Hf1 H1 R1 σ1, Tr (jn Em R) Hf (plus H G) (jn Em R1) Hf1 H1 → PR ca X.K Hf1 H1 Em True R1 σ1 st1 → Z σ1 H1 := fun Hf1 H1 R1 σ1 t q => by
    obtain ⟨t', a, b⟩ := t.minus hn hS
    exact ⟨a, Hf1, R1, t', q.minus b (held_nf hn p.w.ex hS t)⟩
  have hw : Ws X b { nx := fun σ' H' => f = .next ∧ Z σ' H', bk := fun σ' H' => f = .brk ∧ Z σ' H', ct := fun σ' H' => f = .cont ∧ Z σ' H', rt := fun _ _ => False } σ (plus H G) := hb Hf (plus H G) R σ st _ (p.plus hn) (by
    cases e : m st with
    | fail => rw [e] at em; cases em
    | exc x st1 => rw [e] at em; cases em
    | ret d st1 => rw [e] at em; cases em
    | next st1 => rw [e] at em; cases em; exact fun Hf1 H1 R1 σ1 t q _ => ⟨rfl, key Hf1 H1 R1 σ1 t q⟩
    | brk st1 => rw [e] at em; cases em; exact fun Hf1 H1 R1 σ1 t q _ => ⟨rfl, key Hf1 H1 R1 σ1 t q⟩
    | cont st1 => rw [e] at em; cases em; exact fun Hf1 H1 R1 σ1 t q _ => ⟨rfl, key Hf1 H1 R1 σ1 t q⟩)
  refine wpAny_mono (run_frame hx (fun f s ga g q => sp_sim f s ga g q) (Inv.plus I hd) fun s' I' => Ws.run hw pins s' I') (fun f' s' ⟨k, q⟩ => ?_) fun _ _ z => z
  cases f' with
  | next => obtain ⟨σ', H', I', rfl, a, Hf', R', t, q⟩ := q; exact ⟨rfl, Hf', R', σ', _, I'.minus hd.still a, hd.back I' a k, t, q⟩
  | brk => obtain ⟨σ', H', I', rfl, a, Hf', R', t, q⟩ := q; exact ⟨rfl, Hf', R', σ', _, I'.minus hd.still a, hd.back I' a k, t, q⟩
  | cont => obtain ⟨σ', H', I', rfl, a, Hf', R', t, q⟩ := q; exact ⟨rfl, Hf', R', σ', _, I'.minus hd.still a, hd.back I' a k, t, q⟩
  | ret u => obtain ⟨v, σ', H', I', r, q⟩ := q; exact q.elim
def mP (m : MS) : GM := fun st => ([], m st)
theorem gb_plain {bb : Bool} {b : Stmt} {m : MS} (hb : ∀ A s0, RoomG F.k (A.deeper F.env) → CS ca (F.cx A s0) [] b m) : GB ca F bb b (mP m) := fun A s z c fs K J gd lv dsK g hlv I hW ds out f st' em ef hk => by
  obtain ⟨e1, e2⟩ := Prod.mk.inj em
  subst e1
  subst e2
  obtain ⟨⟨s0, hs0, I0, hd0⟩, hr, hp, hh⟩ := I
  refine grun_wp g.over (thn (cs_heldQ simOk_gf (hb A s0 hr) I0 hp hd0 ef) fun f' s' ⟨e', Hf', R', σ', H', I', hd', t', p'⟩ => ?_)
  subst e'
  exact ⟨⟨Hf', H', R', σ', st', z.W⟩, ⟨t', rfl⟩, hk A s' _ rfl Prv.Same.rfl ⟨⟨s0, hs0, I', hd'⟩, hr, p', hh⟩ t'.fx fun _ => ⟨rfl, t', rfl⟩⟩

/-! ### lists of statements -/
def mNil : GM := fun st => ([], .next st)
def mSeq (a b : GM) : GM := fun st => match a st with
  | (ds, .next st1) => (ds ++ (b st1).1, (b st1).2)
  | r => r
theorem gbs_nil {bb : Bool} : GBs ca F bb [] mNil := fun A s z c fs K J gd lv dsK g hlv I hW ds out f st' em ef hk => by
  obtain ⟨e1, e2⟩ := Prod.mk.inj em
  subst e1
  subst e2
  cases ef
  have q := hk A s z rfl Prv.Same.rfl I (fun _ _ e => e) fun _ => ⟨rfl, GZ.tr.refl⟩
  exact q
theorem gbs_cons {bb : Bool} {st : Stmt} {rest : List Stmt} {a b : GM} (ha : GB ca F bb st a) (hb : GBs ca F bb rest b) : GBs ca F bb (st :: rest) (mSeq a b) := fun A s z c fs K J gd lv dsK g hlv I hW ds out f st' em ef hk => by
  rw [execs_cons_wrap]
  unfold mSeq at em
  cases e1 : a z.st with
  | mk ds1 out1 =>
    rw [e1] at em
    cases out1 with
    | next st1 =>
      obtain ⟨q1, q2⟩ := Prod.mk.inj em
      subst q1
      rw [List.append_assoc]
      refine ha A s z c fs _ J gd lv _ g hlv I hW ds1 _ .next st1 e1 rfl fun A' s' z' h1 h2 I' hx hn => ?_
      refine hb A' s' z' c fs K J gd lv dsK g hlv I' (fun e => h2.gen.trans (hW e)) (b st1).1 out f st' (by rw [h1, ← q2]) ef fun A2 s2 z2 k1 k2 I2 hx2 hn2 => ?_
      refine hk A2 s2 z2 k1 (k2.trans h2) I2 (fun b o e => hx2 b o (hx b o e)) fun en => ?_
      obtain ⟨n1, n2⟩ := List.append_eq_nil_iff.mp en
      obtain ⟨m1, m2⟩ := hn n1
      obtain ⟨m3, m4⟩ := hn2 n2
      exact ⟨m3.trans m1, m2.trans m4⟩
    | brk st1 =>
      obtain ⟨q1, q2⟩ := Prod.mk.inj em
      subst q1
      subst q2
      cases ef
      exact ha A s z c fs _ J gd lv _ g hlv I hW ds1 _ .brk _ e1 rfl hk
    | cont st1 =>
      obtain ⟨q1, q2⟩ := Prod.mk.inj em
      subst q1
      subst q2
      cases ef
      exact ha A s z c fs _ J gd lv _ g hlv I hW ds1 _ .cont _ e1 rfl hk
    | ret d st1 => obtain ⟨q1, q2⟩ := Prod.mk.inj em; subst q2; cases ef
    | exc x st1 => obtain ⟨q1, q2⟩ := Prod.mk.inj em; subst q2; cases ef
    | fail => obtain ⟨q1, q2⟩ := Prod.mk.inj em; subst q2; cases ef
theorem gbs_one {bb : Bool} {st : Stmt} {a : GM} (ha : GB ca F bb st a) : GBs ca F bb [st] (mSeq a mNil) := gbs_cons ha gbs_nil

/-! ### yield -/
def mYield (m : ME) : GM := fun st => match m st with
  | .ok d st1 => if okSl st1 then ([d], .next st1) else ([], .fail)
  | _ => ([], .fail)
theorem gb_yield {bb : Bool} {e : Expr} {m : ME} {yp pos : Pos} (he : ∀ A s0, RoomG F.k (A.deeper F.env) → CE ca (F.cx A s0) e m) (hco : F.env.scope.isCoroutine = false := by rfl) (hi : interactive F.env = false := by rfl) : GB ca F bb (.Expr (.Yield (some e) yp) pos) (mYield m) := fun A s z c fs K J gd lv dsK g hlv I hW ds out f st' em ef hk => by
  unfold mYield at em
  cases e1 : m z.st with
  | fail => rw [e1] at em; obtain ⟨_, q2⟩ := Prod.mk.inj em; subst q2; cases ef
  | exc x st1 => rw [e1] at em; obtain ⟨_, q2⟩ := Prod.mk.inj em; subst q2; cases ef
  | ok d st1 =>
  rw [e1] at em
  dsimp only at em
  by_cases hok : okSl st1 = true
  case neg => rw [if_neg hok] at em; obtain ⟨_, q2⟩ := Prod.mk.inj em; subst q2; cases ef
  rw [if_pos hok] at em
  obtain ⟨q1, q2⟩ := Prod.mk.inj em
  subst q1
  subst q2
  cases ef
  obtain ⟨⟨s0, hs0, I0, hd0⟩, hr, hp, hh⟩ := I
  intro Φ acc
  rw [exec_Expr F.env _ pos hi rfl]
  show Sg (model F.P F.w) A Φ c (.at pos fun _ => ((eval e F.env >>= fun v => (standAt yp >>= fun _ => yieldOut F.env v)) >>= fun x => dropValue (.Yield (some e) yp) pos x).wrap K J gd lv) fs s
  have hy : ∀ v, yieldOut F.env v = yieldValue v := fun v => by simp only [yieldOut, hco, Bool.false_eq_true, if_false]
  simp only [hy]
  refine sg_at ?_
  rw [Sem.bind_eq_wrap', Sem.bind_eq_wrap', Sem.wrap_wrap, Sem.wrap_wrap]
  refine sg_wrap ?_
  rw [g.over]
  refine wpAny_mono (ce_held (Q := fun v H1 => ∃ Hf1 P1 R1, Tr (jn Em z.R) z.Hf z.H (jn P1 R1) Hf1 H1 ∧ PR ca F.K Hf1 H1 P1 (Rep ca F.K Hf1 H1 P1 v d) R1 z.σ st') simOk_gf (he A s0 hr) I0 hp hd0 e1 fun Hf1 H1 P1 R1 v t p => ⟨Hf1, P1, R1, t, p⟩) (fun u s1 ⟨v, H1, I1, hd1, rv, Hf1, P1, R1, t1, p1⟩ => ?_) fun _ _ q => q.elim
  refine sg_at (sg_yield g.ng fun p' => ?_)
  show Φ (.susp u (gd false) (lv []) _ c p' fs) s1
  rw [g.gd, hlv]
  refine acc s1 ⟨Hf1, H1, R1, z.σ, st', z.W⟩ P1 v u _ c p' fs ⟨⟨s0, hs0, I1, hd1⟩, hr, p1, hh⟩ ⟨t1, rfl⟩ rv g.ng g.guard hok fun A2 s2 z2 h3 h4 I2 hx Φ' acc' => ?_
  exact hk A2 s2 z2 h3 h4 I2 (fun b o e => hx b o (t1.fx b o e)) (fun en => by cases en) Φ' acc'
end
end DL

/-! DL162: if and for in a generator's body. -/
namespace DL
open PySem L2 PyProof.Rows

section
variable {ca : Nat → Addr} {F : GF} {A : Around} {z z' : GZ} {s s' : Shared} {c : Code} {fs : List Frame} {J : Value → Sem PySem.Fin} {gd : Bool → Bool} {lv : List Value → List Value} {dsK ds : List D}

/-! ### if -/
/-! ### for -/
/-- what a loop's call does with what comes back -/
abbrev kBack (env : Env) (K : Flow → Sem PySem.Fin) (J : Value → Sem PySem.Fin) (gd : Bool → Bool) (lv : List Value → List Value) : Result → Sem PySem.Fin := fun r =>
  ((match r with | .ok f => (.pure f : Sem Flow) | .error e => .raise e).onRaise (cameBack env)).wrap K J gd lv
theorem sg_For {Φ : End → Shared → Prop} {tg iter : Expr} {body : List Stmt} {pos : Pos} {env : Env} {M : Model} {K : Flow → Sem PySem.Fin} (hs : ∀ x, foldedSetIterable iter env x = pure x)
    (h : wpAny M (A.over c fs) (eval iter env) (fun x s1 => wpAny M (A.over c fs) (pyIter x) (fun it s2 => ∀ p, Sg M A Φ (.forLoop tg it body [] env) (M.den (.forLoop tg it body [] env)) (.ret (kBack env K J gd lv) none (gd false) (lv []) c p [] :: fs) s2) (fun _ _ => False) s1) (fun _ _ => False) s) :
    Sg M A Φ c ((exec (.For tg iter body [] pos) env).wrap K J gd lv) fs s := by
  rw [exec_For]
  refine sg_bindw (wpAny_standAt ?_)
  refine sg_bindw (wpAny_mono h (fun x s1 h1 => ?_) fun _ _ q => q.elim)
  refine sg_bindw (wpAny_of_eq (hs x) ?_)
  refine sg_bindw (wpAny_standAt ?_)
  refine sg_bindw (wpAny_holding (wpAny_mono h1 (fun it s2 h2 => ?_) fun _ _ q => q.elim))
  exact sg_call h2
theorem sg_forTurn {P : Program} {w : World} {Φ : End → Shared → Prop} {tg : Expr} {it : Value} {body : List Stmt} {env : Env} {fs : List Frame}
    (h : wpAny (model P w) (A.over (.forLoop tg it body [] env) fs) (pyNext it) (fun r s1 => match r with
      | none => Sg (model P w) A Φ (.forLoop tg it body [] env) (.pure (.again (.block [] env))) fs s1
      | some v => wpAny (model P w) (A.over (.forLoop tg it body [] env) fs) (letOwnedTupleGo tg it v) (fun _ s2 => wpAny (model P w) (A.over (.forLoop tg it body [] env) fs) (assign tg env v) (fun _ s3 =>
          Sg (model P w) A Φ (.forLoop tg it body [] env) ((execs body env).wrap (fun f => match f with
            | .next | .cont => .pure (.again (.forLoop tg it body [] env))
            | .brk => .pure (.done .next)
            | .ret v => .pure (.done (.ret v))) (fun e => (do noteFrame e env; theTreesLotGoes e : Sem Unit).wrap (fun _ => .raise e) .raise id id) id id) fs s3) (fun _ _ => False) s2) (fun _ _ => False) s1) (fun _ _ => False) s) :
    Sg (model P w) A Φ (.forLoop tg it body [] env) ((model P w).den (.forLoop tg it body [] env)) fs s := by
  show Sg _ A Φ _ ((forTurn tg it body [] env).onRaise (fun x => do noteFrame x env; theTreesLotGoes x)) fs s
  rw [Sem.onRaise_eq_wrap]
  unfold forTurn
  refine sg_bindw (wpAny_standAt ?_)
  refine sg_bindw (wpAny_onRaise (wpAny_mono h (fun r s1 h1 => ?_) fun _ _ q => q.elim))
  cases r with
  | none => exact h1
  | some v =>
    refine sg_bindw (wpAny_mono h1 (fun _ s2 h2 => ?_) fun _ _ q => q.elim)
    refine sg_bindw (wpAny_mono h2 (fun _ s3 h3 => ?_) fun _ _ q => q.elim)
    show Sg _ A Φ _ (Sem.wrap _ _ _ _ (execs body env >>= _)) fs s3
    rw [Sem.bind_eq_wrap', Sem.wrap_wrap]
    rw [Sem.wrap_congr (execs body env) _ _ (K' := fun f => match f with
            | .next | .cont => .pure (.again (.forLoop tg it body [] env))
            | .brk => .pure (.done .next)
            | .ret v => .pure (.done (.ret v))) (H' := (fun e => (do noteFrame e env; theTreesLotGoes e : Sem Unit).wrap (fun _ => .raise e) .raise id id))
        (fun f => by cases f <;> rfl)
        (fun e => by first | exact Sem.bind_eq_wrap _ _ | (show (do noteFrame e env; theTreesLotGoes e : Sem Unit).bind (fun _ => .raise e) = _; rw [Sem.bind_eq_wrap]))]
    exact h3
theorem sg_block {P : Program} {w : World} {Φ : End → Shared → Prop} {env : Env} {c1 : Code} {K : Result → Sem PySem.Fin} {g : Bool} {l kp : List Value} {p : Pos} {h : Option Value} (hk : Sg (model P w) A Φ c (K (.ok .next)) fs s) :
    Sg (model P w) A Φ c1 (.pure (.again (.block [] env))) (.ret K h g l c p kp :: fs) s := by
  refine sg_again rfl ?_
  show Sg _ A Φ _ ((execs [] env).onRaise (fun x => do noteFrame x env; theTreesLotGoes x) >>= fun f => pure (Fin.done f)) _ s
  exact sg_leaf (.ok .next) hk
def forGM (g : MG) (body : GM) : List D → GM
  | [] => fun st => ([], .next st)
  | d :: ds => fun st => match g d st with
    | .ok _ st1 => (match body st1 with
      | (ys, .next st2) => (ys ++ (forGM g body ds st2).1, (forGM g body ds st2).2)
      | (ys, .cont st2) => (ys ++ (forGM g body ds st2).1, (forGM g body ds st2).2)
      | (ys, .brk st2) => (ys, .next st2)
      | (ys, _) => (ys, .fail))
    | _ => ([], .fail)
def mFor (src : GSrc) (g : MG) (body : GM) : GM := fun st => match src st with
  | .ok ds st1 => forGM g body ds st1
  | _ => ([], .fail)
/-- an iterator's own object, seen from the generator's frame -/
def FpG (F : GF) (H : Hp) (b : Addr) : Prop := H b = none ∧ b ≠ F.env.locals ∧ b ∉ frs F.outer ∧ F.env.locals ≤ b ∧ ∀ x c, F.env.cells.lookup x = some c → c ≠ b
theorem FpG.ok {H : Hp} {b : Addr} {s0 : Shared} (h : FpG F H b) (hs : s0.heap.objs.size = F.env.locals) : FpOk (F.cx A s0) [] H b := ⟨h.1, h.2.1, h.2.2.1, .inr (by show s0.heap.objs.size ≤ b; rw [hs]; exact h.2.2.2.1), h.2.2.2.2, fun p hp => absurd (show p ∈ ([] : List (Addr × Obj)) ++ [] from hp) (by simp)⟩
theorem FpG.of {H : Hp} {b : Addr} {s0 : Shared} (h : FpOk (F.cx A s0) [] H b) (hs : s0.heap.objs.size = F.env.locals) : FpG F H b := ⟨h.1, h.2.1, h.2.2.1, h.2.2.2.1.elim (fun z => absurd (show b ∈ ([] : List Addr) from z) (by simp)) fun z => by rw [← hs]; exact z, h.2.2.2.2.1⟩
/-- the private things and, beside them, the objects at fp as they stand -/
def Prv.more (W : Prv) (fp : List Addr) (h : Heap) : Prv := ⟨fun b => if b ∈ fp then h.get? b else W.obj b, W.gen, W.run, W.os, W.s0⟩
theorem gcd_loop {c' : Code} {k : Result → Sem PySem.Fin} {l kp : List Value} {p : Pos} (g : GCd F c fs gd) (hw : c'.weight = 0) (hu : c'.cUnits = 0) : GCd F c' (.ret k none (gd false) l c p kp :: fs) id where
  over := fun A => (GenW.over_loop hw hu).trans (g.over A)
  ng := fun f hf => (List.mem_cons.mp hf).elim (fun e => by rw [e]; exact ⟨_, _, _, _, _, _, _, rfl⟩) (g.ng f)
  guard := by
    show (gd false || fs.any Frame.guarded) = false
    rw [g.gd, g.guard]
    rfl
  gd := rfl
/-- the loop's own things -/
structure Lp (F : GF) (W : Prv) (fp : List Addr) (H : Hp) : Prop where
  its : ∀ b ∈ fp, FpG F H b
  out : ∀ b ∈ fp, W.obj b = none
theorem held_more {s0 : Shared} {H : Hp} {W : Prv} {fp : List Addr} (hs : s0.heap.objs.size = F.env.locals) (hd : Held (F.cx A s0) [] H W s) (l : Lp F W fp H) : Held (F.cx A s0) [] H (W.more fp s.heap) s :=
  ⟨fun b o e => by
    have e : (if b ∈ fp then s.heap.get? b else W.obj b) = some o := e
    by_cases hb : b ∈ fp
    · rw [if_pos hb] at e; exact ⟨e, (l.its b hb).ok hs⟩
    · rw [if_neg hb] at e; exact hd.obj b o e, hd.gen, hd.run, hd.os, hd.s0⟩
theorem held_less {s0 : Shared} {H : Hp} {W : Prv} {fp : List Addr} {h : Heap} (hd : Held (F.cx A s0) [] H (W.more fp h) s) (hout : ∀ b ∈ fp, W.obj b = none) : Held (F.cx A s0) [] H W s :=
  ⟨fun b o e => hd.obj b o (by
    show (if b ∈ fp then h.get? b else W.obj b) = some o
    rw [if_neg fun hb => by rw [hout b hb] at e; cases e]
    exact e), hd.gen, hd.run, hd.os, hd.s0⟩
/-- an iterable's iterator -/
theorem pi_heldQ {X : Cx} {pins : List (Addr × Obj)} {σ : L2.St} {H Hf : Hp} {R : Nat → Rg} {st : Sl} {G : Prv} {tg iter : Expr} {wi : TI} {src : GSrc} (hx : SimOk X) (hi : CI ca X tg iter wi src) (I : Inv X pins σ H s) (p : PR ca X.K Hf H Em True R σ st) (hd : Held X pins H G s) {ds : List D} {st1 : Sl} (em : src st = .ok ds st1) :
    wpAny (model X.prog X.w) X.A (eval iter X.env) (fun v s1 => wpAny (model X.prog X.w) X.A (pyIter v) (fun itv s2 => ∃ (it : Addr) (fp : List Addr) (tn : Nat → Heap → Prop) (Jt : L2.It) (Hf' H' : Hp) (R' : Nat → Rg), itv = .ref it ∧ Inv X pins σ H' s2 ∧ Held X pins H' G s2 ∧ Turn X.prog X.w X.K tg Jt fp it tn ∧ tn 0 s2.heap ∧
      (∀ b ∈ fp, FpOk X pins H' b ∧ G.obj b = none) ∧ Tr (jn Em R) Hf H (jn Em R') Hf' H' ∧ PR ca X.K Hf' H' Em True R' σ st1 ∧ ItD ca X.K Jt Hf' ds) X.xe s1) X.xe s := by
  have hn : ∀ b o, G.obj b = some o → H b = Option.none := fun b o e => (hd.obj b o e).2.1
  have hS : ∀ b o, G.obj b = some o → ¬ jn Em R b := fun b o e q => by
    obtain ⟨z', z⟩ := p.w.dm b q
    rw [hn b o e] at z; cases z
  have hw := hi.2 Hf (plus H G) R σ st (fun Jt H1 => ∃ Hf1 R1, Tr (jn Em R) Hf (plus H G) (jn Em R1) Hf1 H1 ∧ PR ca X.K Hf1 H1 Em True R1 σ st1 ∧ ItD ca X.K Jt Hf1 ds) (p.plus hn) (by
    rw [em]
    exact fun Hf1 H1 R1 Jt t q it => ⟨Hf1, R1, t, q, it⟩)
  have hrun := hi.1.run pins { s with gens := kill (fun _ => False) s.gens } σ (plus H G) _ ((I.plus hd).kill (J := fun _ => False)) hw
  refine wpAny_mono (run_frame2 (B := fun _ => True) (Q := fun _ itv s2 => PIE X pins σ tg (fun Jt H1 => ∃ Hf1 R1, Tr (jn Em R) Hf (plus H G) (jn Em R1) Hf1 H1 ∧ PR ca X.K Hf1 H1 Em True R1 σ st1 ∧ ItD ca X.K Jt Hf1 ds) itv s2) hx (fun a b s2 ga gg ⟨it, fp, tn, Jt, H', q1, q2, q3⟩ => ⟨it, fp, tn, Jt, H', q1, q2.sim gg, q3⟩) (fun _ _ z => z.elim) (thn hrun fun v s1 h => ⟨trivial, h⟩)) (fun v s1 ⟨_, h⟩ => thn h fun itv s2 ⟨kp, it, fp, tn, Jt, H', q1, I2, T, t0, f2, Hf1, R1, t, q, itd⟩ => ?_) fun _ _ z => z
  obtain ⟨t', a, b⟩ := t.minus hn hS
  have out : ∀ b ∈ fp, G.obj b = Option.none := fun b hb => by
    cases e : G.obj b with
    | none => rfl
    | some o =>
      have := (f2 b hb).1
      rw [a b o e] at this
      cases this
  exact ⟨it, fp, tn, Jt, Hf1, minus H' G, R1, q1, I2.minus hd.still a, hd.back I2 a kp, T, t0, fun b hb => ⟨⟨by rw [minus_out (out b hb)]; exact (f2 b hb).1, (f2 b hb).2⟩, out b hb⟩, t', q.minus b (held_nf hn p.w.ex hS t), itd⟩
/-- an item comes -/
theorem item_heldQ {X : Cx} {pins : List (Addr × Obj)} {σ : L2.St} {H Hf : Hp} {R : Nat → Rg} {st : Sl} {G : Prv} {tg : Expr} {Jt : L2.It} {fp : List Addr} {it : Addr} {tn : Nat → Heap → Prop} {all : List D} {i : Nat} {d : D} (hx : SimOk X) (hc : X.calm = true) (T : Turn X.prog X.w X.K tg Jt fp it tn) (itd : ItD ca X.K Jt Hf all)
    (I : Inv X pins σ H s) (p : PR ca X.K Hf H Em True R σ st) (hd : Held X pins H G s) (hf : ∀ b ∈ fp, FpOk X pins H b ∧ G.obj b = none) (ht : tn i s.heap) (ed : all[i]? = some d) (hxe : X.xe = fun _ _ => False) :
    wpAny (model X.prog X.w) X.A (pyNext (.ref it)) (fun r s1 => ∃ u, r = some u ∧ wpAny (model X.prog X.w) X.A (letOwnedTupleGo tg (.ref it) u) (fun _ s2 => ∃ v Hf' H', Inv X pins σ H' s2 ∧ Held X pins H' G s2 ∧ RelV v u ∧ tn (i + 1) s2.heap ∧ (∀ b ∈ fp, FpOk X pins H' b) ∧
      Tr (jn Em R) Hf H (jn Em R) Hf' H' ∧ PR ca X.K Hf' H' Em (Rep ca X.K Hf' H' Em v d) R σ st) (fun _ _ => False) s1) (fun _ _ => False) s := by
  have hn : ∀ b o, G.obj b = some o → H b = Option.none := fun b o e => (hd.obj b o e).2.1
  have hS : ∀ b o, G.obj b = some o → ¬ jn Em R b := fun b o e q => by
    obtain ⟨z', z⟩ := p.w.dm b q
    rw [hn b o e] at z; cases z
  have p1 := p.plus hn
  obtain ⟨g1, g2, g3⟩ := itd Hf (plus H G) (fun _ _ e => e) p1.w.ex p1.w.tp
  have hi : i < all.length := by
    obtain ⟨h, _⟩ := List.getElem?_eq_some_iff.mp ed
    exact h
  have hit := T.item X rfl rfl rfl hc i pins { s with gens := kill (fun _ => False) s.gens } σ (plus H G) (fun _ _ => False) ((I.plus hd).kill (J := fun _ => False)) (fun b hb => ⟨by rw [plus_out (hf b hb).2]; exact (hf b hb).1.1, (hf b hb).1.2⟩) ht (g1 i hi)
  have fr := run_frame2 (X := X) (s := s) (I := fun _ => False) (B := fun r => ∃ u, r = some u) (t := pyNext (.ref it)) (t2 := fun r => match r with | some u => letOwnedTupleGo tg (.ref it) u | none => .unsupported "")
    (Q := fun r _ s2 => ∃ x H', Inv X pins σ H' s2 ∧ (∀ u, r = some u → RelV x u) ∧ Jt.yld i (plus H G) x H' ∧ tn (i + 1) s2.heap ∧ ∀ b ∈ fp, H' b = none) hx (fun a b s2 ga gg ⟨x, H', q1, q2⟩ => ⟨x, H', q1.sim gg, q2⟩) (fun _ _ z => z.elim) (by
      rw [hxe]
      refine thn hit fun r s1 ⟨u, er, h⟩ => ⟨⟨u, er⟩, ?_⟩
      subst er
      exact thn h fun _ s2 ⟨x, H', q1, q2, q3⟩ => ⟨x, H', q1, fun u' e' => by cases e'; exact q2, q3⟩)
  rw [hxe] at fr
  refine thn fr fun r s1 ⟨⟨u, er⟩, h⟩ => ⟨u, er, ?_⟩
  subst er
  refine thn h fun _ s2 ⟨kp, x, H', I2, rv, y, t2, f2⟩ => ?_
  obtain ⟨hd0, Hf2, x1, x2, x3, x4, x5, rx⟩ := g3 i d x H' ed y
  obtain ⟨q, t⟩ := p1.yield x1 x2 x3 x4 x5
  obtain ⟨t', a, b⟩ := t.minus hn hS
  refine ⟨x, Hf2, minus H' G, I2.minus hd.still a, hd.back I2 a kp, rv u rfl, t2, fun b hb => ⟨by rw [minus_out (hf b hb).2]; exact f2 b hb, (hf b hb).1.2⟩, t', ?_⟩
  have q' := q.minus b (held_nf hn p.w.ex hS t)
  exact q'.toP (fun _ z => z) (rx.minus fun _ _ _ z => z)
theorem done_heldQ {X : Cx} {pins : List (Addr × Obj)} {σ : L2.St} {H Hf : Hp} {R : Nat → Rg} {st : Sl} {G : Prv} {tg : Expr} {Jt : L2.It} {fp : List Addr} {it : Addr} {tn : Nat → Heap → Prop} {all : List D} (hx : SimOk X) (hc : X.calm = true) (T : Turn X.prog X.w X.K tg Jt fp it tn) (itd : ItD ca X.K Jt Hf all)
    (I : Inv X pins σ H s) (p : PR ca X.K Hf H Em True R σ st) (hd : Held X pins H G s) (hf : ∀ b ∈ fp, FpOk X pins H b ∧ G.obj b = none) (ht : tn all.length s.heap) (hxe : X.xe = fun _ _ => False) :
    wpAny (model X.prog X.w) X.A (pyNext (.ref it)) (fun r s1 => r = none ∧ Inv X pins σ H s1 ∧ Held X pins H G s1) (fun _ _ => False) s := by
  have hn : ∀ b o, G.obj b = some o → H b = Option.none := fun b o e => (hd.obj b o e).2.1
  have p1 := p.plus hn
  obtain ⟨g1, g2, g3⟩ := itd Hf (plus H G) (fun _ _ e => e) p1.w.ex p1.w.tp
  have em : minus (plus H G) G = H := by
    funext b
    cases q : G.obj b with
    | none => rw [minus_out q, plus_out q]
    | some o => rw [minus_in q, hn b o q]
  have hdone := T.done X rfl rfl rfl hc all.length pins { s with gens := kill (fun _ => False) s.gens } σ (plus H G) (fun _ _ => False) ((I.plus hd).kill (J := fun _ => False)) (fun b hb => ⟨by rw [plus_out (hf b hb).2]; exact (hf b hb).1.1, (hf b hb).1.2⟩) ht g2
  have fr : wpAny (model X.prog X.w) X.A (pyNext (.ref it)) (fun r s1 => Kept (fun _ => False) s s1 ∧ r = none ∧ Inv X pins σ (plus H G) s1) (fun _ _ => False) s :=
    wpAny_mono (wpAny_frame (fun _ => False) (fun _ _ z => z.elim) hdone) (fun r s1 ⟨k, ga, g, q1, q2⟩ => ⟨k, q1, q2.sim g⟩) fun _ _ ⟨_, _, _, q⟩ => q
  refine thn fr fun r s1 ⟨kp, er, I1⟩ => ⟨er, ?_⟩
  have h1 := I1.minus hd.still (fun b o e => plus_in e)
  have h2 := hd.back I1 (fun b o e => plus_in e) kp
  rw [em] at h1 h2
  exact ⟨h1, h2⟩
theorem GHold.same {W W1 : Prv} (x : GHold F W1) (h : Prv.Same W W1) : GHold F W := ⟨by rw [h.obj]; exact x.obj, by rw [h.run]; exact x.run, by rw [h.os]; exact x.os⟩
theorem GHold.more {W : Prv} {fp : List Addr} {h : Heap} (x : GHold F W) (hout : ∀ b ∈ fp, W.obj b = none) : GHold F (W.more fp h) :=
  ⟨by
    show (if F.a ∈ fp then h.get? F.a else W.obj F.a) = some F.go
    rw [if_neg fun hb => by
      have := x.obj
      rw [hout _ hb] at this
      cases this]
    exact x.obj, x.run, x.os⟩
end
end DL

/-! DL163: a for loop in a generator's body. -/
namespace DL
open PySem L2 PyProof.Rows

section
variable {ca : Nat → Addr} {F : GF}
theorem ItD.later {ca : Nat → Addr} {K : PySem.W.Frag} {Jt : L2.It} {Hf Hf1 : Hp} {ds : List D} (h : ItD ca K Jt Hf ds) (hx : Ex Hf Hf1) : ItD ca K Jt Hf1 ds := fun Hf' H' h1 h2 h3 => h Hf' H' (fun b o e => h1 b o (hx b o e)) h2 h3
theorem GInv.setW {A : Around} {z : GZ} {P : Rg} {pp : Prop} {s : Shared} {W : Prv} (g : GInv ca F A z P pp s) (h : ∀ s0, Held (F.cx A s0) [] z.H z.W s → Held (F.cx A s0) [] z.H W s) (hh : GHold F W) : GInv ca F A { z with W := W } P pp s :=
  let ⟨s0, h1, h2, h3⟩ := g.cx
  ⟨⟨s0, h1, h2, h s0 h3⟩, g.room, g.pr, hh⟩
def Prv.at (W : Prv) (o : Option Shared) : Prv := { W with s0 := o }
theorem Prv.Same.at {W : Prv} {o : Option Shared} : Prv.Same (W.at o) W := ⟨Eq.refl _, Eq.refl _, Eq.refl _, Eq.refl _⟩
theorem Held.same {X : Cx} {pins : List (Addr × Obj)} {H : Hp} {W W1 : Prv} {s : Shared} (hd : Held X pins H W s) (h : Prv.Same W W1) : Held X pins H (W1.at W.s0) s :=
  ⟨fun b o e => hd.obj b o (by rw [h.obj]; exact e), fun i x e => hd.gen i x (by rw [h.gen]; exact e), fun i e => hd.run i (by rw [h.run]; exact e), fun o e => hd.os o (by rw [h.os]; exact e), fun o e => hd.s0 o e⟩
theorem held_back {A : Around} {s0 : Shared} {H : Hp} {W W1 : Prv} {fp : List Addr} {h : Heap} {s : Shared} (hs : Prv.Same W1 (W.more fp h)) (hd : Held (F.cx A s0) [] H W1 s) (hout : ∀ b ∈ fp, W.obj b = none) : Held (F.cx A s0) [] H (W.at W1.s0) s := by
  have := held_less (W := W.at W1.s0) (fp := fp) (h := h) (hd.same hs) hout
  exact this
theorem gb_for {bb : Bool} {tg iter : Expr} {body : List Stmt} {pos : Pos} {src : GSrc} {t : TG} {g : MG} {mb : GM} (hi : ∀ A s0, RoomG F.k (A.deeper F.env) → ∃ wi, CI ca (F.cx A s0) tg iter wi src) (hg : ∀ A s0, RoomG F.k (A.deeper F.env) → CG ca (F.cx A s0) [] tg t g) (hb : GBs ca F bb body mb)
    (hs : ∀ x, foldedSetIterable iter F.env x = pure x := by intro _; rfl) : GB ca F bb (.For tg iter body [] pos) (mFor src g mb) := fun A s z c fs K J gd lv dsK gc hlv I hW0 ds out f st' em ef hk => by
  unfold mFor at em
  cases e1 : src z.st with
  | fail => rw [e1] at em; obtain ⟨_, q2⟩ := Prod.mk.inj em; subst q2; cases ef
  | exc x st1 => rw [e1] at em; obtain ⟨_, q2⟩ := Prod.mk.inj em; subst q2; cases ef
  | ok all st1 =>
  rw [e1] at em
  dsimp only at em
  obtain ⟨⟨s0, hs0, I0, hd0⟩, hr, hp, hh⟩ := I
  obtain ⟨wi, hi0⟩ := hi A s0 hr
  intro Φ acc
  refine sg_For hs ?_
  rw [gc.over]
  refine thn (pi_heldQ simOk_gf hi0 I0 hp hd0 e1) fun v s1 h1 => thn h1 fun itv s2 ⟨it, fp, tn, Jt, Hf1, H1, R1, ev, I1, hd1, T, t0, f1, t1, p1, itd⟩ p => ?_
  subst ev
  have gl : GCd F (.forLoop tg (.ref it) body [] F.env) (.ret (kBack F.env K J gd lv) none (gd false) (lv []) c p [] :: fs) id := gcd_loop gc rfl rfl
  have loop : ∀ (rest : List D) (i : Nat) (pre ys : List D) (A' : Around) (s' : Shared) (z' : GZ), i ≤ all.length → all.drop i = rest → Prv.Same z'.W z.W → GInv ca F A' z' Em True s' → (∀ b ∈ fp, FpG F z'.H b) → tn i s'.heap → Ex Hf1 z'.Hf → Ex z.Hf z'.Hf → (pre = [] → A' = A ∧ z.tr Em z') →
      forGM g mb rest z'.st = (ys, out) → ds = pre ++ ys → ∀ Φ', GAcc ca F (ys ++ dsK) A' z' Φ' → Sg (model F.P F.w) A' Φ' (.forLoop tg (.ref it) body [] F.env) ((model F.P F.w).den (.forLoop tg (.ref it) body [] F.env)) (.ret (kBack F.env K J gd lv) none (gd false) (lv []) c p [] :: fs) s' := by
    intro rest
    induction rest with
    | nil =>
      intro i pre ys A' s' z' hle hdr hW I' hf ht hx hxz hpre hem hds Φ' acc'
      have hil : i = all.length := by
        have := congrArg List.length hdr
        rw [List.length_drop] at this
        simp at this
        omega
      subst hil
      obtain ⟨q1, q2⟩ := Prod.mk.inj hem
      subst q1
      subst q2
      cases ef
      obtain ⟨⟨sz, hsz, Iz, hdz⟩, hrz, hpz, hhz⟩ := id I'
      refine sg_forTurn ?_
      rw [gl.over]
      refine thn (done_heldQ simOk_gf rfl T (itd.later hx) Iz hpz hdz (fun b hb => ⟨(hf b hb).ok hsz, by rw [hW.obj]; exact (f1 b hb).2⟩) ht rfl) fun r s3 ⟨er, I3, hd3⟩ => ?_
      subst er
      refine sg_block ?_
      refine hk A' s3 z' rfl hW ⟨⟨sz, hsz, I3, hd3⟩, hrz, hpz, hhz⟩ hxz (fun en => hpre ?_) Φ' acc'
      rw [hds] at en
      exact (List.append_eq_nil_iff.mp en).1
    | cons d rest ih =>
      intro i pre ys A' s' z' hle hdr hW I' hf ht hx hxz hpre hem hds Φ' acc'
      have ed : all[i]? = some d := by
        have := congrArg (·[0]?) hdr
        simpa using this
      have hil : i < all.length := (List.getElem?_eq_some_iff.mp ed).1
      have hdr' : all.drop (i + 1) = rest := by
        have := congrArg List.tail hdr
        rw [List.tail_drop] at this
        simpa using this
      obtain ⟨⟨sz, hsz, Iz, hdz⟩, hrz, hpz, hhz⟩ := id I'
      refine sg_forTurn ?_
      rw [gl.over]
      refine thn (item_heldQ simOk_gf rfl T (itd.later hx) Iz hpz hdz (fun b hb => ⟨(hf b hb).ok hsz, by rw [hW.obj]; exact (f1 b hb).2⟩) ht ed rfl) fun r s3 ⟨u, er, h3⟩ => ?_
      subst er
      refine thn h3 fun _ s4 ⟨v, Hf4, H4, I4, hd4, rv, t4n, f4, t4, p4⟩ => ?_
      have hf4 : ∀ b ∈ fp, FpG F H4 b := fun b hb => FpG.of (f4 b hb) hsz
      have hd5 := held_more hsz hd4 ⟨hf4, fun b hb => by rw [hW.obj]; exact (f1 b hb).2⟩
      rw [forGM] at hem
      dsimp only at hem
      cases eg : g d z'.st with
      | fail => rw [eg] at hem; obtain ⟨_, q2⟩ := Prod.mk.inj hem; subst q2; cases ef
      | exc x st2 => rw [eg] at hem; obtain ⟨_, q2⟩ := Prod.mk.inj hem; subst q2; cases ef
      | ok a0 st2 =>
      rw [eg] at hem
      dsimp only at hem
      refine thn (cg_held (Z := fun σ5 H5 => ∃ Hf5 R5, Tr (jn Em z'.R) Hf4 H4 (jn Em R5) Hf5 H5 ∧ PR ca F.K Hf5 H5 Em True R5 σ5 st2) simOk_gf (hg A' sz hrz) I4 p4 hd5 rv (by
        rw [eg]
        exact fun Hf5 H5 R5 σ5 t5 p5 _ => ⟨Hf5, R5, t5, p5⟩)) fun _ s5 ⟨σ5, H5, I5, h5, Hf5, R5, t5, p5⟩ => ?_
      have keepn : ∀ {A2 : Around} {s0' : Shared} {H' : Hp} {s'' : Shared} {o : Option Shared}, Held (F.cx A2 s0') [] H' ((z'.W.more fp s4.heap).at o) s'' → tn (i + 1) s''.heap := fun {A2 s0' H' s'' _} hh =>
        T.keep _ _ _ t4n fun b hb o e => (hh.obj b o (by
          show (if b ∈ fp then s4.heap.get? b else z'.W.obj b) = some o
          rw [if_pos hb]
          exact e)).1
      have fpk : ∀ {A2 : Around} {s0' : Shared} {H' : Hp} {s'' : Shared} {o : Option Shared}, s0'.heap.objs.size = F.env.locals → Held (F.cx A2 s0') [] H' ((z'.W.more fp s4.heap).at o) s'' → ∀ b ∈ fp, FpG F H' b := fun {A2 s0' H' s'' _} hsz' hh b hb => by
        obtain ⟨o, e, _⟩ := T.obj _ _ t4n b hb
        exact FpG.of (hh.obj b o (by
          show (if b ∈ fp then s4.heap.get? b else z'.W.obj b) = some o
          rw [if_pos hb]
          exact e)).2 hsz'
      have I5g : GInv ca F A' ⟨Hf5, H5, R5, σ5, st2, z'.W.more fp s4.heap⟩ Em True s5 := ⟨⟨sz, hsz, I5, h5⟩, hrz, p5, hhz.more fun b hb => by rw [hW.obj]; exact (f1 b hb).2⟩
      have tr5 : z'.tr Em ⟨Hf5, H5, R5, σ5, st2, z'.W.more fp s4.heap⟩ := ⟨t4.trans t5, rfl⟩
      have hbody : ∀ (ysb : List D) (outb : SR) (fb : Flow) (stb : Sl) (dsR : List D), mb st2 = (ysb, outb) → flowOf outb = some (fb, stb) → ys ++ dsK = ysb ++ dsR → GNext ca F A' ⟨Hf5, H5, R5, σ5, st2, z'.W.more fp s4.heap⟩ ysb dsR fb stb (.forLoop tg (.ref it) body [] F.env) (fun f => match f with
            | .next | .cont => .pure (.again (.forLoop tg (.ref it) body [] F.env))
            | .brk => .pure (.done .next)
            | .ret v => .pure (.done (.ret v))) (.ret (kBack F.env K J gd lv) none (gd false) (lv []) c p [] :: fs) →
          Sg (model F.P F.w) A' Φ' (.forLoop tg (.ref it) body [] F.env) ((execs body F.env).wrap (fun f => match f with
            | .next | .cont => .pure (.again (.forLoop tg (.ref it) body [] F.env))
            | .brk => .pure (.done .next)
            | .ret v => .pure (.done (.ret v))) (fun e => (do noteFrame e F.env; theTreesLotGoes e : Sem Unit).wrap (fun _ => .raise e) .raise id id) id id) (.ret (kBack F.env K J gd lv) none (gd false) (lv []) c p [] :: fs) s5 := fun ysb outb fb stb dsR eb efb hsplit hn => by
        refine hb A' s5 ⟨Hf5, H5, R5, σ5, st2, z'.W.more fp s4.heap⟩ _ _ _ _ id id dsR gl rfl I5g (fun e => hW.gen.trans (hW0 e)) ysb outb fb stb eb efb hn Φ' ?_
        rw [← hsplit]
        exact acc'.from tr5
      -- the next turn
      have again : ∀ (ysb : List D) (stb : Sl) (ys2 : List D), ys = ysb ++ ys2 → forGM g mb rest stb = (ys2, out) → ∀ (A2 : Around) (s6 : Shared) (z6 : GZ), z6.st = stb → Prv.Same z6.W (z'.W.more fp s4.heap) → GInv ca F A2 z6 Em True s6 → Ex Hf5 z6.Hf → (ysb = [] → A2 = A' ∧ GZ.tr ⟨Hf5, H5, R5, σ5, st2, z'.W.more fp s4.heap⟩ Em z6) →
          GRun ca F (ys2 ++ dsK) A2 z6 (.forLoop tg (.ref it) body [] F.env) (.pure (.again (.forLoop tg (.ref it) body [] F.env))) (.ret (kBack F.env K J gd lv) none (gd false) (lv []) c p [] :: fs) s6 := fun ysb stb ys2 hy he A2 s6 z6 h1 h2 I6 hx6 hn6 Φ2 acc2 => by
        refine sg_again rfl ?_
        have I7 : GInv ca F A2 { z6 with W := z'.W.at z6.W.s0 } Em True s6 := I6.setW (fun s0' hh => held_back h2 hh fun b hb => by rw [hW.obj]; exact (f1 b hb).2) (hhz.same Prv.Same.at)
        obtain ⟨⟨sy, hsy, Iy, hdy⟩, _, _, _⟩ := id I6
        have hdy := hdy.same h2
        refine ih (i + 1) (pre ++ ysb) ys2 A2 s6 { z6 with W := z'.W.at z6.W.s0 } hil hdr' (Prv.Same.at.trans hW) I7 (fpk hsy hdy) (keepn hdy) (fun b o e => hx6 b o (t5.fx b o (t4.fx b o (hx b o e)))) (fun b o e => hx6 b o (t5.fx b o (t4.fx b o (hxz b o e)))) (fun en => ?_) ?_ ?_ Φ2 (acc2.from ⟨Tr.refl fun _ q => q, rfl⟩)
        · obtain ⟨n1, n2⟩ := List.append_eq_nil_iff.mp en
          obtain ⟨m1, m2⟩ := hpre n1
          obtain ⟨m3, m4⟩ := hn6 n2
          exact ⟨m3.trans m1, (m2.trans tr5).trans ⟨m4.t, m4.s0⟩⟩
        · show forGM g mb rest z6.st = _
          rw [h1]
          exact he
        · rw [hds, hy, List.append_assoc]
      cases eb : mb st2 with
      | mk ysb outb =>
      rw [eb] at hem
      cases outb with
      | next stb =>
        obtain ⟨q1, q2⟩ := Prod.mk.inj hem
        refine hbody ysb _ .next stb ((forGM g mb rest stb).1 ++ dsK) eb rfl (by rw [← q1, List.append_assoc]) fun A2 s6 z6 h1 h2 I6 hx6 hn6 => ?_
        exact again ysb stb _ q1.symm (by rw [← q2]) A2 s6 z6 h1 h2 I6 hx6 hn6
      | cont stb =>
        obtain ⟨q1, q2⟩ := Prod.mk.inj hem
        refine hbody ysb _ .cont stb ((forGM g mb rest stb).1 ++ dsK) eb rfl (by rw [← q1, List.append_assoc]) fun A2 s6 z6 h1 h2 I6 hx6 hn6 => ?_
        exact again ysb stb _ q1.symm (by rw [← q2]) A2 s6 z6 h1 h2 I6 hx6 hn6
      | brk stb =>
        obtain ⟨q1, q2⟩ := Prod.mk.inj hem
        subst q1
        subst q2
        cases ef
        refine hbody ysb _ .brk _ dsK eb rfl rfl fun A2 s6 z6 h1 h2 I6 hx6 hn6 Φ2 acc2 => ?_
        refine sg_leaf (.ok .next) ?_
        have I7 : GInv ca F A2 { z6 with W := z'.W.at z6.W.s0 } Em True s6 := I6.setW (fun s0' hh => held_back h2 hh fun b hb => by rw [hW.obj]; exact (f1 b hb).2) (hhz.same Prv.Same.at)
        refine hk A2 s6 { z6 with W := z'.W.at z6.W.s0 } h1 (Prv.Same.at.trans hW) I7 (fun b o e => hx6 b o (t5.fx b o (t4.fx b o (hxz b o e)))) (fun en => ?_) Φ2 (acc2.from ⟨Tr.refl fun _ q => q, rfl⟩)
        rw [hds] at en
        obtain ⟨n1, n2⟩ := List.append_eq_nil_iff.mp en
        obtain ⟨m1, m2⟩ := hpre n1
        obtain ⟨m3, m4⟩ := hn6 n2
        exact ⟨m3.trans m1, (m2.trans tr5).trans ⟨m4.t, m4.s0⟩⟩
      | ret dd stb => obtain ⟨_, q2⟩ := Prod.mk.inj hem; subst q2; cases ef
      | exc x stb => obtain ⟨_, q2⟩ := Prod.mk.inj hem; subst q2; cases ef
      | fail => obtain ⟨_, q2⟩ := Prod.mk.inj hem; subst q2; cases ef
  refine loop all 0 [] ds A s2 ⟨Hf1, H1, R1, z.σ, st1, z.W⟩ (Nat.zero_le _) rfl Prv.Same.rfl ⟨⟨s0, hs0, I1, hd1⟩, hr, p1, hh⟩ (fun b hb => FpG.of (f1 b hb).1 hs0) t0 (fun _ _ e => e) t1.fx (fun _ => ⟨rfl, t1, rfl⟩) em rfl Φ (acc.from ⟨t1, rfl⟩)
end
end DL

/-! DL164: a generator falls asleep and is woken. -/
namespace DL
open PySem L2 PyProof.Rows

section
variable {P : Program} {w : World} {H H' : Hp} {h h' : Heap} {a : Addr} {o : HO} {ca : Nat → Addr} {K : PySem.W.Frag} {Hf Hf' : Hp}
theorem objOk_alive (x : ObjOk P w H h a o) : ∃ u, h.get? a = some u := by
  cases o with
  | lst xs => obtain ⟨_, _, _, _, e⟩ := x; exact ⟨_, e⟩
  | tup xs => obtain ⟨_, _, _, o, e, _⟩ := x; exact ⟨_, e⟩
  | dK kvs => obtain ⟨_, _, _, _, o, _, _, e, _⟩ := x; exact ⟨_, e⟩
  | dT kvs => obtain ⟨_, _, _, _, o, _, _, e, _⟩ := x; exact ⟨_, e⟩
  | set S n => obtain ⟨o, _, _, _, e, _⟩ := x; exact ⟨_, e⟩
  | ins C dx fs => obtain ⟨_, _, _, e, _⟩ := x; exact ⟨_, e⟩
  | own y => exact x
  | xd fs => obtain ⟨_, ⟨o, _, _, e, _⟩, _⟩ := x; exact ⟨_, e⟩
  | rng lo hi => obtain ⟨_, _, _, e⟩ := x; exact ⟨_, e⟩
  | frz ob u => exact ⟨_, x.1⟩
  | tbl ps => exact ⟨_, x⟩
  | met f y => exact ⟨_, x⟩
  | ext φ => exact x.2.1
/-- the region may be cut down to its lists -/
def isLstH (H : Hp) (b : Addr) : Prop := ∃ xs, H b = some (.lst xs)
mutual
theorem rep_shrink : ∀ {d : D} {S : Rg} {v : V}, okD d = true → Rep ca K Hf H S v d → Rep ca K Hf H (fun b => S b ∧ isLstH H b) v d
  | .non, _, _, _, r => by cases r; exact .non
  | .bl _, _, _, _, r => by cases r; exact .bl
  | .int _, _, _, _, r => by cases r; exact .int
  | .str _, _, _, _, r => by cases r; exact .str
  | .scr _, _, _, _, r => by cases r with | scr h => exact .scr h
  | .cls _, _, _, _, r => by cases r; exact .cls
  | .ty _, _, _, _, r => by cases r; exact .ty
  | .lst false _, _, _, _, r => by cases r with | lstF e r => exact .lstF e r
  | .lst true xs, S, _, h, r => by
    cases r with
    | lstO s e r =>
      refine .lstO ⟨s, _, e⟩ e ((repL_shrink (d := xs) (by simpa [okD] using h) r).mono fun b q => ⟨⟨q.1.1, q.2⟩, q.1.2⟩)
  | .tup _, _, _, _, r => by cases r with | tup e r => exact .tup e r
  | .ins false _ _, _, _, _, r => by cases r with | insF e k r => exact .insF e k r
  | .ins true _ _, _, _, h, _ => by simp [okD] at h
  | .dic false _, _, _, _, r => by cases r with | dicF e k r => exact .dicF e k r
  | .dic true _, _, _, h, _ => by simp [okD] at h
  | .dct false _, _, _, _, r => by cases r with | dctF e k r => exact .dctF e k r
  | .dct true _, _, _, h, _ => by simp [okD] at h
  | .xc _ _, _, _, _, r => by cases r with | xc e e2 k r => exact .xc e e2 k r
theorem repL_shrink : ∀ {d : List D} {S : Rg} {v : List V}, okDs d = true → RepL ca K Hf H S v d → RepL ca K Hf H (fun b => S b ∧ isLstH H b) v d
  | [], _, _, _, r => by cases r; exact .nil
  | d :: ds, S, _, h, r => by
    simp only [okDs, Bool.and_eq_true] at h
    cases r with
    | cons r1 r2 h1 h2 h3 => exact .cons (rep_shrink h.1 r1) (repL_shrink h.2 r2) (fun b q => ⟨h1 b q.1, q.2⟩) (fun b q => ⟨h2 b q.1, q.2⟩) fun b q1 q2 => h3 b q1.1 q2.1
end
theorem okS_get : ∀ {st : Sl} {i : Nat} {d : D}, okSl st = true → getS st i = some d → okD d = true
  | [], i, d, _, e => by simp [getS] at e
  | none :: st, 0, d, _, e => by simp [getS] at e
  | none :: st, i + 1, d, h, e => okS_get (st := st) (i := i) (by simpa [okSl] using h) (by simpa [getS] using e)
  | some x :: st, 0, d, h, e => by
    simp only [okSl, Bool.and_eq_true] at h
    have : x = d := by simpa [getS] using e
    rw [← this]
    exact h.1
  | some x :: st, i + 1, d, h, e => by
    simp only [okSl, Bool.and_eq_true] at h
    exact okS_get (st := st) (i := i) h.2 (by simpa [getS] using e)
theorem PR.shrink {R : Nat → Rg} {σ : L2.St} {st : Sl} {Q : Rg} {pp : Prop} (p : PR ca K Hf H Q pp R σ st) (h : okSl st = true) : PR ca K Hf H Q pp (fun i b => R i b ∧ isLstH H b) σ st :=
  ⟨p.pend, p.len, fun i d e => by
    obtain ⟨v, e1, r⟩ := p.at_ i d e
    exact ⟨v, e1, rep_shrink (okS_get h e) r⟩, fun i j b q1 q2 => p.dj i j b q1.1 q2.1, fun i b q1 q2 => p.dp i b q1 q2.1, p.w.mono fun b q => q.imp_right fun ⟨i, q⟩ => ⟨i, q.1⟩⟩
end

/-- it is a generator's object -/
def GenO (g : Nat) (o : Obj) : Prop := ∃ nm qn, o.cls = .type "generator" ∧ o.data = .fields #[.int g 0, nm, qn] ∧ o.slots = #[]
theorem GenO.is {g : Nat} {o : Obj} {h : Heap} {a : Addr} (x : GenO g o) (e : h.get? a = some o) : h.IsGen a g := let ⟨nm, qn, r⟩ := x; ⟨o, nm, qn, e, r⟩
/-- how it sleeps (or has not begun) -/
structure Slp (ca : Nat → Addr) (F : GF) (z : GZ) (s : Shared) : Prop where
  cx : ∃ (A : Around) (s0 : Shared), s0.heap.objs.size = F.env.locals ∧ Inv (F.cx A s0) [] z.σ z.H s ∧ Held (F.cx A s0) [] z.H z.W s
  pr : PR ca F.K z.Hf z.H Em True z.R z.σ z.st
  lst : ∀ i b, z.R i b → isLstH z.H b
  frame : F.env.frame = some F.env.locals
  hold : GHold F z.W
  go : GenO F.g F.go
/-- its private places -/
def isPrv (F : GF) (z : GZ) (b : Addr) : Prop := (∃ i, z.R i b) ∨ b = F.env.locals ∨ ∃ y, F.env.cells.lookup y = some b
open Classical in
noncomputable def prvOf (F : GF) (z : GZ) (s : Shared) (x : GenState) : Prv :=
  ⟨fun b => if isPrv F z b then s.heap.get? b else z.W.obj b, fun i => if i = F.g then some x else z.W.gen i, fun _ => False, none, none⟩
open Classical in
/-- what it knows when it is woken: what it knew of its own, what the others know, all else as private things of others -/
noncomputable def wkH (F : GF) (z : GZ) (G : Prv) (H : Hp) (s : Shared) : Hp := fun b => if (∃ i, z.R i b) then z.H b else match G.obj b with
  | some _ => none
  | none => match H b with
    | some o => some o
    | none => if (F.base.get? b).isSome = true ∨ b ∈ frs F.outer then none else (s.heap.get? b).map (PO b)
open Classical in
/-- what the others know when it falls asleep -/
noncomputable def slH (R1 : Nat → Rg) (G : Prv) (H : Hp) (s : Shared) (H1 : Hp) : Hp := fun b => if (∃ i, R1 i b) then none else if G.obj b = none ∧ H b = none ∧ (s.heap.get? b).isSome = true then none else H1 b

section
variable {ca : Nat → Addr} {F : GF} {z : GZ} {s s1 : Shared} {x : GenState} {A : Around} {Hf H : Hp}
theorem prv_in {b : Addr} (h : isPrv F z b) : (prvOf F z s x).obj b = s.heap.get? b := by unfold prvOf; exact if_pos h
theorem prv_out {b : Addr} (h : ¬ isPrv F z b) : (prvOf F z s x).obj b = z.W.obj b := by unfold prvOf; exact if_neg h
theorem prv_g : (prvOf F z s x).gen F.g = some x := by unfold prvOf; exact if_pos rfl
theorem prv_ne {i : Nat} (h : i ≠ F.g) : (prvOf F z s x).gen i = z.W.gen i := by unfold prvOf; exact if_neg h
theorem wkH_R {G : Prv} {b : Addr} (h : ∃ i, z.R i b) : wkH F z G H s b = z.H b := by unfold wkH; exact if_pos h
theorem wkH_tp {G : Prv} {Hf : Hp} (t : TpH Hf H) (h : ∀ b, (∃ i, z.R i b) → ∀ xs, z.H b ≠ some (.tup xs)) : TpH Hf (wkH F z G H s) := fun b xs e => by
  by_cases hb : ∃ i, z.R i b
  · rw [wkH_R hb] at e; exact (h b hb xs e).elim
  · unfold wkH at e
    rw [if_neg hb] at e
    cases q : G.obj b with
    | some o => rw [q] at e; cases e
    | none =>
      rw [q] at e
      dsimp only at e
      cases q2 : H b with
      | some o => rw [q2] at e; cases e; exact t b xs q2
      | none =>
        rw [q2] at e
        dsimp only at e
        split at e
        · cases e
        · cases q3 : s.heap.get? b with
          | none => rw [q3] at e; cases e
          | some o => rw [q3] at e; cases e
theorem wkH_p {G : Prv} {b : Addr} {o : Obj} (h : ¬ ∃ i, z.R i b) (e : G.obj b = some o) : wkH F z G H s b = none := by unfold wkH; rw [if_neg h, e]
theorem wkH_H {G : Prv} {b : Addr} {o : HO} (h : ¬ ∃ i, z.R i b) (e : G.obj b = none) (e2 : H b = some o) : wkH F z G H s b = some o := by unfold wkH; rw [if_neg h, e, e2]
theorem wkH_b {G : Prv} {b : Addr} (h : ¬ ∃ i, z.R i b) (e2 : H b = none) (k : (F.base.get? b).isSome = true ∨ b ∈ frs F.outer) : wkH F z G H s b = none := by
  unfold wkH
  rw [if_neg h, e2]
  cases G.obj b with
  | some _ => rfl
  | none => exact if_pos k
theorem wkH_f {G : Prv} {b : Addr} {o : Obj} (h : ¬ ∃ i, z.R i b) (e : G.obj b = none) (e2 : H b = none) (k : ¬ ((F.base.get? b).isSome = true ∨ b ∈ frs F.outer)) (e3 : s.heap.get? b = some o) : wkH F z G H s b = some (PO b o) := by
  unfold wkH
  rw [if_neg h, e, e2]
  dsimp only
  rw [if_neg k, e3]
  rfl
theorem wkH_d {G : Prv} {b : Addr} (h : ¬ ∃ i, z.R i b) (e2 : H b = none) (e3 : s.heap.get? b = none) : wkH F z G H s b = none := by
  unfold wkH
  rw [if_neg h, e2]
  cases G.obj b with
  | some _ => rfl
  | none =>
    dsimp only
    split
    · rfl
    · rw [e3]; rfl
/-- facts of the sleeper -/
theorem Slp.rtracked (sl : Slp ca F z s) {b : Addr} (h : ∃ i, z.R i b) : ∃ o u, s.heap.get? b = some o ∧ z.H b = some u := by
  obtain ⟨i, h⟩ := h
  obtain ⟨A, s0, _, I, _⟩ := sl.cx
  obtain ⟨xs, e⟩ := sl.lst i b h
  obtain ⟨o, eo⟩ := objOk_alive (I.hok b _ e)
  exact ⟨o, _, eo, e⟩
theorem Slp.prv_some (sl : Slp ca F z s) {b : Addr} (h : isPrv F z b) : ∃ o, (prvOf F z s x).obj b = some o := by
  rw [prv_in h]
  obtain ⟨A, s0, _, I, _⟩ := sl.cx
  rcases h with h | h | ⟨y, h⟩
  · obtain ⟨o, _, e, _⟩ := sl.rtracked h
    exact ⟨o, e⟩
  · obtain ⟨m, ⟨o, _, _, e, _⟩, _⟩ := I.loc
    rw [h]
    exact ⟨o, e⟩
  · obtain ⟨v, o, e, _⟩ := I.cell y b h
    exact ⟨o, e⟩
theorem Slp.prv_w (sl : Slp ca F z s) {b : Addr} {o : Obj} (e : z.W.obj b = some o) : ¬ isPrv F z b ∧ (prvOf F z s x).obj b = some o := by
  obtain ⟨A, s0, _, I, hd⟩ := sl.cx
  have hn : ¬ isPrv F z b := fun h => by
    obtain ⟨f0, f1, _, _, f4, _⟩ := (hd.obj b o e).2
    rcases h with h | h | ⟨y, h⟩
    · obtain ⟨_, u, _, q⟩ := sl.rtracked h
      rw [f0] at q; cases q
    · exact f1 h
    · exact f4 y b h rfl
  exact ⟨hn, by rw [prv_out hn]; exact e⟩
/-- each private place: tracked by it, or young -/
theorem Slp.prv_young (sl : Slp ca F z s) {b : Addr} {o : Obj} (e : (prvOf F z s x).obj b = some o) : (∃ i, z.R i b) ∨ F.env.locals ≤ b := by
  obtain ⟨A, s0, hs0, I, hd⟩ := sl.cx
  by_cases h : isPrv F z b
  · rcases h with h | h | ⟨y, h⟩
    · exact .inl h
    · exact .inr (Nat.le_of_eq h.symm)
    · refine .inr ?_
      have := I.ok.cab y b rfl h
      rw [show (F.cx A s0).s_0.heap.objs.size = F.env.locals from hs0] at this
      exact this
  · rw [prv_out h] at e
    refine .inr ?_
    rcases (hd.obj b o e).2.2.2.2.1 with q | q
    · exact absurd (show b ∈ ([] : List Addr) from q) (by simp)
    · rw [show (F.cx A s0).s_0.heap.objs.size = F.env.locals from hs0] at q
      exact q
theorem Slp.basez (sl : Slp ca F z s) : F.base.objs.size ≤ F.env.locals := by
  obtain ⟨A, s0, hs0, I, hd⟩ := sl.cx
  have := I.ok.bsz
  rw [show (F.cx A s0).s_0.heap.objs.size = F.env.locals from hs0] at this
  exact this
theorem Slp.nobase (sl : Slp ca F z s) {b : Addr} {o u : Obj} (e : (prvOf F z s x).obj b = some o) (hb : F.base.get? b = some u) : False := by
  obtain ⟨A, s0, hs0, I, hd⟩ := id sl.cx
  rcases sl.prv_young e with h | h
  · obtain ⟨_, u', _, q⟩ := sl.rtracked h
    have := (I.bs b u hb).2
    rw [q] at this; cases this
  · exact absurd (Nat.lt_of_lt_of_le (Heap.lt_size hb) (Nat.le_trans sl.basez h)) (Nat.lt_irrefl _)
theorem FunFrames_cut {base h h' : Heap} : ∀ {l : List Env}, (∀ b ∈ frs l, h'.get? b = h.get? b) → h.FunFrames base l → h'.FunFrames base l
  | [], _, _ => trivial
  | env :: r, hs, ⟨h1, ⟨L, o, hf, hn, ho, hd⟩, hr⟩ => by
    have hm : L ∈ frs (env :: r) := by unfold frs; rw [List.filterMap_cons, hf]; exact List.mem_cons_self
    refine ⟨h1, ⟨L, o, hf, hn, by rw [hs L hm]; exact ho, hd⟩, FunFrames_cut (fun b hb => hs b ?_) hr⟩
    unfold frs
    rw [List.filterMap_cons, hf]
    exact List.mem_cons_of_mem _ hb
/-- the state of the wake, cut down to what the generator may know of it -/
def wkS (F : GF) (s : Shared) : Shared := { s with heap := cutH s.heap F.env.locals fun b => (F.base.get? b).isSome || decide (b ∈ frs F.outer) }
/-- woken -/
theorem wake_inv (sl : Slp ca F z s1) (wk : Wk F.P F.w F.K F.mg F.base F.outer (F.k + 2) F.os z.Hf (prvOf F z s1 x) A s Hf H) : GInv ca F A.in1 ⟨Hf, wkH F z (prvOf F z s1 x) H s, z.R, z.σ, z.st, z.W.at (some (wkS F s))⟩ Em True (s.setGen F.g .running) := by
  obtain ⟨A0, s0, hs0, I, hd⟩ := id sl.cx
  have hs0' : (F.cx A0 s0).s_0.heap.objs.size = F.env.locals := hs0
  have hr1 : RoomG (F.k + 1) A.in1 := wk.room.in1
  have hr2 : RoomG F.k (A.in1.deeper F.env) := hr1.deeper F.env
  have hnone : ∀ b o, (prvOf F z s1 x).obj b = some o → H b = Option.none := fun b o e => (wk.obj b o e).2.1
  have hsame : ∀ b o, (prvOf F z s1 x).obj b = some o → s.heap.get? b = some o := fun b o e => (wk.obj b o e).1
  -- a private place's object is as it was
  have pobj : ∀ b o, isPrv F z b → s1.heap.get? b = some o → s.heap.get? b = some o := fun b o h e => hsame b o (by rw [prv_in h]; exact e)
  have notR : ∀ b u, H b = some u → ¬ ∃ i, z.R i b := fun b u e h => by
    obtain ⟨o, e2⟩ := sl.prv_some (x := x) (.inl h)
    rw [hnone b o e2] at e; cases e
  have gnone : ∀ b u, H b = some u → (prvOf F z s1 x).obj b = Option.none := fun b u e => by
    cases q : (prvOf F z s1 x).obj b with
    | none => rfl
    | some o => rw [hnone b o q] at e; cases e
  have keepH : ∀ b u, H b = some u → wkH F z (prvOf F z s1 x) H s b = some u := fun b u e => wkH_H (notR b u e) (gnone b u e) e
  have lR : ¬ ∃ i, z.R i F.env.locals := fun h => by
    obtain ⟨_, u, _, q⟩ := sl.rtracked h
    have := I.free
    rw [show z.H F.env.locals = none from this] at q; cases q
  have frL : ∀ b ∈ frs F.outer, b < F.env.locals := fun b hb => by
    obtain ⟨_, o, ho, _⟩ := I.ok.funs.mem hb
    have := Heap.lt_size ho
    rw [hs0'] at this
    exact this
  have frR : ∀ b ∈ frs F.outer, ¬ ∃ i, z.R i b := fun b hb h => by
    obtain ⟨o, e⟩ := sl.prv_some (x := x) (.inl h)
    exact (wk.obj b o e).2.2 hb
  have bsR : ∀ b u, F.base.get? b = some u → ¬ ∃ i, z.R i b := fun b u hb h => by
    obtain ⟨o, e⟩ := sl.prv_some (x := x) (.inl h)
    exact sl.nobase e hb
  obtain ⟨p, hp⟩ : ∃ p : Addr → Bool, p = fun b => (F.base.get? b).isSome || decide (b ∈ frs F.outer) := ⟨_, rfl⟩
  have cutB : ∀ b u, F.base.get? b = some u → (cutH s.heap F.env.locals p).get? b = some u := fun b u hb => by
    rw [cutH_get (Nat.lt_of_lt_of_le (Heap.lt_size hb) sl.basez) (by rw [hp]; simp [hb])]
    exact (wk.env.bs b u hb).1
  have cutF : ∀ b ∈ frs F.outer, (cutH s.heap F.env.locals p).get? b = s.heap.get? b := fun b hb => cutH_get (frL b hb) (by rw [hp]; simp [hb])
  have hn : ∀ b, p b = true → wkH F z (prvOf F z s1 x) H s b = Option.none := fun b hb => by
    rw [hp] at hb
    simp only [Bool.or_eq_true, decide_eq_true_eq] at hb
    rcases hb with hb | hb
    · obtain ⟨u, hu⟩ := Option.isSome_iff_exists.mp hb
      exact wkH_b (bsR b u hu) (wk.env.bs b u hu).2 (.inl (by rw [hu]; rfl))
    · exact wkH_b (frR b hb) (wk.env.frf b hb) (.inr hb)
  have okW : (F.cx A.in1 { s with heap := cutH s.heap F.env.locals p }).Ok := by
    refine ⟨I.ok.mod, I.ok.kind, I.ok.glob, I.ok.blt, ?_, I.ok.inj, I.ok.has, fun y c h1 h2 => ?_, fun _ => hr2.2.hd, Around.frames_deeper wk.env.frames, .inr ⟨rfl, sl.frame⟩, fun b z => absurd (show b ∈ ([] : List Addr) from z) (by simp), fun b o e => ⟨cutB b o e, rfl⟩, ?_, fun b _ _ z => absurd (show b ∈ ([] : List Addr) from z) (by simp), fun b z => absurd (show b ∈ ([] : List Addr) from z) (by simp), ?_, fun _ _ => rfl⟩
    · show (cutH s.heap F.env.locals p).objs.size ≤ F.env.locals
      rw [cutH_size]
      exact Nat.le_refl _
    · show (cutH s.heap F.env.locals p).objs.size ≤ c
      rw [cutH_size, ← hs0']
      exact I.ok.cab y c h1 h2
    · show F.base.objs.size ≤ (cutH s.heap F.env.locals p).objs.size
      rw [cutH_size]
      exact sl.basez
    · exact FunFrames_cut cutF wk.env.funs
  have hokW : HOk F.P F.w (wkH F z (prvOf F z s1 x) H s) s.heap := fun b u e => by
    have stay : ∀ {b u}, H b = some u → ObjOk F.P F.w (wkH F z (prvOf F z s1 x) H s) s.heap b u := fun {b u} q => (wk.env.hok b u q).stay (fun _ _ _ z => z) (fun c z => keepH c _ z) fun c xs z => keepH c _ z
    by_cases hR : ∃ i, z.R i b
    · rw [wkH_R hR] at e
      obtain ⟨i, hi⟩ := hR
      obtain ⟨xs, ex⟩ := sl.lst i b hi
      rw [ex] at e
      cases e
      obtain ⟨q1, its, n, q2, q3⟩ := I.hok b _ ex
      exact ⟨q1, its, n, q2, pobj b _ (.inl ⟨i, hi⟩) q3⟩
    · cases q : (prvOf F z s1 x).obj b with
      | some o => rw [wkH_p hR q] at e; cases e
      | none =>
        cases q2 : H b with
        | some o =>
          rw [wkH_H hR q q2] at e
          cases e
          exact stay q2
        | none =>
          by_cases k : (F.base.get? b).isSome = true ∨ b ∈ frs F.outer
          · rw [wkH_b hR q2 k] at e; cases e
          · cases q3 : s.heap.get? b with
            | none => rw [wkH_d hR q2 q3] at e; cases e
            | some o =>
              rw [wkH_f hR q q2 k q3] at e
              cases e
              exact po_ok q3
  have prvNone : ∀ b, isPrv F z b → (¬ ∃ i, z.R i b) → wkH F z (prvOf F z s1 x) H s b = Option.none := fun b h1 h2 => by
    obtain ⟨o, e⟩ := sl.prv_some (x := x) h1
    exact wkH_p h2 e
  have cR : ∀ y c, F.env.cells.lookup y = some c → ¬ ∃ i, z.R i c := fun y c e h => by
    obtain ⟨_, u, _, q⟩ := sl.rtracked h
    have := I.freeC y c e
    rw [show z.H c = none from this] at q; cases q
  have cellS : ∀ y c v, F.env.cells.lookup y = some c → s1.heap.IsCell c v → s.heap.IsCell c v := fun y c v e ⟨o, ho, hd⟩ => ⟨o, pobj c o (.inr (.inr ⟨y, e⟩)) ho, hd⟩
  have hheap : (s.setGen F.g .running).heap = s.heap := rfl
  have Iw : Inv (F.cx A.in1 { s with heap := cutH s.heap F.env.locals p }) [] z.σ (wkH F z (prvOf F z s1 x) H s) (s.setGen F.g .running) := by
    refine ⟨okW, rfl, allBare_setGen wk.env.bare rfl, ⟨fun b o e _ _ _ => (of_cutH e).2.2, fun b o e _ _ _ => ⟨o.slots, (of_cutH e).2.2⟩, fun b o e _ _ => hn b (of_cutH e).2.1, fun b o e _ => ⟨o, (of_cutH e).2.2⟩, fun b xs e => (nomatch e), fun b o u e => (nomatch e), fun b ps e => (nomatch e)⟩, ?_, fun y c e => ?_, prvNone _ (.inr (.inl rfl)) lR, fun y c e => prvNone c (.inr (.inr ⟨y, e⟩)) (cR y c e), fun q hq => absurd (show q ∈ ([] : List (Addr × Obj)) ++ [] from hq) (by simp), hokW, I.len⟩
    · obtain ⟨m, ⟨o, es, ep, ho, r⟩, hl⟩ := I.loc
      refine ⟨m, ⟨o, es, ep, pobj _ o (.inr (.inl rfl)) ho, r⟩, fun i y v e1 e2 e3 => ?_⟩
      obtain ⟨u, rv, l⟩ := hl i y v e1 e2 e3
      refine ⟨u, rv, ?_⟩
      rcases l with l | ⟨k, c, e, q⟩
      · exact .inl l
      · exact .inr ⟨k, c, e, cellS y c _ e q⟩
    · obtain ⟨v, q⟩ := I.cell y c e
      exact ⟨v, cellS y c v e q⟩
  have hdW : Held (F.cx A.in1 { s with heap := cutH s.heap F.env.locals p }) [] (wkH F z (prvOf F z s1 x) H s) (z.W.at (some (wkS F s))) (s.setGen F.g .running) := by
    refine ⟨fun b o e => ?_, fun i y e => ?_, fun i e => ?_, fun o e => ?_, fun o e => ?_⟩
    · obtain ⟨np, pe⟩ := sl.prv_w (x := x) e
      obtain ⟨f0, f1, f2, f3, f4, f5⟩ := (hd.obj b o e).2
      refine ⟨hsame b o pe, wkH_p (fun h => np (.inl h)) pe, f1, f2, .inr ?_, f4, fun q hq => absurd (show q ∈ ([] : List (Addr × Obj)) ++ [] from hq) (by simp)⟩
      show (cutH s.heap F.env.locals p).objs.size ≤ b
      rw [cutH_size]
      rcases f3 with q | q
      · exact absurd (show b ∈ ([] : List Addr) from q) (by simp)
      · rw [hs0'] at q
        exact q
    · obtain ⟨q1, q2, q3⟩ := hd.gen i y e
      have hne : i ≠ F.g := fun z' => by
        rw [z', hd.run F.g sl.hold.run.1] at q1
        cases q1
        obtain ⟨_, _, _, _, _, q⟩ := q2
        cases q
      refine ⟨?_, q2, q3⟩
      show (s.gens.setIfInBounds F.g .running)[i]? = some y
      rw [Array.getElem?_setIfInBounds_ne (Ne.symm hne)]
      exact (wk.gen i y (by rw [prv_ne hne]; exact e)).1
    · have := sl.hold.run.2 i e
      subst this
      obtain ⟨hi, _⟩ := Array.getElem?_eq_some_iff.mp (wk.gen F.g x prv_g).1
      show (s.gens.setIfInBounds F.g .running)[F.g]? = some .running
      rw [Array.getElem?_setIfInBounds_self_of_lt hi]
    · have e : z.W.os = some o := e
      rw [sl.hold.os] at e
      cases e
      exact wk.os
    · have e : some (wkS F s) = some o := e
      cases e
      rw [hp]
      rfl
  refine ⟨⟨_, cutH_size, Iw, hdW⟩, hr2, ?_, sl.hold.same Prv.Same.at⟩
  have p0 := sl.pr
  refine ⟨trivial, p0.len, fun i d e => ?_, p0.dj, p0.dp, ⟨fun b o e => keepH b o (wk.hx b o e), fun b q => ?_, fun b q => ?_, wkH_tp wk.tp (fun b q xs e => by
    obtain ⟨i, q⟩ := q
    obtain ⟨ys, e2⟩ := sl.lst i b q
    rw [e2] at e; cases e)⟩⟩
  · obtain ⟨v, e1, r⟩ := p0.at_ i d e
    exact ⟨v, e1, r.keep wk.fx fun b q o e => by
      show wkH F z (prvOf F z s1 x) H s b = some o
      rw [wkH_R (z := z) ⟨i, q⟩]
      exact e⟩
  · obtain ⟨i, q⟩ := q.elim (fun q : Em b => q.elim) id
    obtain ⟨xs, e⟩ := sl.lst i b q
    exact ⟨_, by
      show wkH F z (prvOf F z s1 x) H s b = some _
      rw [wkH_R (z := z) ⟨i, q⟩]
      exact e⟩
  · obtain ⟨i, q⟩ := q.elim (fun q : Em b => q.elim) id
    obtain ⟨o, e⟩ := sl.prv_some (x := x) (.inl ⟨i, q⟩)
    show Hf b = none
    cases q2 : Hf b with
    | none => rfl
    | some u =>
      have := wk.hx b u q2
      rw [hnone b o e] at this; cases this
end
end DL

/-! DL165: what a turn of a generator leaves to the others. -/
namespace DL
open PySem L2 PyProof.Rows

section
variable {ca : Nat → Addr} {F : GF} {z z3 : GZ} {s s1 s' s2 : Shared} {x y : GenState} {A : Around} {Hf H : Hp} {P3 : Rg} {pp : Prop} {R3 : Nat → Rg}
noncomputable abbrev wkZ (F : GF) (z : GZ) (s1 : Shared) (x : GenState) (Hf H : Hp) (s : Shared) : GZ := ⟨Hf, wkH F z (prvOf F z s1 x) H s, z.R, z.σ, z.st, z.W.at (some (wkS F s))⟩
theorem slH_R {G : Prv} {H1 : Hp} {b : Addr} (h : ∃ i, R3 i b) : slH R3 G H s H1 b = none := by unfold slH; exact if_pos h
theorem slH_f {G : Prv} {H1 : Hp} {b : Addr} (h : G.obj b = none ∧ H b = none ∧ (s.heap.get? b).isSome = true) : slH R3 G H s H1 b = none := by
  unfold slH
  by_cases k : ∃ i, R3 i b
  · exact if_pos k
  · rw [if_neg k, if_pos h]
theorem slH_o {G : Prv} {H1 : Hp} {b : Addr} (h : ¬ ∃ i, R3 i b) (h2 : ¬ (G.obj b = none ∧ H b = none ∧ (s.heap.get? b).isSome = true)) : slH R3 G H s H1 b = H1 b := by
  unfold slH
  rw [if_neg h, if_neg h2]
theorem slH_none {G : Prv} {H1 : Hp} {b : Addr} (h : H1 b = none) : slH R3 G H s H1 b = none := by
  unfold slH
  split
  · rfl
  · split
    · rfl
    · exact h
theorem slH_some {G : Prv} {H1 : Hp} {b : Addr} {u : HO} (h : slH R3 G H s H1 b = some u) : (¬ ∃ i, R3 i b) ∧ ¬ (G.obj b = none ∧ H b = none ∧ (s.heap.get? b).isSome = true) ∧ H1 b = some u := by
  unfold slH at h
  split at h
  · cases h
  · rename_i q1
    split at h
    · cases h
    · rename_i q2
      exact ⟨q1, q2, h⟩
/-- all that follows from a turn -/
structure Asl (ca : Nat → Addr) (F : GF) (z z3 : GZ) (s1 s s' : Shared) (x : GenState) (A : Around) (Hf H : Hp) (P3 : Rg) (pp : Prop) : Prop where
  sl : Slp ca F z s1
  wk : Wk F.P F.w F.K F.mg F.base F.outer (F.k + 2) F.os z.Hf (prvOf F z s1 x) A s Hf H
  gi : GInv ca F A.in1 z3 P3 pp s'
  tr : GZ.tr (wkZ F z s1 x Hf H s) P3 z3
  hm : HM s.heap s'.heap
section
variable (q : Asl ca F z z3 s1 s s' x A Hf H P3 pp)
include q
theorem Asl.inv : ∃ s0, s0.heap = (wkS F s).heap ∧ s0.os = F.os ∧ s0.heap.objs.size = F.env.locals ∧ Inv (F.cx A.in1 s0) [] z3.σ z3.H s' ∧ Held (F.cx A.in1 s0) [] z3.H z3.W s' := by
  obtain ⟨s0, h1, I, hd⟩ := q.gi.cx
  refine ⟨s0, ?_, hd.os F.os q.gi.hold.os, h1, I, hd⟩
  have := hd.s0 (wkS F s) q.tr.s0
  rw [← this]
  rfl
theorem Asl.pnone {b : Addr} {o : Obj} (e : (prvOf F z s1 x).obj b = some o) : H b = none := (q.wk.obj b o e).2.1
theorem Asl.gnone {b : Addr} {u : HO} (e : H b = some u) : (prvOf F z s1 x).obj b = none := by
  cases h : (prvOf F z s1 x).obj b with
  | none => rfl
  | some o => rw [q.pnone h] at e; cases e
theorem Asl.rprv {b : Addr} (h : ∃ i, z.R i b) : ∃ o, (prvOf F z s1 x).obj b = some o := q.sl.prv_some (.inl h)
/-- what the others knew is known still -/
theorem Asl.keep {b : Addr} {u : HO} (e : H b = some u) : z3.H b = some u := by
  have nR : ¬ ∃ i, z.R i b := fun h => by
    obtain ⟨o, e2⟩ := q.rprv h
    rw [q.pnone e2] at e; cases e
  refine q.tr.t.keep b u (wkH_H nR (q.gnone e) e) fun h => ?_
  rcases h with h | h
  · exact h
  · exact nR h
/-- what nobody knew is as it was -/
theorem Asl.foreign {b : Addr} {o : Obj} (e1 : (prvOf F z s1 x).obj b = none) (e2 : H b = none) (e3 : s.heap.get? b = some o) (k : ¬ ((F.base.get? b).isSome = true ∨ b ∈ frs F.outer)) : z3.H b = some (PO b o) ∧ s'.heap.get? b = some o := by
  have nR : ¬ ∃ i, z.R i b := fun h => by
    obtain ⟨o, e⟩ := q.rprv h
    rw [e1] at e; cases e
  obtain ⟨s0, _, _, _, I, _⟩ := q.inv
  have h := q.tr.t.keep b _ (wkH_f nR e1 e2 k e3) fun h => h.elim (fun h => h) nR
  exact ⟨h, (I.hok b _ h).1⟩
theorem Asl.base {b : Addr} {o : Obj} (e : F.base.get? b = some o) : s'.heap.get? b = some o ∧ z3.H b = none := by
  obtain ⟨s0, _, _, _, I, _⟩ := q.inv
  exact I.bs b o e
theorem Asl.fr {b : Addr} (hb : b ∈ frs F.outer) : ∃ o, s.heap.get? b = some o ∧ z3.H b = none ∧ ∃ sl, s'.heap.get? b = some { o with slots := sl } := by
  obtain ⟨s0, h0, _, h1, I, _⟩ := q.inv
  obtain ⟨hn, o, ho, _⟩ := I.ok.funs.mem hb
  have ho : s0.heap.get? b = some o := ho
  rw [h0] at ho
  obtain ⟨_, _, hs⟩ := of_cutH ho
  have hx : b ∉ (F.cx A.in1 s0).ex := fun z => absurd (show b ∈ ([] : List Addr) from z) (by simp)
  obtain ⟨sl, e⟩ := I.base.slot b o (by show s0.heap.get? b = some o; rw [h0]; exact ho) rfl hb hx
  exact ⟨o, hs, I.base.free b o (by show s0.heap.get? b = some o; rw [h0]; exact ho) rfl hx, sl, e⟩
theorem Asl.woke (hl : ∀ i b, R3 i b → z3.R i b ∧ isLstH z3.H b) (e1 : s2.heap = s'.heap) (e2 : s2.os = s'.os) (e3 : AllBare s2.gens) : ∃ ex, Woke F.P F.w F.outer (prvOf F z s1 x) s Hf H s2 z3.Hf (slH R3 (prvOf F z s1 x) H s z3.H) P3 ex := by
  obtain ⟨s0, h0, hos, h1, I, hd⟩ := q.inv
  have w3 := q.gi.pr.w
  -- what the others knew lies in none of its regions
  have nR3 : ∀ b u, H b = some u → ¬ ∃ i, R3 i b := fun b u e ⟨i, h⟩ => by
    rcases q.tr.t.nw b (.inr ⟨i, (hl i b h).1⟩) with z' | z'
    · rcases z' with z' | z'
      · exact z'
      · obtain ⟨o, e4⟩ := q.rprv z'
        rw [q.pnone e4] at e; cases e
    · have nR : ¬ ∃ i, z.R i b := fun h => by
        obtain ⟨o, e4⟩ := q.rprv h
        rw [q.pnone e4] at e; cases e
      have := wkH_H (F := F) (s := s) nR (q.gnone e) e
      rw [show (wkZ F z s1 x Hf H s).H b = wkH F z (prvOf F z s1 x) H s b from rfl, this] at z'
      cases z'
  have keepc : ∀ b u, H b = some u → slH R3 (prvOf F z s1 x) H s z3.H b = some u := fun b u e => by
    rw [slH_o (nR3 b u e) fun h => by rw [h.2.1] at e; cases e]
    exact q.keep e
  -- what is of no list and not foreign is known to the others
  have pass : ∀ b u, z3.H b = some u → (∀ xs, u ≠ .lst xs) → (∀ o, u ≠ PO b o) → slH R3 (prvOf F z s1 x) H s z3.H b = some u := fun b u e n1 n2 => by
    have m1 : ¬ ∃ i, R3 i b := fun ⟨i, h⟩ => by
      obtain ⟨xs, e5⟩ := (hl i b h).2
      rw [e] at e5
      cases e5
      exact n1 xs rfl
    rw [slH_o m1 fun h => ?_]
    · exact e
    · obtain ⟨o, eo⟩ := Option.isSome_iff_exists.mp h.2.2
      by_cases k : (F.base.get? b).isSome = true ∨ b ∈ frs F.outer
      · rcases k with k | k
        · obtain ⟨o', k⟩ := Option.isSome_iff_exists.mp k
          have := (q.base k).2
          rw [e] at this; cases this
        · obtain ⟨_, _, k, _⟩ := q.fr k
          rw [e] at k; cases k
      · have := (q.foreign h.1 h.2.1 eo k).1
        rw [e] at this
        cases this
        exact n2 o rfl
  obtain ⟨ex, hex⟩ : ∃ ex : List Addr, ex = (List.range s.heap.objs.size).filter fun b => ((prvOf F z s1 x).obj b).isSome := ⟨_, rfl⟩
  have exo : ∀ b ∈ ex, ∃ o, (prvOf F z s1 x).obj b = some o := fun b hb => by
    rw [hex] at hb
    exact Option.isSome_iff_exists.mp (List.mem_filter.mp hb).2
  have exi : ∀ b o, s.heap.get? b = some o → b ∉ ex → (prvOf F z s1 x).obj b = none := fun b o e n => by
    cases h : (prvOf F z s1 x).obj b with
    | none => rfl
    | some o' => exact absurd (by rw [hex]; exact List.mem_filter.mpr ⟨List.mem_range.mpr (Heap.lt_size e), by rw [h]; rfl⟩) n
  refine ⟨ex, ⟨?_, e3, exo, ⟨fun b o e n hf hx => ?_, fun b o e n hf hx => ?_, fun b o e n hx => ?_, fun b o e hx => ?_, fun b xs e => keepc _ _ e, fun b o u e => keepc _ _ e, fun b ps e => ⟨#[], by rw [keepc _ _ e]; simp⟩⟩, fun b u e => ?_, ⟨q.tr.t.fx, fun b u e _ => keepc _ _ e, fun b h => ?_, fun b u e => ?_⟩, ⟨fun b u e => ?_, fun b h => ?_, fun b h => ?_, fun b xs e => w3.tp b xs (slH_some e).2.2⟩⟩⟩
  · rw [e2, I.os, q.wk.os]; exact hos
  · rw [e1]
    by_cases k : (F.base.get? b).isSome = true ∨ b ∈ frs F.outer
    · rcases k with k | k
      · obtain ⟨o', k⟩ := Option.isSome_iff_exists.mp k
        have e5 := (q.wk.env.bs b o' k).1
        rw [e] at e5
        cases e5
        exact (q.base k).1
      · exact absurd k hf
    · exact (q.foreign (exi b o e hx) n e k).2
  · rw [e1]
    obtain ⟨o', e5, _, sl, e6⟩ := q.fr hf
    rw [e] at e5
    cases e5
    exact ⟨sl, e6⟩
  · exact slH_f ⟨exi b o e hx, n, by rw [e]; rfl⟩
  · rw [e1]
    cases h : H b with
    | some u => exact objOk_alive (I.hok b u (q.keep h))
    | none =>
      by_cases k : (F.base.get? b).isSome = true ∨ b ∈ frs F.outer
      · rcases k with k | k
        · obtain ⟨o', k⟩ := Option.isSome_iff_exists.mp k
          exact ⟨_, (q.base k).1⟩
        · obtain ⟨_, _, _, sl, e6⟩ := q.fr k
          exact ⟨_, e6⟩
      · exact ⟨_, (q.foreign (exi b o e hx) h e k).2⟩
  · obtain ⟨n1, n2, e5⟩ := slH_some e
    rw [e1]
    exact (I.hok b u e5).stay (fun _ _ _ z => z) (fun c z => pass c _ z (fun _ z => nomatch z) fun _ z => nomatch z) fun c xs z => pass c _ z (fun _ z => nomatch z) fun _ z => nomatch z
  · refine .inr ?_
    rcases q.tr.t.nw b (.inl h) with z' | z'
    · rcases z' with z' | z'
      · exact z'.elim
      · obtain ⟨o, e4⟩ := q.rprv z'
        exact q.pnone e4
    · cases e5 : H b with
      | none => rfl
      | some u =>
        have nR : ¬ ∃ i, z.R i b := fun h => by
          obtain ⟨o, e4⟩ := q.rprv h
          rw [q.pnone e4] at e5; cases e5
        have := wkH_H (F := F) (s := s) nR (q.gnone e5) e5
        rw [show (wkZ F z s1 x Hf H s).H b = wkH F z (prvOf F z s1 x) H s b from rfl, this] at z'
        cases z'
  · rcases q.tr.t.fz b u e with z' | z' | z'
    · exact .inl z'
    · rcases z' with z' | z'
      · exact z'.elim
      · obtain ⟨o, e4⟩ := q.rprv z'
        exact .inr (.inr (q.pnone e4))
    · cases e5 : H b with
      | none => exact .inr (.inr rfl)
      | some u =>
        have nR : ¬ ∃ i, z.R i b := fun h => by
          obtain ⟨o, e4⟩ := q.rprv h
          rw [q.pnone e4] at e5; cases e5
        have := wkH_H (F := F) (s := s) nR (q.gnone e5) e5
        rw [show (wkZ F z s1 x Hf H s).H b = wkH F z (prvOf F z s1 x) H s b from rfl, this] at z'
        cases z'
  · have h3 := w3.ex b u e
    have m1 : ¬ ∃ i, R3 i b := fun ⟨i, h⟩ => by
      have := w3.nf b (.inr ⟨i, (hl i b h).1⟩)
      rw [e] at this; cases this
    rw [slH_o m1 fun h => ?_]
    · exact h3
    · rcases q.tr.t.fz b u e with z' | z' | z'
      · have := q.wk.hx b u z'
        rw [h.2.1] at this; cases this
      · rcases z' with z' | z'
        · exact z'
        · obtain ⟨o, e4⟩ := q.rprv z'
          rw [h.1] at e4; cases e4
      · obtain ⟨o, eo⟩ := Option.isSome_iff_exists.mp h.2.2
        have nR : ¬ ∃ i, z.R i b := fun h' => by
          obtain ⟨o, e4⟩ := q.rprv h'
          rw [h.1] at e4; cases e4
        by_cases k : (F.base.get? b).isSome = true ∨ b ∈ frs F.outer
        · rcases k with k | k
          · obtain ⟨o', k⟩ := Option.isSome_iff_exists.mp k
            have := (q.base k).2
            rw [h3] at this; cases this
          · obtain ⟨_, _, k, _⟩ := q.fr k
            rw [h3] at k; cases k
        · have := wkH_f nR h.1 h.2.1 k eo
          rw [show (wkZ F z s1 x Hf H s).H b = wkH F z (prvOf F z s1 x) H s b from rfl, this] at z'
          cases z'
  · obtain ⟨u, e⟩ := w3.dm b (.inl h)
    refine ⟨u, ?_⟩
    have m1 : ¬ ∃ i, R3 i b := fun ⟨i, h'⟩ => q.gi.pr.dp i b h (hl i b h').1
    rw [slH_o m1 fun h' => ?_]
    · exact e
    · rcases q.tr.t.nw b (.inl h) with z' | z'
      · rcases z' with z' | z'
        · exact z'
        · obtain ⟨o, e4⟩ := q.rprv z'
          rw [h'.1] at e4; cases e4
      · obtain ⟨o, eo⟩ := Option.isSome_iff_exists.mp h'.2.2
        have nR : ¬ ∃ i, z.R i b := fun h2 => by
          obtain ⟨o, e4⟩ := q.rprv h2
          rw [h'.1] at e4; cases e4
        by_cases k : (F.base.get? b).isSome = true ∨ b ∈ frs F.outer
        · rcases k with k | k
          · obtain ⟨o', k⟩ := Option.isSome_iff_exists.mp k
            have := (q.base k).2
            rw [e] at this; cases this
          · obtain ⟨_, _, k, _⟩ := q.fr k
            rw [e] at k; cases k
        · have := wkH_f nR h'.1 h'.2.1 k eo
          rw [show (wkZ F z s1 x Hf H s).H b = wkH F z (prvOf F z s1 x) H s b from rfl, this] at z'
          cases z'
  · exact w3.nf b (.inl h)
/-- a place that lived and was not private is known to it, or a private thing of others -/
theorem Asl.alive {b : Addr} {o : Obj} (e : s.heap.get? b = some o) (n : (prvOf F z s1 x).obj b = none) (h1 : z3.H b = none ∨ isLstH z3.H b) : (∃ u, H b = some u ∧ z3.H b = some u) ∨ (F.base.get? b).isSome = true ∨ b ∈ frs F.outer := by
  cases h : H b with
  | some u => exact .inl ⟨u, rfl, q.keep h⟩
  | none =>
    refine .inr (Classical.byContradiction fun k => ?_)
    have := (q.foreign n h e k).1
    rcases h1 with h1 | ⟨xs, h1⟩
    · rw [h1] at this; cases this
    · rw [h1] at this; cases this
theorem Asl.slp (hok : okSl z3.st = true) : Slp ca F { z3 with R := fun i b => z3.R i b ∧ isLstH z3.H b } s' := by
  obtain ⟨s0, h1, I, hd⟩ := q.gi.cx
  exact ⟨⟨A.in1, s0, h1, I, hd⟩, q.gi.pr.drop.shrink hok, fun i b h => h.2, q.sl.frame, q.gi.hold, q.sl.go⟩
theorem Asl.anew (hok : okSl z3.st = true) (hy : Susp y ∧ NGS y) : Anew (prvOf F z s1 x) (prvOf F { z3 with R := fun i b => z3.R i b ∧ isLstH z3.H b } s' y) s (s'.setGen F.g y) (slH (fun i b => z3.R i b ∧ isLstH z3.H b) (prvOf F z s1 x) H s z3.H) := by
  obtain ⟨s0, h0, hos, h1, I, hd⟩ := q.inv
  have sl3 := q.slp hok
  have frz : ∀ b ∈ frs F.outer, z3.H b = none := fun b hb => let ⟨_, _, h, _⟩ := q.fr hb; h
  refine ⟨fun b o e => ?_, fun i x' e => ?_, fun i h => h, rfl, rfl⟩
  · have e' := e
    by_cases h : isPrv F { z3 with R := fun i b => z3.R i b ∧ isLstH z3.H b } b
    · rw [prv_in h] at e
      have young : (¬ ∃ o', (prvOf F z s1 x).obj b = some o') → s.heap.objs.size ≤ b := fun nn => by
        have nn' : (prvOf F z s1 x).obj b = none := by
          cases k : (prvOf F z s1 x).obj b with
          | none => rfl
          | some o' => exact absurd ⟨o', k⟩ nn
        refine Classical.byContradiction fun hlt => ?_
        have hlt : b < s.heap.objs.size := Nat.lt_of_not_le hlt
        cases es : s.heap.get? b with
        | none =>
          have := q.hm.dead b hlt es
          rw [e] at this; cases this
        | some o0 =>
          rcases h with ⟨i, hR, hL⟩ | h | ⟨y', h⟩
          · obtain ⟨xs, eL⟩ := hL
            rcases q.alive es nn' (.inr ⟨xs, eL⟩) with ⟨u, k1, k2⟩ | k | k
            · rcases q.tr.t.nw b (.inr ⟨i, hR⟩) with z' | z'
              · rcases z' with z' | z'
                · exact z'
                · obtain ⟨o4, e4⟩ := q.rprv z'
                  exact nn ⟨o4, e4⟩
              · have nR : ¬ ∃ i, z.R i b := fun h => by
                  obtain ⟨o4, e4⟩ := q.rprv h
                  exact nn ⟨o4, e4⟩
                have := wkH_H (F := F) (s := s) nR nn' k1
                rw [show (wkZ F z s1 x Hf H s).H b = wkH F z (prvOf F z s1 x) H s b from rfl, this] at z'
                cases z'
            · obtain ⟨o', k⟩ := Option.isSome_iff_exists.mp k
              have := (q.base k).2
              rw [eL] at this; cases this
            · have := frz b k
              rw [eL] at this; cases this
          · exact nn (q.sl.prv_some (.inr (.inl h)))
          · exact nn (q.sl.prv_some (.inr (.inr ⟨y', h⟩)))
      refine ⟨e, ?_, Classical.byContradiction fun nn => nn (.inr (young fun k => nn (.inl k)))⟩
      rcases h with h | h | ⟨y', h⟩
      · exact slH_R h
      · rw [h]; exact slH_none I.free
      · exact slH_none (I.freeC y' b h)
    · rw [prv_out h] at e
      obtain ⟨k1, k2, k3, k4, k5, _⟩ := hd.obj b o e
      refine ⟨k1, slH_none k2, Classical.byContradiction fun nn => ?_⟩
      have nn' : (prvOf F z s1 x).obj b = none := by
        cases k : (prvOf F z s1 x).obj b with
        | none => rfl
        | some o' => exact absurd (.inl ⟨o', k⟩) nn
      have hlt : b < s.heap.objs.size := Nat.lt_of_not_le fun k => nn (.inr k)
      cases es : s.heap.get? b with
      | none =>
        have := q.hm.dead b hlt es
        rw [k1] at this; cases this
      | some o0 =>
        rcases q.alive es nn' (.inl k2) with ⟨u, _, k⟩ | k | k
        · rw [k2] at k; cases k
        · obtain ⟨o', k⟩ := Option.isSome_iff_exists.mp k
          rcases k5 with k5 | k5
          · exact absurd (show b ∈ ([] : List Addr) from k5) (by simp)
          · have k5 : s0.heap.objs.size ≤ b := k5
            rw [h1] at k5
            exact absurd (Nat.lt_of_lt_of_le (Heap.lt_size k) (Nat.le_trans q.sl.basez k5)) (Nat.lt_irrefl _)
        · exact k4 k
  · have hrun := hd.run F.g q.gi.hold.run.1
    obtain ⟨hi, _⟩ := Array.getElem?_eq_some_iff.mp hrun
    by_cases h : i = F.g
    · subst h
      rw [prv_g] at e
      cases e
      exact ⟨by
        show (s'.gens.setIfInBounds F.g y)[F.g]? = some y
        rw [Array.getElem?_setIfInBounds_self_of_lt hi], hy⟩
    · rw [prv_ne h] at e
      obtain ⟨k1, k2⟩ := hd.gen i x' e
      exact ⟨by
        show (s'.gens.setIfInBounds F.g y)[i]? = some x'
        rw [Array.getElem?_setIfInBounds_ne (Ne.symm h)]
        exact k1, k2⟩
theorem Asl.p3 {b : Addr} (h : P3 b) (hl : ∀ i b, R3 i b → z3.R i b ∧ isLstH z3.H b) : slH R3 (prvOf F z s1 x) H s z3.H b = z3.H b := by
  have m1 : ¬ ∃ i, R3 i b := fun ⟨i, h'⟩ => q.gi.pr.dp i b h (hl i b h').1
  obtain ⟨u, e⟩ := q.gi.pr.w.dm b (.inl h)
  refine slH_o m1 fun h' => ?_
  rcases q.tr.t.nw b (.inl h) with z' | z'
  · rcases z' with z' | z'
    · exact z'
    · obtain ⟨o, e4⟩ := q.rprv z'
      rw [h'.1] at e4; cases e4
  · obtain ⟨o, eo⟩ := Option.isSome_iff_exists.mp h'.2.2
    have nR : ¬ ∃ i, z.R i b := fun h2 => by
      obtain ⟨o, e4⟩ := q.rprv h2
      rw [h'.1] at e4; cases e4
    by_cases k : (F.base.get? b).isSome = true ∨ b ∈ frs F.outer
    · rcases k with k | k
      · obtain ⟨o', k⟩ := Option.isSome_iff_exists.mp k
        have := (q.base k).2
        rw [e] at this; cases this
      · obtain ⟨_, _, k, _⟩ := q.fr k
        rw [e] at k; cases k
    · have := wkH_f nR h'.1 h'.2.1 k eo
      rw [show (wkZ F z s1 x Hf H s).H b = wkH F z (prvOf F z s1 x) H s b from rfl, this] at z'
      cases z'
end
theorem Woke.kept {G : Prv} {s s1 s2 : Shared} {Hf H Hf1 H1 : Hp} {P : Program} {w : World} {outer : List Env} {Q : Rg} {ex : List Addr} (x : Woke P w outer G s Hf H s1 Hf1 H1 Q ex) (k : ∀ b o, s1.heap.get? b = some o → s2.heap.get? b = some o) (h1 : s2.os = s1.os) (h2 : AllBare s2.gens) : Woke P w outer G s Hf H s2 Hf1 H1 Q ex :=
  ⟨h1.trans x.os, h2, x.exs, x.un.trans (Un.kept k), x.hok.kept k, x.tr, x.w⟩
theorem quiet_of {u : Value} {l : List Value} {k : Resume → Sem PySem.Fin} {c : Code} {p : Pos} {fs : List Frame} (h : fs.any Frame.guarded = false) : (End.susp u false l k c p fs).quiet = true := by simp [End.quiet, h]
theorem gen_st : ∀ (ds : List D) (z : GZ) (s1 : Shared) (x : GenState) (c0 : Code) (t0 : Sem PySem.Fin) (fs0 : List Frame), Slp ca F z s1 → ((x = .fresh c0 ∧ t0 = (model F.P F.w).den c0 ∧ fs0 = []) ∨ ∃ k l p, x = .suspended k l c0 p fs0 false ∧ t0 = k (.send .none)) →
    (∀ (A2 : Around) (s2 : Shared) (z2 : GZ), z2.st = z.st → Prv.Same z2.W z.W → GInv ca F A2 z2 Em True s2 → Ex z.Hf z2.Hf → ∀ Φ', GAcc ca F ds A2 z2 Φ' → Sg (model F.P F.w) A2 Φ' c0 t0 fs0 s2) →
    GenSt ca F.P F.w F.K F.mg F.base F.outer (F.k + 2) F.os F.a ds z.Hf (prvOf F z s1 x) := by
  have enter : ∀ {z : GZ} {s1 s : Shared} {x : GenState} {c0 : Code} {t0 : Sem PySem.Fin} {fs0 : List Frame} {A : Around} {Hf H : Hp} {Φ : End → Shared → Prop} {Q : Option Value → Shared → Prop} {E : Value → Shared → Prop}, Slp ca F z s1 → ((x = .fresh c0 ∧ t0 = (model F.P F.w).den c0 ∧ fs0 = []) ∨ ∃ k l p, x = .suspended k l c0 p fs0 false ∧ t0 = k (.send .none)) →
      Wk F.P F.w F.K F.mg F.base F.outer (F.k + 2) F.os z.Hf (prvOf F z s1 x) A s Hf H → Sg (model F.P F.w) A.in1 Φ c0 t0 fs0 (s.setGen F.g .running) → (∀ e s', Φ e s' → e.quiet = true) →
      (∀ r s', Φ (.ret r) s' → r = .ok (.ret .none) ∧ ∀ h', (∀ b o, s'.heap.get? b = some o → h'.get? b = some o) → ∀ e, StopX e h' → E e { s'.setGen F.g .finished with heap := h' }) → (∀ v g0 l0 k0 c0 p0 f0 s', Φ (.susp v g0 l0 k0 c0 p0 f0) s' → Q (some v) (s'.setGen F.g (End.susp v g0 l0 k0 c0 p0 f0).genState)) →
      wpAny (model F.P F.w) A (callSpecial? (.ref F.a) "__next__") Q E s := fun {z s1 s x c0 t0 fs0 A Hf H Φ Q E} sl hx wk hsg hq hR hY => by
    have hprv := (sl.prv_w (x := x) sl.hold.obj).2
    have hg : s.heap.IsGen F.a F.g := sl.go.is (wk.obj _ _ hprv).1
    have hgs : s.gens[F.g]? = some x := (wk.gen F.g x prv_g).1
    have hl : s.heap.NoLimit := wk.env.mod.nolimit.keeps fun b o e => (wk.env.bs b o e).1
    have hh : A.handled = none := wk.room.2.hd
    have hdep := wk.room.in1.2.depth
    refine wpAny_callSpecial?_slot (name := Str.ofString "__next__") hg.typeIs slot_gen_next (wpAny_call_entry slot_gen_next hg.typeIs entry_gen_next ?_ (args_gen_next _))
    show wpAny _ A.in1 (Builtin.Generator.genWake (.ref F.a) (.send .none)) _ _ s
    unfold Builtin.Generator.genWake
    refine wpAny_bind (wpAny_holding (wpAny_genNumber hg (wpAny_bind (wpAny_genState hgs ?_))))
    have fin : ∀ {k : GenResult → Sem PySem.Fin} {Q' : PySem.Fin → Shared → Prop}, (∀ r s', Φ (.ret r) s' → wpAny (model F.P F.w) A.in1 (k (.returned .none)) Q' E (s'.setGen F.g .finished)) → (∀ v g0 l0 k0 c0 p0 f0 s', Φ (.susp v g0 l0 k0 c0 p0 f0) s' → wpAny (model F.P F.w) A.in1 (k (.yielded v)) Q' E (s'.setGen F.g (End.susp v g0 l0 k0 c0 p0 f0).genState)) →
        wpAny (model F.P F.w) A.in1 (.resume F.g (.send .none) [] k) Q' E s := fun {k Q'} h1 h2 => by
      refine wpAny_resumeS (Φ := Φ) ⟨x, hgs, ?_⟩ hq (fun r s' hr => ?_) h2
      · rcases hx with ⟨e1, e2, e3⟩ | ⟨k, l, p, e1, e2⟩
        · refine .inl ⟨c0, e1, rfl, ?_⟩
          rw [← e2, ← e3]
          exact hsg
        · refine .inr ⟨k, l, c0, p, fs0, false, e1, ?_⟩
          rw [← e2]
          exact hsg
      · obtain ⟨e1, _⟩ := hR r s' hr
        subst e1
        exact h1 _ s' hr
    rcases hx with ⟨e1, e2, e3⟩ | ⟨k, l, p, e1, e2⟩
    · subst e1
      refine wpAny_bind (wpAny_roomToWake hl hdep ?_)
      show wpAny _ A.in1 (.resume F.g (.send .none) [] _) _ _ s
      refine fin (fun r s' hr => ?_) fun v g0 l0 k0 c0 p0 f0 s' hv => ?_
      · obtain ⟨_, h2⟩ := hR r s' hr
        show wpAny _ A.in1 (newExc (.type "StopIteration") [] >>= _) _ _ _
        refine wpAny_bind ?_
        simp only [newExc, newTuple]
        refine wpAny_bind (wpAny_newObj_type ?_ (by size_fits))
        refine wpAny_bind (m := firstArgMember _ _) (wpAny_of_eq (a := Value.none) (by first | rfl | (simp only [firstArgMember]; rfl)) ?_)
        refine wpAny_newObj_type ?_ (by size_fits)
        simp only [raiseNew]
        refine wpAny_bind (wpAny_bind (wpAny_handled ?_))
        first | rw [show A.in1.handled = none from hh] | rw [hh]
        refine wpAny_throw ?_
        exact h2 _ (fun b o e => Heap.get?_push_of_some _ (Heap.get?_push_of_some _ e)) _ ⟨_, _, _, rfl, Heap.get?_push_size _ rfl, rfl, rfl, rfl⟩
      · exact wpAny_pure ⟨v, rfl, hY v g0 l0 k0 c0 p0 f0 s' hv⟩
    · subst e1
      refine wpAny_bind (wpAny_roomToWake hl hdep ?_)
      show wpAny _ A.in1 (.resume F.g (.send .none) [] _) _ _ s
      refine fin (fun r s' hr => ?_) fun v g0 l0 k0 c0 p0 f0 s' hv => ?_
      · obtain ⟨_, h2⟩ := hR r s' hr
        show wpAny _ A.in1 (newExc (.type "StopIteration") [] >>= _) _ _ _
        refine wpAny_bind ?_
        simp only [newExc, newTuple]
        refine wpAny_bind (wpAny_newObj_type ?_ (by size_fits))
        refine wpAny_bind (m := firstArgMember _ _) (wpAny_of_eq (a := Value.none) (by first | rfl | (simp only [firstArgMember]; rfl)) ?_)
        refine wpAny_newObj_type ?_ (by size_fits)
        simp only [raiseNew]
        refine wpAny_bind (wpAny_bind (wpAny_handled ?_))
        first | rw [show A.in1.handled = none from hh] | rw [hh]
        refine wpAny_throw ?_
        exact h2 _ (fun b o e => Heap.get?_push_of_some _ (Heap.get?_push_of_some _ e)) _ ⟨_, _, _, rfl, Heap.get?_push_size _ rfl, rfl, rfl, rfl⟩
      · exact wpAny_pure ⟨v, rfl, hY v g0 l0 k0 c0 p0 f0 s' hv⟩
  intro ds
  induction ds with
  | nil =>
    intro z s1 x c0 t0 fs0 sl hx cont A s Hf H wk
    refine enter sl hx wk (Φ := fun e s' => (∃ z3, GInv ca F A.in1 z3 Em True s' ∧ GZ.tr (wkZ F z s1 x Hf H s) Em z3 ∧ HM s.heap s'.heap) ∧ e = .ret (.ok (.ret .none))) ((cont A.in1 (s.setGen F.g .running) (wkZ F z s1 x Hf H s) rfl Prv.Same.at (wake_inv sl wk) wk.fx (fun e s' => (∃ z3, GInv ca F A.in1 z3 Em True s' ∧ GZ.tr (wkZ F z s1 x Hf H s) Em z3) ∧ e = .ret (.ok (.ret .none))) fun s' z3 g t => ⟨⟨z3, g, t⟩, rfl⟩).imp fun e s' hm ⟨⟨z3, g, t⟩, e1⟩ => ⟨⟨z3, g, t, hm⟩, e1⟩) (fun e s' ⟨_, e1⟩ => by rw [e1]; rfl) (fun r s' ⟨⟨z3, g, t, hm⟩, e1⟩ => ?_) fun v g0 l0 k0 c1 p0 f0 s' ⟨_, e1⟩ => (nomatch e1)
    cases e1
    refine ⟨rfl, fun h' k e he => ⟨he, ?_⟩⟩
    have q : Asl ca F z z3 s1 s s' x A Hf H Em True := ⟨sl, wk, g, t, hm⟩
    obtain ⟨ex, wo⟩ := q.woke (R3 := fun _ _ => False) (s2 := s') (fun _ _ z => z.elim) rfl rfl (by obtain ⟨_, _, I, _⟩ := g.cx; exact I.bare)
    exact ⟨_, _, ex, wo.kept k rfl (by obtain ⟨_, _, I, _⟩ := g.cx; exact allBare_setGen I.bare rfl)⟩
  | cons d ds ih =>
    intro z s1 x c0 t0 fs0 sl hx cont A s Hf H wk
    let Φ0 : End → Shared → Prop := fun e s' => ∃ (z3 : GZ) (P3 : Rg) (v : V) (u : Value) (k' : Resume → Sem PySem.Fin) (c' : Code) (p' : Pos) (fs' : List Frame), GInv ca F A.in1 z3 P3 (Rep ca F.K z3.Hf z3.H P3 v d) s' ∧ GZ.tr (wkZ F z s1 x Hf H s) P3 z3 ∧ RelV v u ∧ NG fs' ∧ fs'.any Frame.guarded = false ∧ okSl z3.st = true ∧
      (∀ (A2 : Around) (s2 : Shared) (z2 : GZ), z2.st = z3.st → Prv.Same z2.W z3.W → GInv ca F A2 z2 Em True s2 → Ex z3.Hf z2.Hf → ∀ Φ', GAcc ca F ds A2 z2 Φ' → Sg (model F.P F.w) A2 Φ' c' (k' (.send .none)) fs' s2) ∧ e = .susp u false [] k' c' p' fs'
    refine enter sl hx wk (Φ := fun e s' => Φ0 e s' ∧ HM s.heap s'.heap) ((cont A.in1 (s.setGen F.g .running) (wkZ F z s1 x Hf H s) rfl Prv.Same.at (wake_inv sl wk) wk.fx Φ0 fun s' z3 P3 v u k' c' p' fs' g t rv ng gu hok ct => ⟨z3, P3, v, u, k', c', p', fs', g, t, rv, ng, gu, hok, ct, rfl⟩).imp fun e s' hm h => ⟨h, hm⟩)
      (fun e s' ⟨⟨_, _, _, _, _, _, _, _, _, _, _, _, gu, _, _, e1⟩, _⟩ => by rw [e1]; exact quiet_of gu) (fun r s' ⟨⟨_, _, _, _, _, _, _, _, _, _, _, _, _, _, _, e1⟩, _⟩ => (nomatch e1)) fun v0 g0 l0 k0 c1 p0 f0 s' ⟨⟨z3, P3, v, u, k', c', p', fs', g, t, rv, ng, gu, hok, ct, e1⟩, hm⟩ => ?_
    cases e1
    have q : Asl ca F z z3 s1 s s' x A Hf H P3 (Rep ca F.K z3.Hf z3.H P3 v d) := ⟨sl, wk, g, t, hm⟩
    have hgs : (End.susp v0 false [] k0 c1 p0 f0).genState = .suspended k0 [] c1 p0 f0 false := by
      show GenState.suspended k0 [] c1 p0 f0 (false || f0.any Frame.guarded) = _
      rw [gu]
      rfl
    rw [hgs]
    have hbare : AllBare (s'.setGen F.g (.suspended k0 [] c1 p0 f0 false)).gens := by
      obtain ⟨_, _, I, _⟩ := g.cx
      exact allBare_setGen I.bare rfl
    obtain ⟨ex, wo⟩ := q.woke (R3 := fun i b => z3.R i b ∧ isLstH z3.H b) (s2 := s'.setGen F.g (.suspended k0 [] c1 p0 f0 false)) (fun _ _ z => z) rfl rfl hbare
    have an := q.anew (y := .suspended k0 [] c1 p0 f0 false) hok ⟨⟨_, _, _, _, _, rfl⟩, ng⟩
    have sl3 := q.slp hok
    refine ⟨v0, v, z3.Hf, _, P3, _, ex, rfl, rv, wo, g.pr.pend.keep (fun _ _ e => e) fun b hb o e => ?_, an, ?_, ih { z3 with R := fun i b => z3.R i b ∧ isLstH z3.H b } s' _ c1 _ f0 sl3 (.inr ⟨k0, [], p0, rfl, rfl⟩) ct⟩
    · rw [q.p3 hb fun _ _ z => z]
      exact e
    · exact ⟨F.go, (sl3.prv_w sl3.hold.obj).2, let ⟨_, _, h, _⟩ := sl.go; h⟩
end
end DL

/-! DL166: a generator def and its calls. -/
namespace DL
open PySem L2 PyProof.Rows

/-- the promise of a generator def: what a call with these data hands out -/
def GnG (ca : Nat → Addr) (P : Program) (w : World) (K : PySem.W.Frag) (mg : Str → Option Value) (base : Heap) (k : Nat) (f : Addr) (m : List D → Option (List D)) : Prop :=
  ∀ (A : Around) (outer : List Env) (s : Shared) (H : Hp) (us : List Value) (vs : List V) (Hf : Hp) (ds ys : List D), RoomG k A → Env0 P w K mg base A outer s H → Vals vs us → RepL ca K Hf H Em vs ds → Ex Hf H → TpH Hf H → m ds = some ys →
    codeAny (model P w) A (.call (.ref f) ⟨us, []⟩) (fun r s' => ∃ (a : Addr) (g : Nat) (G : Prv), r = .ok (.ret (.ref a)) ∧ s'.heap.IsGen a g ∧ s'.os = s.os ∧ AllBare s'.gens ∧ (∀ b o, s.heap.get? b = some o → s'.heap.get? b = some o) ∧ (∀ b o, G.obj b = some o → s'.heap.get? b = some o ∧ s.heap.objs.size ≤ b) ∧
      (∀ (i : Nat) (x : GenState), G.gen i = some x → s'.gens[i]? = some x ∧ NGS x) ∧ IsG G a ∧ GenSt ca P w K mg base outer k s.os a ys Hf G ∧ Fresh G) s
/-- n parameters, w slots -/
def gnM (n w : Nat) (body : GM) : List D → Option (List D) := fun ds => if ds.length = n then (match body (ds.map some ++ List.replicate (w - n) none) with
  | (ys, .next _) => some ys
  | _ => none) else none
def gfOf (P : Program) (w : World) (K : PySem.W.Frag) (mg : Str → Option Value) (base : Heap) (N : List Str) (qual : Str) (scope : Scope) (f : Addr) (cdv : Value) (outer : List Env) (k : Nat) (L : Addr) (a : Addr) (go : Obj) (g : Nat) (os : OsState) : GF :=
  { P := P, w := w, K := K, mg := mg, base := base, N := N, env := envOfC qual scope L f cdv, outer := outer, k := k, a := a, go := go, g := g, os := os }

section
variable {ca : Nat → Addr} {P : Program} {w : World} {K : PySem.W.Frag} {mg : Str → Option Value} {base : Heap}
/-- a context over a cut start -/
theorem inv_cut {F : GF} {A : Around} {s0 s : Shared} {σ : L2.St} {H H0 : Hp} {xe : Value → Shared → Prop} (I : Inv { F.cx A s0 with H_0 := H0, xe := xe } [] σ H s) (hs : s0.heap.objs.size = F.env.locals) : Inv (F.cx A (wkS F s)) [] σ H s := by
  have hx : ∀ b : Addr, b ∉ ({ F.cx A s0 with H_0 := H0, xe := xe } : Cx).ex := fun b z => absurd (show b ∈ ([] : List Addr) from z) (by simp)
  have bz : F.base.objs.size ≤ F.env.locals := by
    have := I.ok.bsz
    rw [show ({ F.cx A s0 with H_0 := H0, xe := xe } : Cx).s_0.heap.objs.size = F.env.locals from hs] at this
    exact this
  have frL : ∀ b ∈ frs F.outer, b < F.env.locals := fun b hb => by
    obtain ⟨_, o, ho, _⟩ := I.ok.funs.mem hb
    have := Heap.lt_size ho
    rw [show ({ F.cx A s0 with H_0 := H0, xe := xe } : Cx).s_0.heap.objs.size = F.env.locals from hs] at this
    exact this
  have frH : ∀ b ∈ frs F.outer, H b = none := fun b hb => by
    obtain ⟨_, o, ho, _⟩ := I.ok.funs.mem hb
    exact I.base.free b o ho (I.ok.frf b hb) (hx b)
  have hn : ∀ b, ((F.base.get? b).isSome || decide (b ∈ frs F.outer)) = true → H b = none := fun b hb => by
    simp only [Bool.or_eq_true, decide_eq_true_eq] at hb
    rcases hb with hb | hb
    · obtain ⟨u, hu⟩ := Option.isSome_iff_exists.mp hb
      exact (I.bs b u hu).2
    · exact frH b hb
  have ws : (wkS F s).heap.objs.size = F.env.locals := cutH_size
  refine ⟨⟨I.ok.mod, I.ok.kind, I.ok.glob, I.ok.blt, Nat.le_of_eq ws, I.ok.inj, I.ok.has, fun y c h1 h2 => ?_, I.ok.hd, I.ok.frames, I.ok.stk, fun b z => absurd (show b ∈ ([] : List Addr) from z) (by simp), fun b o e => ⟨?_, rfl⟩, ?_, fun b _ _ z => absurd (show b ∈ ([] : List Addr) from z) (by simp), fun b z => absurd (show b ∈ ([] : List Addr) from z) (by simp), ?_, fun _ _ => rfl⟩, rfl, I.bare,
    ⟨fun b o e _ _ _ => (of_cutH e).2.2, fun b o e _ _ _ => ⟨o.slots, (of_cutH e).2.2⟩, fun b o e _ _ => hn b (of_cutH e).2.1, fun b o e _ => ⟨o, (of_cutH e).2.2⟩, fun b xs e => (nomatch e), fun b o u e => (nomatch e), fun b ps e => (nomatch e)⟩, I.loc, I.cell, I.free, I.freeC, fun q hq => absurd (show q ∈ ([] : List (Addr × Obj)) ++ [] from hq) (by simp), I.hok, I.len⟩
  · show (wkS F s).heap.objs.size ≤ c
    rw [ws, ← hs]
    exact I.ok.cab y c h1 h2
  · show (cutH s.heap F.env.locals _).get? b = some o
    have e : F.base.get? b = some o := e
    rw [cutH_get (Nat.lt_of_lt_of_le (Heap.lt_size e) bz) (by simp [e])]
    exact I.bk b o e
  · show F.base.objs.size ≤ (wkS F s).heap.objs.size
    rw [ws]
    exact bz
  · exact FunFrames_cut (fun b hb => cutH_get (frL b hb) (by
      have hb : b ∈ frs F.outer := hb
      simp [hb])) I.funs
theorem sg_func {F : GF} {A : Around} {Φ : End → Shared → Prop} {body : List Stmt} {env : Env} {fs : List Frame} {s : Shared}
    (h : Sg (model P w) A Φ (.func body env) ((execs body env).wrap (fun f => .pure (.done (.ret (match f with | .ret v => v | _ => .none)))) (fun e => (leaving env e).wrap (fun _ => .raise e) .raise id id) id id) fs s) :
    Sg (model P w) A Φ (.func body env) ((model P w).den (.func body env)) fs s := by
  show Sg _ A Φ _ (.point [] fun _ => ((execs body env).onRaise (leaving env)) >>= _) fs s
  refine sg_point ?_
  rw [Sem.onRaise_eq_wrap, Sem.bind_eq_wrap', Sem.wrap_wrap]
  rw [Sem.wrap_congr (execs body env) _ _ (K' := fun f => .pure (.done (.ret (match f with | .ret v => v | _ => .none))))
    (H' := fun e => (leaving env e).wrap (fun _ => .raise e) .raise id id) (fun f => by cases f <;> rfl)
    (fun e => by rw [Sem.bind_eq_wrap, Sem.wrap_wrap]; rfl)]
  exact h
theorem gn_ok {x qual : Str} {st : Stmt} {f : Addr} {fd : FuncData} {N ps : List Str} {k n : Nat} {mb : GM} (F : Fun K x qual st f fd) (B : Binds K fd ps []) (S : GScope N ps (defScope st)) (hn : ps.length = n)
    (hb : ∀ (cdv : Value) (outer : List Env) (L a : Addr) (go : Obj) (g : Nat) (os : OsState), GBs ca (gfOf P w K mg base N qual (defScope st) f cdv outer k L a go g os) true (defBody st) mb) : GnG ca P w K mg base (k + 2) f (gnM n N.length mb) := by
  obtain ⟨oc, od, kV, doc, pm, an, cdv, ct, osl, rfl, lk, hcd⟩ := F.ex
  intro A outer s H us vs Hf ds ys hr e0 r rep hx htp hm
  unfold gnM at hm
  by_cases hds : ds.length = n
  case neg => rw [if_neg hds] at hm; cases hm
  rw [if_pos hds] at hm
  have hl : vs.length = ps.length := by rw [rep.length, hds, hn]
  have KX : K.In s.heap := e0.mod.kin.keeps fun b o e => (e0.bs b o e).1
  have lim : s.heap.NoLimit := e0.mod.nolimit.keeps fun b o e => (e0.bs b o e).1
  have hb0 := B s us KX (by rw [List.append_nil, ← r.length, hl])
  rw [List.append_nil] at hb0
  have hkind : ∀ y ∈ ps.zip us, (defScope st).names.lookup y.1 = some .local ∨ ((defScope st).names.lookup y.1 = some .cell ∧ ((cellsFrom (s.heap.objs.size + 1) (defScope st).names []).lookup y.1).isSome = true) := fun ⟨n, v⟩ hy => by
    rcases S.par n (List.of_mem_zip hy).1 with q | q
    · exact .inl q
    · exact .inr ⟨q, PySem.W.cellsFrom_some _ _ _ (.inl q)⟩
  refine codeAny_call_generator hr.2.depth (KX _ _ lk) rfl S.co S.gen rfl (PySem.W.codeRec_of KX hcd) (hb0 _ _ _ _ ?_)
  refine wpAny_newFunctionEnv_cells S.kind hkind fun env he s1 x => ?_
  subst he
  have lim1 : s1.heap.NoLimit := lim.keeps x.toInCall.keep
  refine ⟨lim1, ?_⟩
  obtain ⟨h1, tk, es1, hk1⟩ := x.done
  have os1 : s1.os = s.os := by rw [es1]
  have gen1 : s1.gens = s.gens := by rw [es1]
  have sz1 : s.heap.objs.size ≤ s1.heap.objs.size := Nat.le_of_lt x.toInCall.ns.lt
  have kp1 : ∀ b o, s.heap.get? b = some o → s1.heap.get? b = some o := x.toInCall.keep
  have main : ∀ (go : Obj) (nm qn : Value) (tk2 : Nat), go.cls = .type "generator" → go.data = .fields #[.int s1.gens.size 0, nm, qn] → go.slots = #[] → (∀ h : Heap, (h.push go).get? h.objs.size = some go) →
      ∃ (a : Addr) (g : Nat) (G : Prv), (.ok (.ret (.ref s1.heap.objs.size)) : Result) = .ok (.ret (.ref a)) ∧ (s1.heap.push go).IsGen a g ∧ s1.os = s.os ∧ AllBare (s1.gens.push (.fresh (.func (defBody st) (envOfC qual (defScope st) s.heap.objs.size f cdv)))) ∧ (∀ b o, s.heap.get? b = some o → (s1.heap.push go).get? b = some o) ∧ (∀ b o, G.obj b = some o → (s1.heap.push go).get? b = some o ∧ s.heap.objs.size ≤ b) ∧
      (∀ (i : Nat) (x : GenState), G.gen i = some x → (s1.gens.push (.fresh (.func (defBody st) (envOfC qual (defScope st) s.heap.objs.size f cdv))))[i]? = some x ∧ NGS x) ∧ IsG G a ∧ GenSt ca P w K mg base outer (k + 2) s.os a ys Hf G ∧ Fresh G := by
    intro go nm qn tk2 hgc hgd hgs hgp
    let s' : Shared := { s1 with gens := s1.gens.push (.fresh (.func (defBody st) (envOfC qual (defScope st) s.heap.objs.size f cdv))), toks := tk2, heap := s1.heap.push go }
    let a := s1.heap.objs.size
    let g := s1.gens.size
    let Fr : GF := gfOf P w K mg base N qual (defScope st) f cdv outer k s.heap.objs.size a go g s.os
    have hpushed : s'.heap.get? a = some go := hgp _
    have kp2 : ∀ b o, s1.heap.get? b = some o → s'.heap.get? b = some o := fun b o e => Heap.get?_push_of_some _ e
    have hbare : AllBare s'.gens := AllBare.push (by rw [gen1]; exact e0.bare) rfl
    have hg : s'.gens[g]? = some (.fresh (.func (defBody st) (envOfC qual (defScope st) s.heap.objs.size f cdv))) := Array.getElem?_push_size ..
    let W : Prv := { obj := fun b => if b = a then some go else none, gen := fun _ => none, run := fun i => i = g, os := some s.os }
    let st0 : Sl := ds.map some ++ List.replicate (N.length - n) none
    let z : GZ := ⟨Hf, H, fun _ => Em, L2.start N vs, st0, W⟩
    have I1 := inv_startG (E := fun _ _ _ => False) S hr.2.hd e0 hl r x
    have I2 : Inv (gcxOf P w K mg base N qual (defScope st) f cdv A outer s H (fun _ _ _ => False) []) [] (L2.start N vs) H (s'.setGen g .running) :=
      I1.call' (ch := []) (s' := s'.setGen g .running) rfl (Un.kept kp2) (I1.hok.kept kp2) (allBare_setGen hbare rfl) fun b z => absurd z (by simp)
    have I3 : Inv (Fr.cx A (wkS Fr (s'.setGen g .running))) [] z.σ z.H (s'.setGen g .running) := inv_cut (F := Fr) (s0 := s) I2 rfl
    have young : ∀ b, s1.heap.objs.size ≤ b → H b = none ∧ b ≠ s.heap.objs.size ∧ b ∉ frs outer ∧ s.heap.objs.size ≤ b ∧ ∀ y c, (cellsFrom (s.heap.objs.size + 1) (defScope st).names []).lookup y = some c → c ≠ b := fun b hb => by
      refine ⟨I1.hok.fresh hb, Nat.ne_of_gt (Nat.lt_of_lt_of_le x.toInCall.ns.lt hb), I1.nofs hb, Nat.le_trans sz1 hb, fun y c e z => ?_⟩
      obtain ⟨v, ob, ho, _⟩ := I1.cell y c e
      have := Heap.lt_size ho
      rw [z] at this
      exact absurd (Nat.lt_of_lt_of_le this hb) (Nat.lt_irrefl _)
    have hsz : (wkS Fr (s'.setGen g .running)).heap.objs.size = Fr.env.locals := cutH_size
    have hdW : Held (Fr.cx A (wkS Fr (s'.setGen g .running))) [] z.H W (s'.setGen g .running) := by
      refine ⟨fun b o e => ?_, fun i x e => (nomatch e), fun i e => ?_, fun o e => ?_, fun o e => (nomatch e)⟩
      · have e : (if b = a then some go else none) = some o := e
        by_cases hb : b = a
        · rw [if_pos hb] at e
          cases e
          rw [hb]
          obtain ⟨y1, y2, y3, y4, y5⟩ := young a (Nat.le_refl _)
          refine ⟨hpushed, y1, y2, y3, .inr ?_, y5, fun p hp => absurd (show p ∈ ([] : List (Addr × Obj)) ++ [] from hp) (by simp)⟩
          show (wkS Fr (s'.setGen g .running)).heap.objs.size ≤ a
          rw [hsz]
          exact y4
        · rw [if_neg hb] at e; cases e
      · have e : i = g := e
        subst e
        show (s'.gens.setIfInBounds g .running)[g]? = some .running
        obtain ⟨hi, _⟩ := Array.getElem?_eq_some_iff.mp hg
        rw [Array.getElem?_setIfInBounds_self_of_lt hi]
      · cases e
        show s1.os = s.os
        exact os1
    have hvn : ps.length ≤ N.length := by
      have := congrArg List.length S.pre
      rw [List.length_take] at this
      omega
    have p0 : PR ca K Hf H Em True (fun _ => Em) (L2.start N vs) st0 := by
      obtain ⟨R, ra, _, _⟩ := repL_split rep
      refine ⟨trivial, ?_, fun i d e => ?_, fun i j b q _ => q.elim, fun _ _ q => q.elim, ⟨hx, fun b q => q.elim (fun q => q.elim) fun ⟨_, q⟩ => q.elim, fun b q => q.elim (fun q => q.elim) fun ⟨_, q⟩ => q.elim, htp⟩⟩
      · show (ds.map some ++ List.replicate (N.length - n) none).length = _
        unfold L2.start; simp [hds, hl, hn]
      · have e : getS (ds.map some ++ List.replicate (N.length - n) none) i = some d := e
        have hi : i < ds.length := by
          by_cases hi : i < ds.length
          · exact hi
          · exfalso
            unfold getS at e
            rw [List.getElem?_append_right (by simp; omega), List.getElem?_replicate] at e
            split at e <;> cases e
        have e1 : ds[i]? = some d := by
          unfold getS at e
          rw [List.getElem?_append_left (by simpa using hi), List.getElem?_map, List.getElem?_eq_getElem hi] at e
          rw [List.getElem?_eq_getElem hi]
          exact e
        obtain ⟨v, e2, r2⟩ := ra i d e1
        refine ⟨v, by rw [start_at (by rw [rep.length]; exact hi), e2], ?_⟩
        have : Rep ca K Hf H Em v d := by
          clear ra r2 e
          have key : ∀ {vs : List V} {ds : List D} {i : Nat} {v : V} {d : D}, RepL ca K Hf H Em vs ds → vs[i]? = some v → ds[i]? = some d → Rep ca K Hf H Em v d := by
            intro vs ds
            induction ds generalizing vs with
            | nil => intro i v d _ _ h; simp at h
            | cons d0 ds ih =>
              intro i v d r h1 h2
              cases r with
              | cons q1 q2 k1 k2 _ =>
                cases i with
                | zero =>
                  simp at h1 h2
                  subst h1; subst h2
                  exact q1.mono k1
                | succ i => exact ih (q2.mono k2) (by simpa using h1) (by simpa using h2)
          exact key rep e2 e1
        exact this
    have sl : Slp ca Fr z (s'.setGen g .running) := ⟨⟨A, _, hsz, I3, hdW⟩, p0, fun i b q => q.elim, rfl, ⟨if_pos rfl, ⟨rfl, fun i e => e⟩, rfl⟩, ⟨nm, qn, hgc, hgd, hgs⟩⟩
    have hfr : s'.heap.IsGen a g := ⟨go, nm, qn, hpushed, hgc, hgd, hgs⟩
    cases em : mb st0 with
    | mk ys' out =>
    rw [show mb (ds.map some ++ List.replicate (N.length - n) none) = (ys', out) from em] at hm
    cases out with
    | next st1 =>
      cases hm
      have gst := gen_st (ca := ca) (F := Fr) ys z (s'.setGen g .running) (.fresh (.func (defBody st) (envOfC qual (defScope st) s.heap.objs.size f cdv))) (.func (defBody st) (envOfC qual (defScope st) s.heap.objs.size f cdv)) _ [] sl (.inl ⟨rfl, rfl, rfl⟩) (fun A2 s2 z2 h1 h2 I' hx' Φ' acc => by
        refine sg_func (F := Fr) ?_
        have gc : GCd Fr (.func (defBody st) Fr.env) [] id := ⟨fun A => GenW.over_func, fun f hf => absurd hf (List.not_mem_nil), rfl, rfl⟩
        have hrun := hb cdv outer s.heap.objs.size a go g s.os A2 s2 z2 (.func (defBody st) Fr.env) [] (fun f => .pure (.done (.ret (match f with | .ret v => v | _ => .none)))) (fun e => (leaving Fr.env e).wrap (fun _ => .raise e) .raise id id) id id [] gc rfl I' (fun _ => h2.gen) ys _ .next st1 (by rw [h1]; exact em) rfl fun A3 s3 z3 k1 k2 I3 hx3 hn3 Φ3 acc3 => ?_
        · rw [List.append_nil] at hrun
          exact hrun Φ' acc
        · exact sg_end (.ok (.ret .none)) (acc3 s3 z3 I3 GZ.tr.refl))
      refine ⟨a, g, prvOf Fr z (s'.setGen g .running) (.fresh (.func (defBody st) (envOfC qual (defScope st) s.heap.objs.size f cdv))), rfl, hfr, os1, hbare, fun b o e => kp2 b o (kp1 b o e), fun b o e => ?_, fun i x e => ?_, ⟨go, (sl.prv_w (if_pos rfl)).2, hgc⟩, gst, fun i x e => ?_⟩
      · refine ⟨?_, ?_⟩
        · by_cases h : isPrv Fr z b
          · rw [prv_in h] at e; exact e
          · rw [prv_out h] at e
            exact (hdW.obj b o e).1
        · rcases sl.prv_young e with ⟨_, h⟩ | h
          · exact h.elim
          · exact h
      · by_cases h : i = g
        · subst h
          have e : (prvOf Fr z (s'.setGen g .running) _).gen Fr.g = some x := e
          rw [prv_g] at e
          cases e
          exact ⟨hg, trivial⟩
        · rw [prv_ne (F := Fr) h] at e
          cases e
      · by_cases h : i = g
        · subst h
          have e : (prvOf Fr z (s'.setGen g .running) _).gen Fr.g = some x := e
          rw [prv_g] at e
          cases e
          exact ⟨_, rfl⟩
        · rw [prv_ne (F := Fr) h] at e
          cases e
    | ret d st1 => cases hm
    | brk st1 => cases hm
    | cont st1 => cases hm
    | exc x st1 => cases hm
    | fail => cases hm
  exact main _ _ _ (s1.toks + 1 + 1) rfl rfl rfl fun h => Heap.get?_push_size _ rfl
/-- what a call of a generator def is walked for -/
def gSrc (m : List D → Option (List D)) (ms : MA) : GSrc := fun st => match ms st with
  | .ok ds st1 => if colds ds then (match m ds with
    | some ys => .ok ys st1
    | none => .fail) else .fail
  | _ => .fail
theorem cgn_call {X : Cx} {k : Nat} {f : Addr} {x : Str} {p pos : Pos} {e : Expr} {es : List Expr} {m : List D → Option (List D)} {ms : MA} (F : GnG ca X.prog X.w X.K X.mg X.base k f m) (hr : RoomG k X.A) (hg : Gl X x) (hm : X.mg x = some (.ref f))
    (hk : PySem.W.keepIn X.K (.ref f) = true) (ha : CL ca X (e :: es) ms) (hst : NoStar (e :: es)) (hdb : (x == ("__debug__" : Str)) = false := by decide) (hpl : (backTo pos (starEach es X.env)).any (·.1) = false := by rfl) :
    CGn ca X k (.Call (.Name x p) (e :: es) [] pos) (gSrc m ms) := fun Hf H R σ st pr ys st1 esrc pins s I => by
  unfold gSrc at esrc
  cases e1 : ms st with
  | fail => rw [e1] at esrc; cases esrc
  | exc x st1 => rw [e1] at esrc; cases esrc
  | ok ds st2 =>
  rw [e1] at esrc
  dsimp only at esrc
  by_cases hc : colds ds = true
  case neg => rw [if_neg hc] at esrc; cases esrc
  rw [if_pos hc] at esrc
  cases e2 : m ds with
  | none => rw [e2] at esrc; cases esrc
  | some ys' =>
  rw [e2] at esrc
  cases esrc
  have hwa : Wa X (e :: es) σ H (fun vs H1 => ∃ Hf1 P1 R1, Tr (jn Em R) Hf H (jn P1 R1) Hf1 H1 ∧ PR ca X.K Hf1 H1 P1 (RepL ca X.K Hf1 H1 P1 vs ds) R1 σ st1) := wa_wl (fun e' r' q => noStar_suf hst e' r' q _) (ha Hf H R σ st _ pr (by
    rw [e1]
    exact fun Hf1 H1 P1 R1 vs t q => ⟨Hf1, P1, R1, t, q⟩))
  refine wpAny_Call_Name_kw (ld_glob I hg hm ?_ hdb)
  refine PySem.W.callWith_K (h₀ := X.base) I.ok.mod.kin hk (thn ((wa_pa X (e :: es)).run pos pins s σ H _ I hwa) fun us s1 ⟨vs, H1, I1, rv, Hf1, P1, R1, t1, p1⟩ => ⟨I1.kIn, ?_⟩) (hst.1 _) hpl
  refine wpAny_call (codeAny_mono (F X.A X.stack s1 H1 us vs Hf1 ds ys hr I1.env0 rv (repL_cold0 p1.pend hc) p1.w.ex p1.w.tp e2) fun r s' ⟨a, g, G, er, hgen, os, bare, kp, gob, ggn, isg, gst, fr⟩ => ?_)
  subst er
  have I2 : Inv X pins σ H1 s' := I1.call' (ch := []) os (Un.kept kp) (I1.hok.kept kp) bare fun b z => absurd z (by simp)
  refine ⟨a, g, Hf1, H1, R1, G, rfl, hgen, I2, t1.less fun b q => q.elim (fun q => q.elim) .inr, p1.drop, ⟨fun b o e => ⟨(gob b o e).1, I1.fpOk (gob b o e).2 (I1.hok.fresh (gob b o e).2)⟩, ggn⟩, isg, ?_, fr⟩
  have : s1.os = X.s_0.os := I1.os
  rw [← this]
  exact gst
end
end DL

set_option maxHeartbeats 1000000
/-! DL167: enumerate over a generator. -/
namespace DL
open PySem L2 PyProof.Rows
open AutoSeq1 (wpAny_loadPart')

section
variable {ca : Nat → Addr} {P : Program} {w : World} {K : PySem.W.Frag} {mg : Str → Option Value} {base : Heap} {outer : List Env} {k : Nat} {os0 : OsState}
def Prv.with (G : Prv) (e : Addr) (o : Obj) : Prv := { G with obj := fun b => if b = e then some o else G.obj b }
theorem with_ne {G : Prv} {e b : Addr} {o : Obj} (h : b ≠ e) : (G.with e o).obj b = G.obj b := by
  show (if b = e then some o else G.obj b) = _
  rw [if_neg h]
theorem Wk.less {G : Prv} {e : Addr} {o : Obj} {A : Around} {s : Shared} {Hf0 Hf H : Hp} (w' : Wk P w K mg base outer (k + 1) os0 Hf0 (G.with e o) A s Hf H) (hn : G.obj e = none) : Wk P w K mg base outer k os0 Hf0 G A.in1 s Hf H :=
  ⟨w'.room.in1, w'.os, w'.env.in1, w'.fx, w'.hx, w'.tp, fun b u q => w'.obj b u (by rw [with_ne fun z => by rw [z, hn] at q; cases q]; exact q), w'.gen⟩
end
end DL

/-! DL168: a def's context does not ask for the sleepers. -/
namespace DL
open PySem L2 PyProof.Rows
end DL

set_option maxHeartbeats 1000000
/-! DL169: an expression that only looks: all slots are shown frozen to it, and are as before after it. -/
namespace DL
open PySem L2 PyProof.Rows
section
variable {ca : Nat → Addr} {K : PySem.W.Frag} {Hf H H3 Hf1 H1 Hf2 H2 : Hp} {S P : Rg} {R R1 R2 : Nat → Rg} {σ : L2.St} {st : Sl} {v : V} {d : D} {vs : List V} {ds : List D} {X : Cx} {L : List Nat}
end
end DL
namespace DL
open PySem (Str)
end DL

/-! DL170: what generators hand out, evaluated. -/
namespace DL
open PySem (Str)
open PySem L2
/-- a loop of a generator's body: turn j hands out `out (n + j)` -/
theorem forGM_ok {g : MG} {body : GM} (I : Nat → Sl → Prop) (out : Nat → List D) : ∀ (ds : List D) (n : Nat) (st : Sl), I n st → (∀ j d st, ds[j]? = some d → I (n + j) st → ∃ st1 st2, g d st = .ok () st1 ∧ body st1 = (out (n + j), .next st2) ∧ I (n + j + 1) st2) →
    ∃ st2, forGM g body ds st = (((List.range' n ds.length).map out).flatten, .next st2) ∧ I (n + ds.length) st2
  | [], n, st, h, _ => ⟨st, rfl, h⟩
  | d :: ds, n, st, h, hb => by
    obtain ⟨st1, st2, e1, e2, h2⟩ := hb 0 d st rfl h
    obtain ⟨st3, e3, h3⟩ := forGM_ok I out ds (n + 1) st2 h2 fun j d' st' hd hI => by
      have := hb (j + 1) d' st' hd (by rw [show n + (j + 1) = n + 1 + j by omega]; exact hI)
      rw [show n + (j + 1) = n + 1 + j by omega] at this
      exact this
    refine ⟨st3, ?_, by rw [List.length_cons, show n + (ds.length + 1) = n + 1 + ds.length by omega]; exact h3⟩
    unfold forGM
    rw [e1]
    dsimp only
    rw [e2]
    dsimp only
    rw [e3, List.length_cons, List.range'_succ, List.map_cons, List.flatten_cons]
    rfl
theorem gSeq {a b : GM} {st st1 : Sl} {ds es : List D} {r : SR} (ha : a st = (ds, .next st1)) (hb : b st1 = (es, r)) : mSeq a b st = (ds ++ es, r) := by
  unfold mSeq
  rw [ha]
  dsimp only
  rw [hb]
theorem gP {m : MS} {st : Sl} {r : SR} (h : m st = r) : mP m st = ([], r) := by
  unfold mP
  rw [h]
theorem gYield {m : ME} {st st1 : Sl} {d : D} (h : m st = .ok d st1) (hk : okSl st1 = true) : mYield m st = ([d], .next st1) := by
  unfold mYield
  rw [h]
  dsimp only
  rw [if_pos hk]
theorem gFor {src : GSrc} {g : MG} {body : GM} {st st1 : Sl} {ds es : List D} {r : SR} (h : src st = .ok ds st1) (hb : forGM g body ds st1 = (es, r)) : mFor src g body st = (es, r) := by
  unfold mFor
  rw [h]
  exact hb
theorem gnM_v {n w : Nat} {body : GM} {ds ys : List D} {st : Sl} (hn : ds.length = n) (h : body (ds.map some ++ List.replicate (w - n) none) = (ys, .next st)) : gnM n w body ds = some ys := by
  unfold gnM
  rw [if_pos hn, h]
theorem wNx {src : GSrc} {st st1 : Sl} {ds : List D} (h : src st = .ok ds st1) : noXs src st = .ok ds st1 := by
  unfold noXs
  rw [h]
  rfl
end DL

/-! DL171: sorted(set(a list of whole numbers)), fewer than 64 apart. -/
namespace DL
open PySem PySem.Spec PyProof.Rows L2
end DL

set_option maxHeartbeats 2000000
/-! DL172: != of two lists that stand, whose items are flat, lists of flat things, or instances equal by their own ==. -/
namespace DL
open PySem PySem.Spec PyProof.Rows L2
section
variable {ca : Nat → Addr} {K : PySem.W.Frag} {Hf H Hf1 H1 Hf2 H2 : Hp} {S S1 S2 P P1 P2 : Rg} {R R1 R2 : Nat → Rg} {σ σ' : L2.St} {st st' : Sl} {v w x y : V} {d e : D} {vs : List V} {ds xs : List D} {X : Cx} {L : List Nat}
/-! ### the data -/
end
end DL

/-! DL173: a, b, c = x, y, z where what is stored may be owned. -/
namespace DL
open PySem L2 PyProof.Rows
section
variable {ca : Nat → Addr} {K : PySem.W.Frag} {Hf H : Hp} {P : Rg} {R : Nat → Rg} {σ : L2.St} {st : Sl} {v w x : V} {d e f : D} {X : Cx} {L : List Nat}
end
end DL

set_option maxHeartbeats 2000000
/-! DL174: == and != of two lists that stand, by their items (flat, instances with an own ==, tuples and lists of these): True and False. -/
namespace DL
open PySem PySem.SeqAt GQ
open AutoSeq1 (wpAny_loadPart')
open MeetsSeq MeetsSeq2 MeetsSeq3 SeqRoads2
section
variable {prog : Program} {w : World} {A : Around} {R : Result → Shared → Prop}
end
end DL

set_option maxHeartbeats 1000000
/-! DL175: a def whose last parameter has a default (a flat constant), called with it or without. -/
namespace DL
open PySem L2 PyProof.Rows
structure DefB (K : PySem.W.Frag) (fd : FuncData) (ps : List Str) (dv : V) : Prop where
  full : Binds K fd ps []
  dflt : ∃ u : Value, RelV dv u ∧ Binds K fd ps [u]
section
variable {K : PySem.W.Frag} {x qual : Str} {params : Arguments} {body : List Stmt} {scope : Scope} {dv : V} {f : Addr} {fd : FuncData}
end
section
variable {ca : Nat → Addr} {P : Program} {w : World} {K : PySem.W.Frag} {mg : Str → Option Value} {base : Heap} {L : List Nat}
end
end DL

set_option maxHeartbeats 1000000
/-! DL176: o.f, o.g = t.f, t.g: what the slot of t owns (g's value) goes over to o; t is not used after it. -/
namespace DL
open PySem PySem.Spec PyProof.Rows L2
section
variable {ca : Nat → Addr} {K : PySem.W.Frag} {Hf H Hf1 H1 Hf2 H2 : Hp} {S P : Rg} {R R1 R2 : Nat → Rg} {σ : L2.St} {st : Sl} {v : V} {d : D} {vs : List V} {ds : List D} {X : Cx} {L : List Nat}
end
end DL

set_option maxHeartbeats 2000000
/-! DL177: == and != of two lists that stand (flat, own ==, tuples and lists of these), answered by their data; a def with a default as the linked program holds it. -/
namespace DL
open PySem PySem.Spec PyProof.Rows L2
section
variable {ca : Nat → Addr} {K : PySem.W.Frag} {Hf H Hf1 H1 Hf2 H2 : Hp} {S S1 S2 P P1 P2 : Rg} {R R1 R2 : Nat → Rg} {σ σ' : L2.St} {st st' : Sl} {v w x y : V} {d e : D} {vs : List V} {ds xs : List D} {X : Cx} {L : List Nat} {A : Around}
/-! ### the data -/
end
end DL

/-! DL178: slices of lists of cold items; the last item; a default, == of lists, a look evaluated. -/
namespace DL
open PySem (Str)
open Nw
end DL

/-! DL179: a call without arguments. -/
namespace DL
open PySem PySem.Spec PyProof.Rows L2
section
variable {ca : Nat → Addr} {X : Cx}
end
end DL

set_option maxHeartbeats 1000000
/-! DL180: == and != of an instance with an own == and an instance of another class (no subclass of it). -/
namespace PySem
open Sem (wp)
open Builtin
section
variable {prog : Program} {w : World} {A : Around} {E : Value → Shared → Prop} {h : Heap} {g : Array GenState} {d : Drawn} {t : Nat} {os : OsState} {C C2 x y f : Addr} {B : String} {bm : List Value}
end
end PySem
namespace DL
open PySem PySem.Spec PyProof.Rows L2
section
variable {ca : Nat → Addr} {K : PySem.W.Frag} {Hf H Hf1 H1 : Hp} {S P : Rg} {R R1 : Nat → Rg} {σ : L2.St} {st : Sl} {v : V} {d : D} {vs : List V} {ds : List D} {X : Cx} {L : List Nat}
end
end DL

set_option maxHeartbeats 1000000
/-! DL181: an own list of flat things is let stand for an expression's time, and is owned again after it: nothing else may hold a list that stands. -/
namespace DL
open PySem PySem.Spec PyProof.Rows L2
section
variable {ca : Nat → Addr} {K : PySem.W.Frag} {Hf H Hf1 H1 : Hp} {S S1 : Rg} {X : Cx}
end
end DL

set_option maxHeartbeats 2000000
/-! DL182: == of a tuple of anything with the empty tuple. -/
namespace DL
open PySem PySem.SeqAt GQ
open AutoSeq1 (wpAny_loadPart')
open MeetsSeq MeetsSeq2 MeetsSeq3 SeqRoads2
section
variable {prog : Program} {w : World} {A : Around} {R : Result → Shared → Prop}
end
end DL
namespace DL
open PySem PySem.Spec PySem.SeqAt GQ PyProof.Rows L2
section
variable {ca : Nat → Addr} {K : PySem.W.Frag} {X : Cx}
end
end DL

set_option maxHeartbeats 2000000
/-! DL183: the values of a dict with tuples as keys: list(d.values()), sum(d.values()). -/
namespace DL
open PySem PySem.Spec PyProof.Rows L2
section
variable {prog : Program} {w : World} {A : Around} {E : Value → Shared → Prop} {s : Shared} {it d v : Addr} {i ep : Nat} {o : Obj} {es : Array DictEntry} {Q : Option Value → Shared → Prop}
end
section
variable {prog : Program} {w : World} {A : Around} {E : Value → Shared → Prop} {s : Shared} {it d v : Addr} {i ep : Nat} {o : Obj} {es : Array DictEntry} {Q : Value → Shared → Prop}
end
section
variable {X : Cx} {e : Expr} {te : TE} {p apos cpos pos : Pos}
end
/-! ### as rules -/
def sumD : List D → Option Int
  | [] => some 0
  | .int i :: r => (sumD r).map (i + ·)
  | _ => none
section
variable {ca : Nat → Addr} {K : PySem.W.Frag} {Hf H : Hp} {S : Rg} {vs : List V} {ds : List D} {X : Cx}
end
end DL

set_option maxHeartbeats 2000000
/-! DL184: walking a slot's own dict with tuples as keys: for k in d, for k, v in d.items() (also in comprehensions); from then on the dict stands. -/
namespace DL
open PySem PySem.Spec PyProof.Rows L2
section
variable {P : Program} {w : World} {K : PySem.W.Frag} {d : Addr} {o : Obj} {es : Array DictEntry} {ep : Nat}
end
section
variable {ca : Nat → Addr} {K : PySem.W.Frag} {Hf H : Hp} {R : Nat → Rg} {σ : L2.St} {st : Sl} {v : V} {d : D} {vs : List V} {ds : List D} {X : Cx} {i : Nat}
end
section
variable {ca : Nat → Addr} {X : Cx} {i : Nat} {tg : Expr} {x : Str} {p apos cpos : Pos}
end
end DL

set_option maxHeartbeats 2000000
/-! DL185: d.get(k, x), d a slot's dict with tuples as keys. -/
namespace DL
open PySem PySem.Spec PyProof.Rows L2
section
variable {ca : Nat → Addr} {K : PySem.W.Frag} {Hf H Hf1 H1 Hf2 H2 : Hp} {S P P1 P2 : Rg} {R R1 R2 : Nat → Rg} {σ : L2.St} {st : Sl} {v : V} {d : D} {vs : List V} {ds : List D} {X : Cx}
end
end DL

/-! DL186: counting the shortest words from one list to another: level by level, with all exchanges or with those towards the target alone. -/
namespace Nw
open DL
/-! ### read backwards -/
end Nw

/-! DL187: a dict that counts lists: what it holds after each store; its evaluation. -/
namespace DL
open PySem (Str)
def kT (v : List Int) : List L2.Key := v.map Sum.inl
theorem kT_inj : ∀ {u v : List Int}, kT u = kT v → u = v
  | [], [], _ => rfl
  | [], _ :: _, h => by cases h
  | _ :: _, [], h => by cases h
  | a :: u, b :: v, h => by
    have h := List.cons.inj h
    rw [Sum.inl.inj h.1, kT_inj h.2]
abbrev DK := List (List L2.Key × D)
/-- the dict's values are how often its keys stand in L -/
structure CD (kvs : DK) (L : List (List Int)) : Prop where
  nd : (kvs.map (·.1)).Nodup
  ks : ∀ k ∈ kvs.map (·.1), ∃ l ∈ L, k = kT l
  val : ∀ l, valQ kvs (kT l) = if l ∈ L then some (.int ((L.count l : Nat) : Int)) else none
theorem CD.nil : CD [] [] := ⟨List.nodup_nil, (fun _ h => by cases h), fun l => rfl⟩
theorem CD.one (v : List Int) : CD [(kT v, .int 1)] [v] := by
  refine ⟨by simp, fun k hk => ⟨v, List.mem_singleton.mpr rfl, by simpa using hk⟩, fun l => ?_⟩
  by_cases e : l = v
  · subst e
    rw [valQ_cons_pos rfl, if_pos (List.mem_singleton.mpr rfl), List.count_singleton]
    simp
  · rw [valQ_cons_neg (fun z => e (kT_inj z).symm), if_neg (fun z => e (List.mem_singleton.mp z))]
    rfl
theorem putQ_keys {kvs : DK} {k : List L2.Key} (d : D) : (k ∈ kvs.map (·.1) → (putQ kvs k d).map (·.1) = kvs.map (·.1)) ∧ (k ∉ kvs.map (·.1) → (putQ kvs k d).map (·.1) = kvs.map (·.1) ++ [k]) := by
  have e : (kvs.any fun kv => decide (kv.1 = k)) = true ↔ k ∈ kvs.map (·.1) := by
    rw [List.any_eq_true, List.mem_map]
    simp only [decide_eq_true_eq]
  unfold putQ
  refine ⟨fun h => ?_, fun h => ?_⟩
  · rw [if_pos (e.mpr h), List.map_map]
    refine List.map_congr_left fun kv _ => ?_
    show (if kv.1 = k then (kv.1, d) else kv).1 = kv.1
    split <;> rfl
  · rw [if_neg fun z => h (e.mp z), List.map_append]
    rfl
theorem nodup_back {α β : Type} {f : α → β} : ∀ {L : List α}, (L.map f).Nodup → L.Nodup
  | [], _ => List.nodup_nil
  | x :: L, h => by
    rw [List.map_cons, List.nodup_cons] at h
    exact List.nodup_cons.mpr ⟨fun z => h.1 (List.mem_map.mpr ⟨x, z, rfl⟩), nodup_back h.2⟩
theorem nodup_le {α : Type} [DecidableEq α] : ∀ {L U : List α}, L.Nodup → (∀ x ∈ L, x ∈ U) → L.length ≤ U.length
  | [], _, _, _ => Nat.zero_le _
  | x :: L, U, h, s => by
    rw [List.nodup_cons] at h
    have hx := s x List.mem_cons_self
    have ih := nodup_le (L := L) (U := U.erase x) h.2 fun y hy => (List.mem_erase_of_ne (fun e => h.1 (by rw [← e]; exact hy))).mpr (s y (List.mem_cons_of_mem _ hy))
    rw [List.length_erase_of_mem hx] at ih
    have := List.length_pos_of_mem hx
    rw [List.length_cons]
    omega
theorem CD.put {kvs : DK} {L : List (List Int)} (h : CD kvs L) (a : List Int) {c : Nat} (hc : 0 < c) : CD (putQ kvs (kT a) (.int (((L.count a : Nat) : Int) + c))) (L ++ List.replicate c a) := by
  have ma : a ∈ L ++ List.replicate c a := List.mem_append_right _ (List.mem_replicate.mpr ⟨by omega, rfl⟩)
  refine ⟨?_, fun k hk => ?_, fun l => ?_⟩
  · rcases Classical.em (kT a ∈ kvs.map (·.1)) with n | n
    · rw [(putQ_keys _).1 n]
      exact h.nd
    · rw [(putQ_keys _).2 n]
      exact List.nodup_append.mpr ⟨h.nd, by simp, fun x hx y hy z => n (by rw [← List.mem_singleton.mp hy, ← z]; exact hx)⟩
  · have old : k ∈ kvs.map (·.1) → ∃ l ∈ L ++ List.replicate c a, k = kT l := fun hk => by
      obtain ⟨l, hl, e⟩ := h.ks k hk
      exact ⟨l, List.mem_append_left _ hl, e⟩
    rcases Classical.em (kT a ∈ kvs.map (·.1)) with n | n
    · rw [(putQ_keys _).1 n] at hk
      exact old hk
    · rw [(putQ_keys _).2 n] at hk
      rcases List.mem_append.mp hk with hk | hk
      · exact old hk
      · exact ⟨a, ma, List.mem_singleton.mp hk⟩
  · rw [valQ_put]
    by_cases e : l = a
    · subst e
      rw [if_pos rfl, if_pos ma, List.count_append, List.count_replicate_self]
      congr 2
    · rw [if_neg (fun z => e (kT_inj z)), h.val, List.count_append, List.count_eq_zero.mpr (fun z => e (List.mem_replicate.mp z).2), Nat.add_zero]
      by_cases m : l ∈ L
      · rw [if_pos m, if_pos (List.mem_append_left _ m)]
      · rw [if_neg m, if_neg fun z => (List.mem_append.mp z).elim m fun z => e (List.mem_replicate.mp z).2]
theorem valQ_in {kvs : DK} (nd : (kvs.map (·.1)).Nodup) {k : List L2.Key} {d : D} (h : (k, d) ∈ kvs) : valQ kvs k = some d := by
  induction kvs with
  | nil => cases h
  | cons p r ih =>
    rw [List.map_cons, List.nodup_cons] at nd
    rcases List.mem_cons.mp h with e | h
    · subst e; exact valQ_cons_pos rfl
    · rw [valQ_cons_neg fun e => nd.1 (by rw [e]; exact List.mem_map.mpr ⟨_, h, rfl⟩)]
      exact ih nd.2 h
def enP (p : List Int × Nat) : List L2.Key × D := (kT p.1, .int ((p.2 : Nat) : Int))
theorem count_pairs (a : List Int) : ∀ {M : List (List Int × Nat)}, (M.map (·.1)).Nodup → (M.flatMap fun p => List.replicate p.2 p.1).count a = ((M.find? fun p => decide (p.1 = a)).map (·.2)).getD 0
  | [], _ => rfl
  | p :: M, h => by
    rw [List.map_cons, List.nodup_cons] at h
    rw [List.flatMap_cons, List.count_append, List.find?_cons]
    by_cases e : p.1 = a
    · rw [decide_eq_true e, e, List.count_replicate_self]
      have : (M.flatMap fun p => List.replicate p.2 p.1).count a = 0 := List.count_eq_zero.mpr fun z => by
        obtain ⟨q, hq, z⟩ := List.mem_flatMap.mp z
        exact h.1 (List.mem_map.mpr ⟨q, hq, ((List.mem_replicate.mp z).2.symm.trans e.symm)⟩)
      rw [this]
      rfl
    · rw [decide_eq_false e, List.count_eq_zero.mpr (fun z => e (List.mem_replicate.mp z).2.symm), Nat.zero_add, count_pairs a h.2]
/-- its pairs -/
theorem CD.dec {kvs : DK} {L : List (List Int)} (h : CD kvs L) : ∃ M : List (List Int × Nat), kvs = M.map enP ∧ L.Perm (M.flatMap fun p => List.replicate p.2 p.1) ∧ (M.map (·.1)).Nodup ∧ ∀ p ∈ M, p.1 ∈ L ∧ 0 < p.2 ∧ p.2 = L.count p.1 := by
  have key : ∀ K : DK, (∀ kv ∈ K, kv ∈ kvs) → ∃ M : List (List Int × Nat), K = M.map enP ∧ ∀ p ∈ M, p.1 ∈ L ∧ 0 < p.2 ∧ p.2 = L.count p.1 := fun K => by
    induction K with
    | nil => exact fun _ => ⟨[], rfl, fun _ z => by cases z⟩
    | cons kv K ih =>
      intro hK
      obtain ⟨M, e, hM⟩ := ih fun x hx => hK x (List.mem_cons_of_mem _ hx)
      obtain ⟨k, d⟩ := kv
      have m := hK _ List.mem_cons_self
      obtain ⟨l, hl, rfl⟩ := h.ks k (List.mem_map.mpr ⟨_, m, rfl⟩)
      have v := valQ_in h.nd m
      rw [h.val, if_pos hl] at v
      cases v
      exact ⟨(l, L.count l) :: M, by rw [List.map_cons, ← e]; rfl, fun p hp => by
        rcases List.mem_cons.mp hp with e | hp
        · subst e; exact ⟨hl, List.count_pos_iff.mpr hl, rfl⟩
        · exact hM p hp⟩
  obtain ⟨M, e, hM⟩ := key kvs fun _ z => z
  have ndM : (M.map (·.1)).Nodup := by
    have nd := h.nd
    rw [e, List.map_map] at nd
    have e2 : M.map ((·.1) ∘ enP) = (M.map (·.1)).map kT := by rw [List.map_map]; rfl
    rw [e2] at nd
    exact nodup_back nd
  refine ⟨M, e, List.perm_iff_count.mpr fun a => ?_, ndM, hM⟩
  rw [count_pairs a ndM]
  cases f : M.find? fun p => decide (p.1 = a) with
  | some p =>
    have e1 : p.1 = a := by simpa using List.find?_some f
    have := (hM p (List.mem_of_find?_eq_some f)).2.2
    rw [e1] at this
    exact this.symm
  | none =>
    refine List.count_eq_zero.mpr fun z => ?_
    have v := h.val a
    rw [if_pos z, e] at v
    have : valQ (M.map enP) (kT a) = none := by
      unfold valQ
      rw [List.find?_eq_none.mpr, Option.map_none]
      intro kv hkv
      obtain ⟨p, hp, rfl⟩ := List.mem_map.mp hkv
      have := List.find?_eq_none.mp f p hp
      simp only [decide_eq_true_eq] at this ⊢
      exact fun z => this (kT_inj z)
    rw [this] at v
    cases v
theorem sumD_pairs : ∀ M : List (List Int × Nat), sumD ((M.map enP).map (·.2)) = some (((M.flatMap fun p => List.replicate p.2 p.1).length : Nat) : Int)
  | [] => rfl
  | p :: M => by
    show (sumD ((M.map enP).map (·.2))).map (((p.2 : Nat) : Int) + ·) = _
    rw [sumD_pairs M, Option.map_some, List.flatMap_cons, List.length_append, List.length_replicate]
    congr 1
theorem CD.sum {kvs : DK} {L : List (List Int)} (h : CD kvs L) : sumD (kvs.map (·.2)) = some ((L.length : Nat) : Int) := by
  obtain ⟨M, rfl, p, _, _⟩ := h.dec
  rw [sumD_pairs, p.length_eq]
theorem CD.len {kvs : DK} {L : List (List Int)} (h : CD kvs L) {U : List (List Int)} (hU : ∀ l ∈ L, l ∈ U) : kvs.length ≤ U.length := by
  obtain ⟨M, rfl, p, nd, hM⟩ := h.dec
  have := nodup_le nd (U := U) fun l hl => by
    obtain ⟨q, hq, rfl⟩ := List.mem_map.mp hl
    exact hU _ (hM q hq).1
  rw [List.length_map] at this ⊢
  exact this
theorem CD.colds {kvs : DK} {L : List (List Int)} (h : CD kvs L) : colds (kvs.map (·.2)) = true := by
  obtain ⟨M, rfl, _, _, _⟩ := h.dec
  unfold DL.colds
  rw [List.all_eq_true]
  intro d hd
  obtain ⟨kv, hkv, rfl⟩ := List.mem_map.mp hd
  obtain ⟨q, _, rfl⟩ := List.mem_map.mp hkv
  rfl
/-! ### evaluation -/
end DL

set_option maxHeartbeats 2000000
/-! DL188: dict(list of pairs), the keys tuples. -/
namespace DL
open PySem PySem.Spec PyProof.Rows L2
section
variable {X : Cx}
end
section
variable {ca : Nat → Addr} {K : PySem.W.Frag} {Hf H : Hp} {S : Rg} {vs : List V} {ds : List D} {X : Cx} {R : Nat → Rg} {σ : L2.St} {st : Sl}
end
end DL

set_option maxHeartbeats 2000000
/-! DL189: zip of a list or a tuple with a list or a tuple (any of the four), in a loop with a pair as its target. -/
namespace DL
open PySem PySem.Spec PyProof.Rows L2
def IterB (h : Heap) : Bool → Addr → Addr → Nat → Prop
  | false => h.IsListIter
  | true => h.IsTupleIter
theorem IterB.at {h h' : Heap} {it l : Addr} {i : Nat} : ∀ {k}, IterB h k it l i → (∀ o, h.get? it = some o → h'.get? it = some o) → IterB h' k it l i
  | false, q, e => Heap.IsListIter.at q e
  | true, q, e => Heap.IsTupleIter.at q e
theorem IterB.obj {h : Heap} {it l : Addr} {i : Nat} : ∀ {k}, IterB h k it l i → ∃ o, h.get? it = some o ∧ ∀ v, o.data ≠ .cell v
  | false, ⟨o, e, _, d⟩ => ⟨o, e, fun v q => by rw [d] at q; cases q⟩
  | true, ⟨o, e, _, d⟩ => ⟨o, e, fun v q => by rw [d] at q; cases q⟩
section
variable {ca : Nat → Addr} {K : PySem.W.Frag} {Hf H Hf1 H1 Hf2 H2 : Hp} {S S1 S2 P P1 P2 : Rg} {R R1 R2 : Nat → Rg} {σ : L2.St} {st : Sl} {v : V} {d : D} {vs us : List V} {ds xs ys : List D} {X : Cx} {L : List Nat}
end
end DL

/-! DL190: how many arrangements a network sorts: level by level over the sets of the places of 1 .. k. -/
namespace Nw
open DL
/-! ### the arrangements -/
/-! ### level by level -/
/-! ### the places of 1, 2, .. -/
end Nw

/-! DL191: how many rows of 0 and 1 a network sorts: the increasing lists of places below the limits, counted from the front and from the back. -/
namespace Nw
open DL
/-! ### the increasing lists of places below the limits -/
def seqL (w : Nat) : Nat → List Int → List (List Int)
  | _, [] => [[]]
  | lo, g :: L => ((List.range' lo (w + 1 - lo)).filter fun (p : Nat) => decide ((p : Int) ≤ g)).flatMap fun p => (seqL w (p + 1) L).map ((p : Int) :: ·)
def cs (w lo : Nat) (L : List Int) : Nat := (seqL w lo L).length
/-! ### rows and places -/
/-! ### counted from the front -/
end Nw

/-! DL192: a counting dict: its part with a property, made by dict(pairs); list(d.values()); zip of a tuple and a list, evaluated; the levels as the law counts them. -/
namespace DL
open PySem (Str)
end DL
namespace Nw
open DL
end Nw

/-! DL193: the mirror image and the network read backwards: limits, the arrangements sorted, the fewest rounds. -/
namespace Nw
open DL
/-! ### the mirror image -/
/-! ### read backwards: the inverse arrangement -/
/-! ### the fewest rounds -/
end Nw

/-! DL194: repr of a list of two things of which the second is an empty dict. -/
namespace DL
open PySem PySem.Spec PyProof.Rows L2
section
variable {ca : Nat → Addr} {K : PySem.W.Frag} {Hf H Hf1 H1 : Hp} {S : Rg} {X : Cx} {v : V} {d : D}
end
end DL

/-! DL195: three keywords in the reverse order of the parameters. -/
namespace DL
open PySem L2 PyProof.Rows
end DL

set_option maxHeartbeats 2000000
/-! DL196: != of two tuples that stand, by their items. -/
namespace DL
section
open PySem PySem.SeqAt GQ
open AutoSeq1 (wpAny_loadPart')
open MeetsSeq MeetsSeq2 MeetsSeq3 SeqRoads2
variable {prog : Program} {w : World} {A : Around} {R : Result → Shared → Prop}
end
section
open PySem PySem.Spec PyProof.Rows L2
variable {ca : Nat → Addr} {K : PySem.W.Frag} {Hf H : Hp} {S : Rg} {R : Nat → Rg} {σ : L2.St} {st : Sl} {X : Cx}
end
end DL

set_option maxHeartbeats 1000000
/-! DL197: repr of a list that holds instances with an own __repr__: their __repr__ runs while the list's repr is under way. -/
namespace DL
open PySem PySem.Spec PyProof.Rows L2
open Builtin Builtin.List

/-! ### room, the repr of the list l under way -/
/-- only l is guarded -/
def GdL (l : Addr) (k : Nat) (A : Around) : Prop := (∃ g, A.guards = some g ∧ ∀ b, b ≠ l → Clear g b) ∧ Room k A
theorem GdL.mono {l : Addr} {j k : Nat} {A : Around} (r : GdL l k A) (h : j ≤ k) : GdL l j A := ⟨r.1, r.2.mono h⟩
section
variable {ca : Nat → Addr} {K : PySem.W.Frag} {Hf H Hf1 H1 : Hp} {S : Rg} {X : Cx} {v : V} {d : D} {P : Program} {w : World} {mg : Str → Option Value} {base : Heap} {L : List Nat}
/-! ### what reads no list -/
/-! ### the loop -/
/-! ### the rule -/
end
end DL

set_option maxHeartbeats 1000000
/-! DL198: a generator's turn while other private things are held. -/
namespace DL
open PySem L2 PyProof.Rows

/-- nothing in common -/
structure Disj (G W : Prv) : Prop where
  obj : ∀ b o, G.obj b = some o → W.obj b = none
  gen : ∀ (i : Nat) (x : GenState), G.gen i = some x → W.gen i = none
section
variable {ca : Nat → Addr} {X : Cx} {pins : List (Addr × Obj)} {σ : L2.St} {H Hf Hf0 : Hp} {s : Shared} {G W : Prv} {k : Nat} {a : Addr} {d : D} {ds : List D}
/-- what a turn leaves -/
structure TurnH (ca : Nat → Addr) (X : Cx) (pins : List (Addr × Obj)) (σ : L2.St) (Hf H : Hp) (s : Shared) (G W : Prv) (s1 : Shared) (Hf1 H1 : Hp) (Q : Rg) (G1 : Prv) : Prop where
  inv : Inv X pins σ H1 s1
  hd : Held X pins H1 W s1
  hg : Held X pins H1 G1 s1
  tr : Tr Em Hf H Q Hf1 H1
  wl : Wl Hf1 H1 Q
  dj : Disj G1 W
  run : ∀ i : Nat, ¬ G1.run i
end
end DL

set_option maxHeartbeats 1000000
/-! DL199: rows[e].insert(e1, e2), rows a slot's own list of own flat lists: they stand while the place and the item are computed. -/
namespace DL
open PySem PySem.Spec PyProof.Rows L2
section
variable {ca : Nat → Addr} {K : PySem.W.Frag} {Hf H Hf1 H1 : Hp} {S S1 : Rg} {X : Cx}
end
end DL

set_option maxHeartbeats 1000000
/-! DL200: dict(list of pairs), the keys whole numbers. -/
namespace DL
open PySem PySem.Spec PyProof.Rows L2
section
variable {ca : Nat → Addr} {K : PySem.W.Frag} {Hf H : Hp} {S : Rg} {vs : List V} {ds : List D} {X : Cx} {R : Nat → Rg} {σ : L2.St} {st : Sl}
end
section
variable {ca : Nat → Addr} {K : PySem.W.Frag} {Hf H H3 Hf1 H1 Hf2 H2 : Hp} {S P : Rg} {R R1 R2 : Nat → Rg} {σ : L2.St} {st : Sl} {v : V} {d : D} {vs : List V} {ds : List D} {X : Cx} {L : List Nat}
end
end DL

set_option maxHeartbeats 1000000
/-! DL201: methods that say super().m(..) in their first statement. -/
namespace DL
open PySem PySem.Spec PyProof.Rows L2 PySem.W
/-- like FnScope; the class's cell is its one free name -/
structure FnScopeS (N P : List Str) (sc : Scope) : Prop where
  kind : sc.kind = .function
  co : sc.isCoroutine = false
  gen : sc.isGenerator = false
  nd : N.Nodup
  pre : N.take P.length = P
  par : ∀ x ∈ P, sc.names.lookup x = some .local
  nocell : ∀ y ∈ sc.names, y.2 ≠ .cell
  free : ∀ y ∈ sc.names, y.2 = .free → y.1 = "__class__"
  frk : sc.names.lookup ("__class__" : Str) = some .free
  sup : sc.names.lookup ("super" : Str) = some .globalImplicit
/-- a method that closes over the cell cc of its class at D -/
structure FunS (P : Program) (K : PySem.W.Frag) (x qual : Str) (st : Stmt) (f : Addr) (fd : FuncData) (cc Dc : Addr) : Prop where
  ex : ∃ (oc : Value) (od : Option Addr) (kV doc pm ct : Value) (an : Option Addr) (cda : Addr) (osl : Array (Option Value)), fd = ksFn x qual (defArgs st) (defBody st) (defScope st) .none kV doc pm an (.ref cda) ct cc ∧ K.lookup f = some ⟨oc, od, .func fd, osl⟩ ∧ codeIn K (.ref cda) qual = true ∧
    ∃ (ccl : Value) (cdd : Option Addr) (vs : Array Value) (ccs : Array (Option Value)) (file : Str) (tf : Tok), K.lookup cda = some ⟨ccl, cdd, .fields vs, ccs⟩ ∧ vs[2]? = some (.str file tf) ∧ ((P.main.file : Str) == file) = true
  cell : ∃ (cl : Value) (cld : Option Addr) (csl : Array (Option Value)), K.lookup cc = some ⟨cl, cld, .cell (some (.ref Dc)), csl⟩
  cls : ∃ cdD, clsIn K Dc = some cdD
  top : (P.main.scope.names.lookup ("super" : Str)).isSome = false
section
variable {ca : Nat → Addr} {CX : CXT} {P : Program} {w : World} {K : PySem.W.Frag} {mg : Str → Option Value} {base : Heap} {N ps : List Str} {qual x : Str} {st : Stmt} {scope : Scope} {f cda cc Dc : Addr} {fd : FuncData} {A : Around} {outer : List Env} {s : Shared} {H : Hp} {E : XK} {us : List Value} {vs : List V} {L : List Nat}
end
/-! ### the promises of a statement run where its activation is known -/
section
structure WeA (X : Cx) (body : List Stmt) (e : Expr) (σ : L2.St) (H : Hp) (Q : VK) : Prop where
  run : ∀ (pins : List (Addr × Obj)) (s : Shared), Inv X pins σ H s → _root_.PySem.wpAt (model X.prog X.w) X.A (.func body X.env) (eval e X.env) (EP X pins σ Q) X.xe s
structure WsA (X : Cx) (body : List Stmt) (st : Stmt) (D : Ends) (σ : L2.St) (H : Hp) : Prop where
  run : ∀ (pins : List (Addr × Obj)) (s : Shared), Inv X pins σ H s → _root_.PySem.wpAt (model X.prog X.w) X.A (.func body X.env) (exec st X.env) (SP X pins D) X.xe s
structure WssA (X : Cx) (body : List Stmt) (st : List Stmt) (D : Ends) (σ : L2.St) (H : Hp) : Prop where
  run : ∀ (pins : List (Addr × Obj)) (s : Shared), Inv X pins σ H s → _root_.PySem.wpAt (model X.prog X.w) X.A (.func body X.env) (execs st X.env) (SP X pins D) X.xe s
variable {ca : Nat → Addr} {X : Cx} {body : List Stmt} {L : List Nat}
end
/-! ### super().m(e, ..) -/
section
variable {ca : Nat → Addr} {CX : CXT} {P : Program} {w : World} {K : PySem.W.Frag} {mg : Str → Option Value} {base : Heap} {N ps : List Str} {qual x nm p0 : Str} {st : Stmt} {scope : Scope} {f f2 cda cc Dc : Addr} {fd : FuncData} {A : Around} {outer : List Env} {s : Shared} {H : Hp} {E : XK} {us : List Value} {vs : List V} {L : List Nat} {body : List Stmt}
/-- what the written part says of super().nm within an instance of C -/
structure SupOf (K : PySem.W.Frag) (mg : Str → Option Value) (C Dc f2 : Addr) (nm : Str) : Prop where
  sub : mroIn K C (.ref Dc) = some true
  sn : mg "super" = none
  op : nsIn K cStatics "thirdparty.any" = some none
  at_ : ks_superIn K C Dc nm = some (some (.ref f2))
  ty : typeIn K (.ref f2) = some (.type "function")
  fi : fnIn K f2 = true
end
/-! ### a def by such a body -/
section
variable {ca : Nat → Addr} {P : Program} {w : World} {K : PySem.W.Frag} {mg : Str → Option Value} {base : Heap} {N ps : List Str} {x qual : Str} {st : Stmt} {f cc Dc : Addr} {fd : FuncData} {L : List Nat} {k n : Nat} {mb : MS}
end
end DL

set_option maxHeartbeats 1000000
/-! DL202: o.f += e, a whole number in a field of the slot's own instance; o.m(*xs). -/
namespace DL
open PySem PySem.Spec PyProof.Rows L2
section
variable {ca : Nat → Addr} {Hf H Hf1 H1 Hf2 H2 : Hp} {S P P1 P2 : Rg} {R R1 R2 : Nat → Rg} {σ : L2.St} {st : Sl} {v : V} {d : D} {vs : List V} {ds : List D} {X : Cx} {L : List Nat}
end
end DL

/-! DL203: sorted(set(t)), t a tuple of whole numbers (DL78 for a tuple). -/
namespace DL
open PySem PySem.Spec PyProof.Rows L2
section
variable {P : Program} {w : World} {A : Around} {E : Value → Shared → Prop} {s : Shared}
end
end DL

set_option maxHeartbeats 1000000
/-! DL204: properties read where an exception is handled (a getter's promise that does not ask whether one is). -/
namespace DL
open PySem PySem.Spec PyProof.Rows L2 L2H
theorem _root_.L2H.RoomH.in1 {k : Nat} {A : Around} (r : RoomH (k + 1) A) : RoomH k A.in1 := ⟨by have := r.dp; show A.depth + 3 * k + 5 < _; omega, by have := r.un; show A.units + 1 + 16 * k + 200 < _; omega⟩
/-- like FnOk, an exception being handled or not -/
structure FnC (P : Program) (w : World) (K : PySem.W.Frag) (mg : Str → Option Value) (base : Heap) (CX : CXT) (k : Nat) (f : Addr) (fd : FuncData) (ps : List Str) (sp : Sp) : Prop where
  len : ∀ vs H Q E, sp vs H Q E → vs.length = ps.length
  run : ∀ (A : Around) (outer : List Env) (s : Shared) (H : Hp) (args : Args) (us : List Value) (vs : List V) (Q : VK) (E : XK), RoomH k A → Env0 P w K mg base A outer s H → BindsTo s fd args (ps.zip us) → Vals vs us → sp vs H Q E →
    codeAny (model P w) A (.call (.ref f) args) (L2.CR CX outer P w H s Q E) s
section
variable {X : Cx} {CX : CXT} {k : Nat} {C p g a dx : Addr} {fs : List (Str × V)} {f : Str} {fd : FuncData} {ps : List Str} {sp : Sp} {dvs : List V} {ds : List Value} {E : XK} {e : Expr} {pos : Pos} {ta : TE}

end
section
variable {ca : Nat → Addr} {X : Cx}
end
end DL

set_option maxHeartbeats 4000000
/-! DL205: an item of a slot's own list is taken out for a time; [.. for x in xs], the items handed to x. -/
namespace DL
open PySem PySem.Spec PyProof.Rows L2
section
variable {ca : Nat → Addr} {K : PySem.W.Frag} {Hf H Hf1 H1 Hf2 H2 : Hp} {S S1 S2 P P1 P2 : Rg} {R R1 R2 : Nat → Rg} {pp qq : Prop} {σ σ' : L2.St} {st st' : Sl} {v : V} {d : D} {vs : List V} {ds : List D} {X : Cx} {L : List Nat}
end
end DL

set_option maxHeartbeats 4000000
/-! DL206: f(xs[e], y): an item of a slot's own list is lent to a def, y is a name that is let stand. -/
namespace DL
open PySem PySem.Spec PyProof.Rows L2
section
variable {ca : Nat → Addr} {K : PySem.W.Frag} {Hf H Hf1 H1 Hf2 H2 : Hp} {S S1 S2 P P1 P2 : Rg} {R R1 R2 : Nat → Rg} {pp qq : Prop} {σ σ' : L2.St} {st st' : Sl} {v : V} {d : D} {vs : List V} {ds : List D} {X : Cx} {L : List Nat}
end
end DL

set_option maxHeartbeats 1000000
/-! DL207: an expression that only looks, and gives a list of fresh flat lists. -/
namespace DL
open PySem PySem.Spec PyProof.Rows L2
section
variable {ca : Nat → Addr} {K : PySem.W.Frag} {Hf H H3 Hf1 H1 Hf2 H2 : Hp} {S P : Rg} {R R1 R2 : Nat → Rg} {σ : L2.St} {st : Sl} {v : V} {d : D} {vs : List V} {ds : List D} {X : Cx} {L : List Nat}
end
end DL

set_option maxHeartbeats 1000000
/-! DL208: instances made by keyword. -/
namespace DL
open PySem PySem.Spec PyProof.Rows L2
section
variable {P : Program} {w : World} {K : PySem.W.Frag} {mg : Str → Option Value} {base : Heap} {ca : Nat → Addr} {L : List Nat}
end
section
variable {ca : Nat → Addr} {Hf H : Hp} {S P : Rg} {R : Nat → Rg} {σ : L2.St} {st : Sl} {X : Cx}
end
end DL

set_option maxHeartbeats 1000000
/-! DL209: meanings for a console: match on a text, an own dict in a field, an own instance lent out of it, tables of the module, a thing let stand for a while. -/
namespace DL
open PySem PySem.Spec PyProof.Rows L2
end DL

set_option maxHeartbeats 1000000
/-! DL210: a generator whose first turn raises; a list comprehension over it. -/
namespace DL
open PySem PySem.Spec L2 PyProof.Rows GenW

/-- the first statement's exception, if it is of the class C -/
def gnXM (n w C : Nat) (m1 : MS) : List D → Option Xc := fun ds => if ds.length = n then (match m1 (ds.map some ++ List.replicate (w - n) none) with
  | .exc x _ => if x.C = C then some x else none
  | _ => none) else none
theorem wX_pin {X : Cx} {E : XK} (t : Takes X (fun cls d _ H' => E cls d H' ∧ ∀ p ∈ X.pn, H' p.1 = none)) {cls : Value} {d : Option Addr} {σ : L2.St} {H : Hp} (h : E cls d H) : wX X cls d σ H := by
  rintro u s' ⟨a, B, sI, pins, σ1, H1, cls1, d1, h1, I, h3, h4, h5, h6, h7, h8, e1, e2, e3, e4⟩
  subst e1; subst e2; subst e3; subst e4
  exact t u s' ⟨a, B, sI, pins, _, _, _, _, h1, I, h3, h4, h5, h6, h7, h8, h, fun p hp => (I.pin p (List.mem_append_left _ hp)).2.1⟩
theorem CX.imp {P : Program} {w : World} {outer : List Env} {H : Hp} {s s' : Shared} {E E' : XK} {e : Value} (c : CX P w outer H s E e s') (h : ∀ cls d H', E cls d H' → E' cls d H') : CX P w outer H s E' e s' :=
  let ⟨a, B, H', cls, d, e1, fl, hok, ub, na, os, ag, q⟩ := c
  ⟨a, B, H', cls, d, e1, fl, hok, ub, na, os, ag, h _ _ _ q⟩
/-- the promise of a generator def whose first turn raises -/
def GnX (ca : Nat → Addr) (P : Program) (w : World) (K : PySem.W.Frag) (mg : Str → Option Value) (base : Heap) (k : Nat) (f : Addr) (mx : List D → Option Xc) : Prop :=
  ∀ (A : Around) (outer : List Env) (s : Shared) (H : Hp) (us : List Value) (vs : List V) (Hf : Hp) (ds : List D) (x : Xc) (E : XK), RoomG k A → Env0 P w K mg base A outer s H → Vals vs us → RepL ca K Hf H Em vs ds → Ex Hf H → TpH Hf H → mx ds = some x →
    (∀ cls dd Hf' H', Tr Em Hf H Em Hf' H' → Ex Hf' H' → TpH Hf' H' → XcR ca K Hf' H' cls dd x → E cls dd H') →
    codeAny (model P w) A (.call (.ref f) ⟨us, []⟩) (fun r s' => ∃ (a g : Nat) (c : Code), r = .ok (.ret (.ref a)) ∧ s'.heap.IsGen a g ∧ s'.gens[g]? = some (.fresh c) ∧ s'.os = s.os ∧ AllBare s'.gens ∧ (∀ b o, s.heap.get? b = some o → s'.heap.get? b = some o) ∧ s.heap.objs.size ≤ s'.heap.objs.size ∧
      ∀ (A' : Around) (s2 : Shared) (pn : List (Addr × Obj)), RoomG k A' → A'.frames = some outer → (∀ b o, s'.heap.get? b = some o → s2.heap.get? b = some o) → s2.os = s.os → AllBare s2.gens → s2.gens[g]? = some (.fresh c) →
        (∀ p ∈ pn, s'.heap.objs.size ≤ p.1 ∧ s2.heap.get? p.1 = some p.2 ∧ ∀ v, p.2.data ≠ .cell v) →
        wpAny (model P w) A' (pyNext (.ref a)) (fun _ _ => False) (fun e s3 => CX P w outer H s (fun cls dd H' => E cls dd H' ∧ ∀ p ∈ pn, H' p.1 = none) e s3 ∧ ∀ p ∈ pn, s3.heap.get? p.1 = some p.2) s2) s
section
variable {ca : Nat → Addr} {P : Program} {w : World} {K : PySem.W.Frag} {mg : Str → Option Value} {base : Heap}
/-- what the callee began with stands in its exception's heap -/
theorem cx_kin {A : Around} {outer : List Env} {s s' : Shared} {H : Hp} {E : XK} {e : Value} (e0 : Env0 P w K mg base A outer s H) (c : CX P w outer H s E e s') : K.In s'.heap := by
  obtain ⟨a, B, H', cls, d, rfl, fl, _, ub, _⟩ := c
  intro b o hb
  have hbb := e0.mod.kin b o hb
  obtain ⟨h1, h2⟩ := e0.bs b o hbb
  refine fl.1 b o (ub.keep b o h1 h2 fun hm => ?_)
  have := (e0.funs.mem hm).1
  rw [hbb] at this
  cases this
theorem gnx_ok {x qual : Str} {st : Stmt} {f : Addr} {fd : FuncData} {N ps : List Str} {k n C : Nat} {m1 : MS} {b1 : Stmt} {rest : List Stmt} (F : Fun K x qual st f fd) (B : Binds K fd ps []) (S : GScope N ps (defScope st)) (hn : ps.length = n) (hbd : defBody st = b1 :: rest)
    (hst : PySem.W.subIn K (.ref (ca C)) (.type "StopIteration") = some false)
    (hb : ∀ (A : Around) (outer : List Env) (s : Shared) (H : Hp) (E : XK) (pn : List (Addr × Obj)) (cdv : Value), RoomG k (A.deeper (envOfC qual (defScope st) s.heap.objs.size f cdv)) → CS ca (gcxOf P w K mg base N qual (defScope st) f cdv A outer s H E pn) [] b1 m1) :
    GnX ca P w K mg base (k + 2) f (gnXM n N.length C m1) := by
  obtain ⟨oc, od, kV, doc, pm, an, cdv, ct, osl, rfl, lk, hcd⟩ := F.ex
  intro A outer s H us vs Hf ds xc E hr e0 r rep hx htp hm hE
  unfold gnXM at hm
  by_cases hds : ds.length = n
  case neg => rw [if_neg hds] at hm; cases hm
  rw [if_pos hds] at hm
  have hl : vs.length = ps.length := by rw [rep.length, hds, hn]
  have KX : K.In s.heap := e0.mod.kin.keeps fun b o e => (e0.bs b o e).1
  have lim : s.heap.NoLimit := e0.mod.nolimit.keeps fun b o e => (e0.bs b o e).1
  have hb0 := B s us KX (by rw [List.append_nil, ← r.length, hl])
  rw [List.append_nil] at hb0
  have hkind : ∀ y ∈ ps.zip us, (defScope st).names.lookup y.1 = some .local ∨ ((defScope st).names.lookup y.1 = some .cell ∧ ((cellsFrom (s.heap.objs.size + 1) (defScope st).names []).lookup y.1).isSome = true) := fun ⟨n, v⟩ hy => by
    rcases S.par n (List.of_mem_zip hy).1 with q | q
    · exact .inl q
    · exact .inr ⟨q, PySem.W.cellsFrom_some _ _ _ (.inl q)⟩
  refine codeAny_call_generator hr.2.depth (KX _ _ lk) rfl S.co S.gen rfl (PySem.W.codeRec_of KX hcd) (hb0 _ _ _ _ ?_)
  refine wpAny_newFunctionEnv_cells S.kind hkind fun env he s1 x => ?_
  subst he
  have lim1 : s1.heap.NoLimit := lim.keeps x.toInCall.keep
  refine ⟨lim1, ?_⟩
  obtain ⟨h1, tk, es1, hk1⟩ := x.done
  have os1 : s1.os = s.os := by rw [es1]
  have gen1 : s1.gens = s.gens := by rw [es1]
  have lt1 : s.heap.objs.size < s1.heap.objs.size := x.toInCall.ns.lt
  have sz1 : s.heap.objs.size ≤ s1.heap.objs.size := Nat.le_of_lt lt1
  have kp1 : ∀ b o, s.heap.get? b = some o → s1.heap.get? b = some o := x.toInCall.keep
  have main : ∀ (go : Obj) (nm qn : Value) (tk2 : Nat), go.cls = .type "generator" → go.data = .fields #[.int s1.gens.size 0, nm, qn] → go.slots = #[] → (∀ h : Heap, (h.push go).get? h.objs.size = some go) →
      ∃ (a g : Nat) (c : Code), (.ok (.ret (.ref s1.heap.objs.size)) : Result) = .ok (.ret (.ref a)) ∧ (s1.heap.push go).IsGen a g ∧ (s1.gens.push (.fresh (.func (defBody st) (envOfC qual (defScope st) s.heap.objs.size f cdv))))[g]? = some (.fresh c) ∧ s1.os = s.os ∧ AllBare (s1.gens.push (.fresh (.func (defBody st) (envOfC qual (defScope st) s.heap.objs.size f cdv)))) ∧ (∀ b o, s.heap.get? b = some o → (s1.heap.push go).get? b = some o) ∧ s.heap.objs.size ≤ (s1.heap.push go).objs.size ∧
      ∀ (A' : Around) (s2 : Shared) (pn : List (Addr × Obj)), RoomG (k + 2) A' → A'.frames = some outer → (∀ b o, (s1.heap.push go).get? b = some o → s2.heap.get? b = some o) → s2.os = s.os → AllBare s2.gens → s2.gens[g]? = some (.fresh c) →
        (∀ p ∈ pn, (s1.heap.push go).objs.size ≤ p.1 ∧ s2.heap.get? p.1 = some p.2 ∧ ∀ v, p.2.data ≠ .cell v) →
        wpAny (model P w) A' (pyNext (.ref a)) (fun _ _ => False) (fun e s3 => CX P w outer H s (fun cls dd H' => E cls dd H' ∧ ∀ p ∈ pn, H' p.1 = none) e s3 ∧ ∀ p ∈ pn, s3.heap.get? p.1 = some p.2) s2 := by
    intro go nm qn tk2 hgc hgd0 hgs hgp
    have hgen : ∀ h : Heap, h.get? s1.heap.objs.size = some go → h.IsGen s1.heap.objs.size s1.gens.size := fun h e => ⟨go, nm, qn, e, hgc, hgd0, hgs⟩
    have hpushed : (s1.heap.push go).get? s1.heap.objs.size = some go := hgp _
    refine ⟨s1.heap.objs.size, s1.gens.size, _, rfl, hgen _ hpushed, Array.getElem?_push_size .., os1, AllBare.push (by rw [gen1]; exact e0.bare) rfl, fun b o e => Heap.get?_push_of_some _ (kp1 b o e), by rw [Heap.size_push]; omega, ?_⟩
    intro A' s2 pn hrw hfr hk2 hos hba hg2 hpn
    have hrw1 : RoomG (k + 1) A'.in1 := hrw.in1
    have hfr1 : A'.in1.frames = some outer := hfr
    have e0w : Env0 P w K mg base A'.in1 outer s H := ⟨hfr1, e0.mod, e0.bs, e0.bsz, e0.funs, e0.frf, e0.hok, e0.bare⟩
    let E2 : XK := fun cls dd H' => (E cls dd H' ∧ cls = .ref (ca C)) ∧ ∀ p ∈ (s1.heap.objs.size, go) :: pn, H' p.1 = none
    have I1 : Inv (gcxOf P w K mg base N qual (defScope st) f cdv A'.in1 outer s H E2 []) [] (L2.start N vs) H s1 := inv_startG S hrw1.2.hd e0w hl r x
    have kp2 : ∀ b o, s1.heap.get? b = some o → s2.heap.get? b = some o := fun b o e => hk2 b o (Heap.get?_push_of_some _ e)
    have hea : s2.heap.get? s1.heap.objs.size = some go := hk2 s1.heap.objs.size go hpushed
    have hgd : ∀ v, go.data ≠ .cell v := fun v q => by rw [hgd0] at q; cases q
    have I2 : Inv (gcxOf P w K mg base N qual (defScope st) f cdv A'.in1 outer s H E2 []) [] (L2.start N vs) H (s2.setGen s1.gens.size .running) :=
      I1.call' (ch := []) (s' := s2.setGen s1.gens.size .running) (hos.trans os1.symm) (Un.kept kp2) (I1.hok.kept kp2) (allBare_setGen hba rfl) fun b z => absurd z (by simp)
    have young : ∀ b, s1.heap.objs.size ≤ b → H b = none ∧ b ≠ s.heap.objs.size ∧ b ∉ frs outer := fun b hb => ⟨I1.hok.fresh hb, Nat.ne_of_gt (Nat.lt_of_lt_of_le lt1 hb), I1.nofs hb⟩
    have I3 : Inv (gcxOf P w K mg base N qual (defScope st) f cdv A'.in1 outer s H E2 ((s1.heap.objs.size, go) :: pn)) [] (L2.start N vs) H (s2.setGen s1.gens.size .running) := Inv.pinnedG I2 fun p hp => by
      rw [List.append_nil] at hp
      rcases List.mem_cons.mp hp with z | z
      · rw [z]
        obtain ⟨y1, y2, y3⟩ := young s1.heap.objs.size (Nat.le_refl _)
        exact ⟨hea, y1, y2, y3, hgd⟩
      · obtain ⟨q1, q2, q3⟩ := hpn p z
        rw [Heap.size_push] at q1
        obtain ⟨y1, y2, y3⟩ := young p.1 (by omega)
        exact ⟨q2, y1, y2, y3, q3⟩
    let st0 : Sl := ds.map some ++ List.replicate (N.length - n) none
    have hvn : ps.length ≤ N.length := by
      have := congrArg List.length S.pre
      rw [List.length_take] at this
      omega
    have p0 : PR ca K Hf H Em True (fun _ => Em) (L2.start N vs) st0 := by
      obtain ⟨R, ra, _, _⟩ := repL_split rep
      refine ⟨trivial, ?_, fun i d e => ?_, fun i j b q _ => q.elim, fun _ _ q => q.elim, ⟨hx, fun b q => q.elim (fun q => q.elim) fun ⟨_, q⟩ => q.elim, fun b q => q.elim (fun q => q.elim) fun ⟨_, q⟩ => q.elim, htp⟩⟩
      · show (ds.map some ++ List.replicate (N.length - n) none).length = _
        unfold L2.start; simp [hds, hl, hn]
      · have e : getS (ds.map some ++ List.replicate (N.length - n) none) i = some d := e
        have hi : i < ds.length := by
          by_cases hi : i < ds.length
          · exact hi
          · exfalso
            unfold getS at e
            rw [List.getElem?_append_right (by simp; omega), List.getElem?_replicate] at e
            split at e <;> cases e
        have e1 : ds[i]? = some d := by
          unfold getS at e
          rw [List.getElem?_append_left (by simpa using hi), List.getElem?_map, List.getElem?_eq_getElem hi] at e
          rw [List.getElem?_eq_getElem hi]
          exact e
        obtain ⟨v, e2, r2⟩ := ra i d e1
        refine ⟨v, by rw [start_at (by rw [rep.length]; exact hi), e2], ?_⟩
        have key : ∀ {vs : List V} {ds : List D} {i : Nat} {v : V} {d : D}, RepL ca K Hf H Em vs ds → vs[i]? = some v → ds[i]? = some d → Rep ca K Hf H Em v d := by
          intro vs ds
          induction ds generalizing vs with
          | nil => intro i v d _ _ h; simp at h
          | cons d0 ds ih =>
            intro i v d r h1 h2
            cases r with
            | cons q1 q2 k1 k2 _ =>
              cases i with
              | zero =>
                simp at h1 h2
                subst h1; subst h2
                exact q1.mono k1
              | succ i => exact ih (q2.mono k2) (by simpa using h1) (by simpa using h2)
        exact key rep e2 e1
    have hex : ∃ st1, m1 st0 = .exc xc st1 ∧ xc.C = C := by
      cases em : m1 st0 with
      | exc x' st1 =>
        rw [show m1 (ds.map some ++ List.replicate (N.length - n) none) = .exc x' st1 from em] at hm
        dsimp only at hm
        by_cases hc : x'.C = C
        · rw [if_pos hc] at hm
          cases hm
          exact ⟨st1, rfl, hc⟩
        · rw [if_neg hc] at hm; cases hm
      | next st1 => rw [show m1 (ds.map some ++ List.replicate (N.length - n) none) = .next st1 from em] at hm; cases hm
      | ret d st1 => rw [show m1 (ds.map some ++ List.replicate (N.length - n) none) = .ret d st1 from em] at hm; cases hm
      | brk st1 => rw [show m1 (ds.map some ++ List.replicate (N.length - n) none) = .brk st1 from em] at hm; cases hm
      | cont st1 => rw [show m1 (ds.map some ++ List.replicate (N.length - n) none) = .cont st1 from em] at hm; cases hm
      | fail => rw [show m1 (ds.map some ++ List.replicate (N.length - n) none) = .fail from em] at hm; cases hm
    obtain ⟨st1, em, hC⟩ := hex
    have hw : Ws (gcxOf P w K mg base N qual (defScope st) f cdv A'.in1 outer s H E2 ((s1.heap.objs.size, go) :: pn)) b1 { nx := fun _ _ => False, rt := fun _ _ => False, bk := fun _ _ => False, ct := fun _ _ => False } (L2.start N vs) H :=
      hb A'.in1 outer s H E2 ((s1.heap.objs.size, go) :: pn) cdv (hrw1.deeper _) Hf H (fun _ => Em) (L2.start N vs) st0 _ p0 (by
        rw [em]
        intro Hf' H' R' σ' cls dd t pr _
        refine wX_pin (E := fun cls dd H' => E cls dd H' ∧ cls = .ref (ca C)) takes_gcx ⟨hE cls dd Hf' H' ?_ pr.w.ex pr.w.tp pr.pend, ?_⟩
        · exact ⟨t.fx, fun b o e n => t.keep b o e fun q => q.elim (fun q => q.elim) fun ⟨_, q⟩ => q.elim, fun b q => q.elim, fun b o e => (t.fz b o e).imp id fun z => z.imp (fun q => q.elim id fun ⟨_, q⟩ => q) id⟩
        · rw [pr.pend.1, hC])
    have hseg : Seg (model P w) A'.in1 (fun n s₀ r s₁ => ((r = .ok (.ret .none) ∨ r = .ok .next) ∧ (fun (_ : Nat) (_ _ : Shared) => False) n s₀ s₁) ∨ ∃ e, r = .error e ∧ (CX P w outer H s E2 e s₁ ∧ ∀ p ∈ (s1.heap.objs.size, go) :: pn, s₁.heap.get? p.1 = some p.2)) (fun _ _ _ _ _ => False) 0
        (s2.setGen s1.gens.size .running) (.func (defBody st) (envOfC qual (defScope st) s.heap.objs.size f cdv)) ((model P w).den (.func (defBody st) (envOfC qual (defScope st) s.heap.objs.size f cdv))) [] (s2.setGen s1.gens.size .running) := by
      refine seg_func ?_
      refine seg_wrap ?_
      rw [over_func]
      rw [hbd]
      refine wpAny_execs_cons (wpAny_mono (hw.run [] _ I3) (fun fl s' q => ?_) fun e s' hx => ?_)
      · cases fl with
        | next => obtain ⟨_, _, _, z⟩ := q; exact z.elim
        | brk => obtain ⟨_, _, _, z⟩ := q; exact z.elim
        | cont => obtain ⟨_, _, _, z⟩ := q; exact z.elim
        | ret u => obtain ⟨_, _, _, _, _, z⟩ := q; exact z.elim
      · rw [← hbd]
        refine seg_wrap ?_
        rw [over_func]
        refine wpAny_mono (show wpAny (model P w) (A'.in1.deeper (envOfC qual (defScope st) s.heap.objs.size f cdv)) (leaving (envOfC qual (defScope st) s.heap.objs.size f cdv) e) (fun _ s'' => CX P w outer H s E2 e s'' ∧ ∀ p ∈ (s1.heap.objs.size, go) :: pn, s''.heap.get? p.1 = some p.2) (fun _ _ => False) s' from hx) (fun _ s'' q => ?_) fun _ s'' q => q.elim
        exact seg_end (.error e) (.inr ⟨e, rfl, q⟩)
    refine next_genG (F := fun _ _ _ => False) (Er := fun e s₁ => CX P w outer H s E2 e s₁ ∧ ∀ p ∈ (s1.heap.objs.size, go) :: pn, s₁.heap.get? p.1 = some p.2) (Y := fun _ _ _ _ _ => False) (n := 0) hrw.2.hd (lim1.keeps kp2) hrw1.2.depth (hgen _ hea) hg2 ⟨rfl, hseg⟩
      (fun v s₁ gs' _ z => z.elim) (fun s₁ z => z.elim) fun e s₁ ⟨c, hp⟩ => ⟨hgen _ (hp (s1.heap.objs.size, go) List.mem_cons_self), notStop_of (fun cls d H' q => by rw [q.1.2]; exact hst) (cx_kin e0 c) c, ?_, fun p hq => hp p (List.mem_cons_of_mem _ hq)⟩
    obtain ⟨a, B, H', cls, d, e1, fl, hok, ub, na, os, ag, q⟩ := c
    exact ⟨a, B, H', cls, d, e1, fl, hok, ub, na, os, allBare_setGen ag rfl, q.1.1, fun p hq => q.2 p (List.mem_cons_of_mem _ hq)⟩
  exact main _ _ _ (s1.toks + 1 + 1) rfl rfl rfl fun h => Heap.get?_push_size _ rfl
end
end DL

set_option maxHeartbeats 1000000
/-! DL211: a list comprehension over a generator whose first turn raises. -/
namespace DL
open PySem PySem.Spec L2 PyProof.Rows

theorem noteFrame_at {e : Value} {env env' : Env} (h : env'.frame = env.frame) : noteFrame e env' = noteFrame e env := by
  unfold noteFrame PySem.frameOf
  rw [h]
/-- a comprehension that raises: its variables are let go, the exception passes on -/
theorem comp_raises {M : Model} {A : Around} {E : Value → Shared → Prop} {env : Env} {s : Shared} {e : Expr} {scope : Scope} {pos : Pos} {newAcc first : Sem Value} {g : Comprehension} {gs : List Comprehension} {cl : List (Str × Addr)} {use : Option (Value → Sem Unit)} {Q : Value → Shared → Prop}
    (hcl : clausesOf e = g :: gs) (hs : ∀ x, foldedSetIterable g.iter env x = pure x) (hclos : closureFor scope env = pure cl) (hkind : scope.kind = .function) (hnames : ∀ x ∈ scope.names, x.2 = .local → scope.names.lookup x.1 = some .local)
    (h : wpAny M A first (fun x s₁ => wpAny M A (pyIter x) (fun it s₂ => wpAny M A newAcc (fun acc s₃ => wpAny M A (newFunctionEnv scope env.globals cl [] env.qual none .none (some env)) (fun cenv s₄ =>
      codeAny M A (.compStart e 0 it acc { cenv with scope := relabel scope env }) (fun r s' => ∃ x m, r = .error x ∧ s'.heap.Ns cenv.locals m ∧ ∀ h' m', h'.Ns cenv.locals m' → Heap.SameBut cenv.locals s'.heap h' →
        wpAny M A (PySem.passOn "comprehension.variables-let-go" x { cenv with scope := relabel scope env } : Sem Value) (fun _ _ => False) E { s' with heap := h' }) s₄) E s₃) E s₂) E s₁) E s) :
    wpAny M A (comprehension e scope env pos newAcc false first use) Q E s := by
  unfold comprehension
  rw [hclos, hcl]
  refine wpAny_bind (wpAny_mono h (fun x s₁ a₁ => wpAny_bind (wpAny_standAt (wpAny_bind (wpAny_of_eq (hs x) (wpAny_bind (wpAny_holding ?_)))))) fun _ _ z => z)
  refine wpAny_mono a₁ (fun it s₂ a₂ => wpAny_standIf (wpAny_bind (wpAny_mono a₂ (fun acc s₃ a₃ => wpAny_bind (wpAny_pure (wpAny_bind (wpAny_mono a₃ (fun cenv s₄ a₄ => ?_) fun _ _ z => z)))) fun _ _ z => z))) fun _ _ z => z
  dsimp only
  have hv : ∀ x ∈ (scope.names.filter fun x => (x.2 == .local || x.2 == .cell) && x.1 != (".0" : Str)).reverse, x.2 = .local → Env.kindOf { cenv with scope := relabel scope env } x.1 = some .local :=
    fun x hx hl => lookup_relabel_local (hnames x (List.mem_filter.mp (List.mem_reverse.mp hx)).1 hl)
  refine wpAny_holding (wpAny_bind (wpAny_attempt (wpAny_holding (wpAny_run (codeAny_mono a₄ fun r s' hr => ?_)))))
  obtain ⟨x, m, rfl, hn, hq⟩ := hr
  exact wpAny_bind (wpAny_holding (wpAny_comp_letGo (cenv := { cenv with scope := relabel scope env }) hkind _ s' m hv hn fun h' m' hn' hs' => wpAny_mono (hq h' m' hn' hs') (fun _ _ f => f.elim) fun _ _ y => y))
/-- an expression whose value is a generator whose first turn raises -/
def CGnX (ca : Nat → Addr) (X : Cx) (k : Nat) (e : Expr) (src : GSrc) : Prop := ∀ (Hf H : Hp) (R : Nat → Rg) (σ : L2.St) (st : Sl), PR ca X.K Hf H Em True R σ st → ∀ (x : Xc) (st1 : Sl), src st = .exc x st1 →
  ∀ (pins : List (Addr × Obj)) (s : Shared), Inv X pins σ H s → wpAny (model X.prog X.w) X.A (eval e X.env) (fun u s1 => ∃ (a g : Nat) (c : Code) (sc : Shared) (Hf1 H1 : Hp) (R1 : Nat → Rg), u = .ref a ∧ s1.heap.IsGen a g ∧ s1.gens[g]? = some (.fresh c) ∧ Inv X pins σ H1 sc ∧ s1.os = sc.os ∧ AllBare s1.gens ∧
    (∀ b o, sc.heap.get? b = some o → s1.heap.get? b = some o) ∧ sc.heap.objs.size ≤ s1.heap.objs.size ∧ Tr (jn Em R) Hf H (jn Em R1) Hf1 H1 ∧ PR ca X.K Hf1 H1 Em True R1 σ st1 ∧
    ∀ (A' : Around) (s2 : Shared) (pn : List (Addr × Obj)), RoomG k A' → A'.frames = some X.stack → (∀ b o, s1.heap.get? b = some o → s2.heap.get? b = some o) → s2.os = sc.os → AllBare s2.gens → s2.gens[g]? = some (.fresh c) →
      (∀ p ∈ pn, s1.heap.objs.size ≤ p.1 ∧ s2.heap.get? p.1 = some p.2 ∧ ∀ v, p.2.data ≠ .cell v) →
      wpAny (model X.prog X.w) A' (pyNext (.ref a)) (fun _ _ => False) (fun e s3 => CX X.prog X.w X.stack H1 sc (fun cls dd H' => (∃ Hf', Tr Em Hf1 H1 Em Hf' H' ∧ Ex Hf' H' ∧ TpH Hf' H' ∧ XcR ca X.K Hf' H' cls dd x) ∧ ∀ p ∈ pn, H' p.1 = none) e s3 ∧ ∀ p ∈ pn, s3.heap.get? p.1 = some p.2) s2) X.xe s
/-- what a call of a generator def is walked for, the first turn's exception too -/
def gSrcX (m : List D → Option (List D)) (mx : List D → Option Xc) (ms : MA) : GSrc := fun st => match ms st with
  | .ok ds st1 => if colds ds then (match mx ds with
    | some x => .exc x st1
    | none => (match m ds with
      | some ys => .ok ys st1
      | none => .fail)) else .fail
  | _ => .fail
theorem cgn_srcX {ca : Nat → Addr} {X : Cx} {k : Nat} {e : Expr} {m : List D → Option (List D)} {mx : List D → Option Xc} {ms : MA} (h : CGn ca X k e (gSrc m ms)) : CGn ca X k e (gSrcX m mx ms) := fun Hf H R σ st p ds st1 es => h Hf H R σ st p ds st1 (by
  unfold gSrcX at es
  unfold gSrc
  cases e1 : ms st with
  | fail => rw [e1] at es; cases es
  | exc x st2 => rw [e1] at es; cases es
  | ok ds2 st2 =>
    rw [e1] at es
    dsimp only at es ⊢
    by_cases hc : colds ds2 = true
    · rw [if_pos hc] at es ⊢
      cases e2 : mx ds2 with
      | some x => rw [e2] at es; cases es
      | none =>
        rw [e2] at es
        exact es
    · rw [if_neg hc] at es; cases es)
theorem cgnx_call {ca : Nat → Addr} {X : Cx} {k : Nat} {f : Addr} {x : Str} {p pos : Pos} {e : Expr} {es : List Expr} {m : List D → Option (List D)} {mx : List D → Option Xc} {ms : MA} (F : GnX ca X.prog X.w X.K X.mg X.base k f mx) (hr : RoomG k X.A) (hg : Gl X x) (hm : X.mg x = some (.ref f))
    (hk : PySem.W.keepIn X.K (.ref f) = true) (ha : CL ca X (e :: es) ms) (hst : NoStar (e :: es)) (hdb : (x == ("__debug__" : Str)) = false := by decide) (hpl : (backTo pos (starEach es X.env)).any (·.1) = false := by rfl) :
    CGnX ca X k (.Call (.Name x p) (e :: es) [] pos) (gSrcX m mx ms) := fun Hf H R σ st pr xc st1 esrc pins s I => by
  unfold gSrcX at esrc
  cases e1 : ms st with
  | fail => rw [e1] at esrc; cases esrc
  | exc x st1 => rw [e1] at esrc; cases esrc
  | ok ds st2 =>
  rw [e1] at esrc
  dsimp only at esrc
  by_cases hc : colds ds = true
  case neg => rw [if_neg hc] at esrc; cases esrc
  rw [if_pos hc] at esrc
  cases e2 : mx ds with
  | none =>
    rw [e2] at esrc
    dsimp only at esrc
    cases e3 : m ds with
    | none => rw [e3] at esrc; cases esrc
    | some ys => rw [e3] at esrc; cases esrc
  | some xc' =>
  rw [e2] at esrc
  cases esrc
  have hwa : Wa X (e :: es) σ H (fun vs H1 => ∃ Hf1 P1 R1, Tr (jn Em R) Hf H (jn P1 R1) Hf1 H1 ∧ PR ca X.K Hf1 H1 P1 (RepL ca X.K Hf1 H1 P1 vs ds) R1 σ st1) := wa_wl (fun e' r' q => noStar_suf hst e' r' q _) (ha Hf H R σ st _ pr (by
    rw [e1]
    exact fun Hf1 H1 P1 R1 vs t q => ⟨Hf1, P1, R1, t, q⟩))
  refine wpAny_Call_Name_kw (ld_glob I hg hm ?_ hdb)
  refine PySem.W.callWith_K (h₀ := X.base) I.ok.mod.kin hk (thn ((wa_pa X (e :: es)).run pos pins s σ H _ I hwa) fun us s1 ⟨vs, H1, I1, rv, Hf1, P1, R1, t1, p1⟩ => ⟨I1.kIn, ?_⟩) (hst.1 _) hpl
  refine wpAny_call (codeAny_mono (F X.A X.stack s1 H1 us vs Hf1 ds xc (fun cls dd H' => ∃ Hf', Tr Em Hf1 H1 Em Hf' H' ∧ Ex Hf' H' ∧ TpH Hf' H' ∧ XcR ca X.K Hf' H' cls dd xc) hr I1.env0 rv (repL_cold0 p1.pend hc) p1.w.ex p1.w.tp e2 fun cls dd Hf' H' t x1 x2 r => ⟨Hf', t, x1, x2, r⟩) fun r s' ⟨a, g, c, er, hgen, hgs, os, bare, kp, sz, nx⟩ => ?_)
  subst er
  exact ⟨a, g, c, s1, Hf1, H1, R1, rfl, hgen, hgs, I1, os, bare, kp, sz, t1.less fun b q => q.elim (fun q => q.elim) .inr, p1.drop, nx⟩
/-- [elt for tg in gen if ..], what the generator's first turn raises -/
def eLcX (src : GSrc) (g : MG) (mt : MT) (me : ME) (own : List Nat) : ME := fun st => match src st with
  | .exc x st1 => .exc x st1
  | _ => eLc (noXs src) g mt me own st
section
variable {ca : Nat → Addr} {X : Cx} {k : Nat}
theorem lcGX_raise {src : GSrc} {elt tg iter : Expr} {ifs : List Expr} {scope : Scope} {own : List (Str × Nat)} {pos pos' : Pos} {use : Option (Value → Sem Unit)} {Qf : Value → Shared → Prop} {Hf H : Hp} {R : Nat → Rg} {σ : L2.St} {st st1 : Sl} {xc : Xc} {pins : List (Addr × Obj)} {s : Shared}
    (hst : X.stack = X.env :: X.outer) (hf : X.env.frame = some X.env.locals) (hiX : CGnX ca X k iter src) (ok : BlkOk X.N X.env.scope scope own) (hr : RoomG k X.A) (hs : ∀ x, foldedSetIterable iter X.env x = pure x) (I : Inv X pins σ H s) (p : PR ca X.K Hf H Em True R σ st) (es : src st = .exc xc st1)
    (h : ∀ Hf' H' R' cls dd, Tr (jn Em R) Hf H (jn Em R') Hf' H' → PR ca X.K Hf' H' Em (XcR ca X.K Hf' H' cls dd xc) R' σ st1 → wX X cls dd σ H') :
    wpAny (model X.prog X.w) X.A (comprehension (.ListComp elt [⟨tg, iter, ifs, 0⟩] scope pos) scope X.env pos' (newList []) false (eval iter X.env) use) Qf X.xe s := by
  have hfree : ∀ y ∈ scope.names, y.2 = .free → ∃ c, X.env.cells.lookup y.1 = some c := fun y hy e => by
    rcases ok.free y hy e with k | k
    · exact I.ok.has _ (.inl k)
    · exact I.ok.has _ (.inr k)
  have hfrA : X.A.frames = some (X.env :: X.outer) := by rw [← hst]; exact I.ok.frames
  refine comp_raises rfl hs (closure_ok hfree) ok.kind (fun y hy e => by rw [ok.uniq y hy, e])
    (thn (hiX Hf H R σ st p xc st1 es pins s I) fun u s1 ⟨a, gn, c, sc, Hf1, H1, R1, eu, hgen, hgs, Ic, os1, bare1, kp1, sz1, t1, p1, nx⟩ => ?_)
  subst eu
  refine wpAny_pyIter_gen hgen ?_
  refine wpAny_newObj_type (newEnv_comp ?_) (by show 0 ≤ sizeLine; decide)
  generalize hs3 : ({ s1 with heap := s1.heap.push { cls := .type "list", data := .seq ([] : List Value).toArray } } : Shared) = s3
  have h3 : s3.heap = s1.heap.push { cls := .type "list", data := .seq ([] : List Value).toArray } := by rw [← hs3]
  show codeAny _ _ (.compStart (.ListComp elt [⟨tg, iter, ifs, 0⟩] scope pos) 0 (.ref a) (.ref s1.heap.objs.size) (compEnvC scope (cellsFrom (s3.heap.objs.size + 1) scope.names (cloFrom X.env.cells scope.names [])) s3.heap.objs.size X.env)) (fun r s' => ∃ x m, r = .error x ∧ s'.heap.Ns s3.heap.objs.size m ∧ ∀ h' m', h'.Ns s3.heap.objs.size m' → Heap.SameBut s3.heap.objs.size s'.heap h' →
      wpAny (model X.prog X.w) X.A (PySem.passOn "comprehension.variables-let-go" x (compEnvC scope (cellsFrom (s3.heap.objs.size + 1) scope.names (cloFrom X.env.cells scope.names [])) s3.heap.objs.size X.env) : Sem Value) (fun _ _ => False) X.xe { s' with heap := h' }) { s3 with heap := pushCells (s3.heap.push { cls := .type "dict", data := .dict #[] }) scope.names }
  generalize hce : compEnvC scope (cellsFrom (s3.heap.objs.size + 1) scope.names (cloFrom X.env.cells scope.names [])) s3.heap.objs.size X.env = ce
  have cL : ce.locals = s3.heap.objs.size := by subst hce; rfl
  have cF : ce.frame = X.env.frame := by subst hce; rfl
  generalize hC : s3.heap.objs.size = C at cL
  have hCs : C = s1.heap.objs.size + 1 := by rw [← hC, h3, Heap.size_push]
  generalize hs4 : ({ s3 with heap := pushCells (s3.heap.push { cls := .type "dict", data := .dict #[] }) scope.names } : Shared) = s4
  have kp4 : ∀ b o, s1.heap.get? b = some o → s4.heap.get? b = some o := fun b o e => by
    rw [← hs4]
    refine pushCells_keeps _ _ _ _ (Heap.get?_push_of_some _ ?_)
    rw [h3]
    exact Heap.get?_push_of_some _ e
  have hC4 : s4.heap.get? C = some { cls := .type "dict", data := .dict #[] } := by
    rw [← hs4, ← hC]
    exact pushCells_keeps _ _ _ _ (Heap.get?_push_size _ rfl)
  have g4 : s4.gens = s1.gens := by rw [← hs4, ← hs3]
  have o4 : s4.os = s1.os := by rw [← hs4, ← hs3]
  have hgen4 : s4.heap.IsGen a gn := hgen.keeps kp4
  have scC : sc.heap.objs.size ≤ C := by omega
  have loop : codeAny (model X.prog X.w) X.A (.compLoop (.ListComp elt [⟨tg, iter, ifs, 0⟩] scope pos) 0 (.ref a) (.ref s1.heap.objs.size) ce) (fun r s' => ∃ x m, r = .error x ∧ s'.heap.Ns C m ∧ ∀ h' m', h'.Ns C m' → Heap.SameBut C s'.heap h' →
      wpAny (model X.prog X.w) X.A (PySem.passOn "comprehension.variables-let-go" x ce : Sem Value) (fun _ _ => False) X.xe { s' with heap := h' }) s4 := by
    refine compLoop_any (fun n s' => s' = s4) (fun n s5 e5 => ?_) 0 rfl
    subst e5
    refine wpAny_mono (nx X.A s5 [(C, { cls := .type "dict", data := .dict #[] })] hr I.ok.frames kp4 (o4.trans os1) (by rw [g4]; exact bare1) (by rw [g4]; exact hgs) (fun q hq => ?_)) (fun _ _ z => z.elim) fun e6 s6 ⟨cx, hp⟩ => ?_
    · rw [List.mem_singleton.mp hq]
      exact ⟨by show s1.heap.objs.size ≤ C; omega, hC4, fun v z => nomatch z⟩
    obtain ⟨a', B, H', cls, d, rfl, fl, hok, ub, na, os, ag, ⟨⟨Hf', t2, x2, tp2, xr⟩, hpn⟩⟩ := cx
    have hCn : H' C = none := hpn (C, _) (List.mem_singleton.mpr rfl)
    have hC6 : s6.heap.get? C = some { cls := .type "dict", data := .dict #[] } := hp (C, _) (List.mem_singleton.mpr rfl)
    have hCf : C ∉ frs X.stack := fun hm => by
      obtain ⟨_, f1, f2, _⟩ := Ic.fpOk scC hCn
      rcases List.mem_cons.mp (Ic.stkSub C hm) with z | z
      · exact f1 z
      · exact f2 z
    -- the ground without the block's names
    obtain ⟨B', b1, b2⟩ := restrict B fun b => decide (b ≠ C)
    have bo : ∀ b o, B'.get? b = some o → B.get? b = some o ∧ b ≠ C := fun b o e => by
      by_cases hb : b = C
      · rw [b2 b (by simp [hb])] at e; cases e
      · rw [b1 b (by simp [hb])] at e; exact ⟨e, hb⟩
    have bi : ∀ b o, B.get? b = some o → b ≠ C → B'.get? b = some o := fun b o e hb => by rw [b1 b (by simp [hb])]; exact e
    have bn : ∀ b, B.get? b = none → B'.get? b = none := fun b e => by
      by_cases hb : b = C
      · exact b2 b (by simp [hb])
      · rw [b1 b (by simp [hb])]; exact e
    have fl' : HandSPX.FlyingZ B' (X.env :: X.outer) a' (Zc cls d) s6.heap := by
      obtain ⟨f1, f2, f3, oe, vs, T, oT, ts, he, hz, hd, h1, hnT, r⟩ := fl
      rw [← hst]
      exact ⟨fun b o e => f1 b o (bo b o e).1, bn _ f2, funFrames_none f3 fun L hL => bn _ (f3.mem hL).1, oe, vs, T, oT, ts, he, hz, hd, h1, bn _ hnT, r⟩
    show wpAny (model X.prog X.w) X.A (noteFrame (.ref a') ce) _ _ s6
    rw [noteFrame_at cF]
    refine HandSPX.looks_onZ Zc.steady hfrA hf fl' fun h7 hh7 up7 => ?_
    obtain ⟨sl7, hC7⟩ := up7 C _ hC6 (fun vs z => nomatch z)
    refine ⟨.ref a', fun _ => none, rfl, ⟨_, _, _, hC7, rfl, (by first | exact StrKeys.nil | (intro i e hi; simp at hi) | (unfold StrKeys; simp) | simp [StrKeys]), fun _ => rfl⟩, fun h8 m8 hn8 sb8 => ?_⟩
    have hh8 : HandSPX.HeldZ B' (X.env :: X.outer) a' (Zc cls d) X.env.locals h8 := by
      obtain ⟨f1, f2, f3, oe, vs, T, oT, ts, he, hz, hd, h1, hnT, hTe, hT, hdT, h3'⟩ := hh7
      have ne1 : a' ≠ C := fun z => by rw [z, hC7] at he; cases he; cases hd
      have ne2 : T ≠ C := fun z => by rw [z, hC7] at hT; cases hT; cases hdT
      exact ⟨fun b o e => (sb8.2 b (bo b o e).2).trans (f1 b o e), f2, Heap.FunFrames.sameBut sb8 hn8 f3, oe, vs, T, oT, ts, (sb8.2 a' ne1).trans he, hz, hd, h1, hnT, hTe, (sb8.2 T ne2).trans hT, hdT, h3'⟩
    obtain ⟨_, _, _, oe8, vs8, T8, _, _, he8, _, hd8, h18, _⟩ := id hh8
    unfold PySem.passOn
    refine wpAny_bind (wpAny_field he8 hd8 h18 ?_)
    rw [if_neg (by simp : ¬ ((Value.ref T8 == Value.none) = true))]
    have fin : wpAny (model X.prog X.w) X.A (setFlight (.ref a') ce.frame) (fun _ s9 => wpAny (model X.prog X.w) X.A (throw (.ref a') : Sem Value) (fun _ _ => False) X.xe s9) X.xe { s6 with heap := h8 } := by
      rw [cF, hf]
      refine HandSPX.setFlight_onZ hh8 fun h9 hh9 up9 => wpAny_throw ?_
      -- the slots' data beside the exception
      obtain ⟨c1, c2⟩ := PR.woke (v := .non) (d := .non) p1 t2 ⟨x2, fun b q => q.elim, fun b q => q.elim, tp2⟩ .non
      have pX : PR ca X.K Hf' H' Em (XcR ca X.K Hf' H' cls d xc) R1 σ st1 := c1.imp fun _ => xr
      refine h Hf' H' R1 cls d (t1.trans c2) pX _ _ ?_
      -- the air
      obtain ⟨G, q1, q2⟩ := restrict h9 fun b => (B'.get? b).isSome || decide (b ∈ frs X.stack)
      have gB : ∀ b o, B'.get? b = some o → G.get? b = some o := fun b o e => by
        rw [q1 b (by simp [e])]
        exact hh9.1 b o e
      have gF : ∀ b, b ∈ frs X.stack → G.get? b = h9.get? b := fun b hb => q1 b (by simp [hb])
      have og : ∀ b o, G.get? b = some o → h9.get? b = some o ∧ ((B'.get? b).isSome = true ∨ b ∈ frs X.stack) := fun b o e => by
        cases q : ((B'.get? b).isSome || decide (b ∈ frs X.stack)) with
        | false => rw [q2 b q] at e; cases e
        | true =>
          rw [q1 b q] at e
          exact ⟨e, by simpa [Bool.or_eq_true] using q⟩
      have ltC : ∀ b o, sc.heap.get? b = some o → b ≠ C := fun b o e => Nat.ne_of_lt (Nat.lt_of_lt_of_le (Heap.lt_size e) scC)
      have hslot : ∀ b o, sc.heap.get? b = some o → b ∈ frs X.stack → ∃ sl, G.get? b = some { o with slots := sl } := fun b o e hb => by
        obtain ⟨_, o₀, e₀, hnf⟩ := Ic.env0.funs.mem hb
        rw [e] at e₀
        cases e₀
        have hnf' : ∀ vs, o.data ≠ .fields vs := hnf
        obtain ⟨sl, e1⟩ := ub.slot b o e hb
        obtain ⟨sl2, e2⟩ := up7 b _ e1 hnf'
        have e3 := (sb8.2 b (ltC b o e)).trans e2
        obtain ⟨sl3, e4⟩ := up9 b _ e3 hnf'
        exact ⟨sl3, by rw [gF b hb]; exact e4⟩
      have hokB : HOk X.prog X.w H' B' := fun b o e => (hok b o e).stay (fun c' u hc z => bi c' u z fun z' => by
        rcases hc with hc | hc
        · rw [← hc, z', hCn] at e; cases e
        · rw [z', hCn] at hc; cases hc) (fun _ z => z) fun _ _ z => z
      refine ⟨a', B', { sc with heap := G, gens := s6.gens, drawn := s6.drawn, toks := s6.toks }, pins, σ, H', cls, d, rfl, ?_, fun b o e hb => ?_, Heap.UpToSlots.of_keeps fun b o e => (og b o e).1, .inr (.inr (by rw [hst]; exact hh9)), na, os, ag, rfl, rfl, rfl, rfl⟩
      · refine Ic.call (ch := []) ⟨fun b o e n hb _ => gB b o (bi b o (ub.keep b o e n hb) (ltC b o e)), fun b o e n hb _ => hslot b o e hb, fun b o e n _ => ub.free b o e n, fun b o e _ => ?_, ub.tups, ub.frzs, ub.tbls⟩ (hokB.kept gB) ag (fun _ z => nomatch z)
        by_cases hb : b ∈ frs X.stack
        · obtain ⟨sl, q⟩ := hslot b o e hb
          exact ⟨_, q⟩
        · obtain ⟨o', q⟩ := ub.there b o e hb
          exact ⟨o', gB b o' (bi b o' q (ltC b o e))⟩
      · obtain ⟨e', h⟩ := og b o e
        rcases h with h | h
        · obtain ⟨o', q⟩ := Option.isSome_iff_exists.mp h
          have z := hh9.1 b o' q
          rw [e'] at z; cases z
          exact q
        · exact absurd h hb
    first
      | exact wpAny_bind (wpAny_pure (wpAny_bind fin))
      | exact wpAny_bind fin
  exact codeAny_compStart_list loop (wpAny_pyIter_gen hgen4 loop)
theorem exec_Expr_used {env : Env} (value : Expr) (pos : Pos) (hi : interactive env = false) (hs : swapsWith value none pos.line env = pure true) : exec (.Expr value pos) env = (do standAt pos; evalThenUse value env (fun _ => point); pure .next) := by
  rw [arm_exec_Expr, hi, hs]
  rfl
/-- [elt for tg in gen if ..], a statement -/
theorem cs_exprLcGX {L : List Nat} {src : GSrc} {elt tg iter : Expr} {ifs : List Expr} {scope : Scope} {own : List (Str × Nat)} {pos epos : Pos} {t : TG} {g : MG} {mt : MT} {me : ME} (hi0 : interactive X.env = false) (hsw : swapsWith (.ListComp elt [⟨tg, iter, ifs, 0⟩] scope pos) none epos.line X.env = pure true) (hst : X.stack = X.env :: X.outer) (hf : X.env.frame = some X.env.locals) (hc : X.calm = true) (hN : X.N.Nodup) (hi : CWk ca X k tg iter src) (hiX : CGnX ca X k iter src) (ok : BlkOk X.N X.env.scope scope own) (hr : RoomG k X.A)
    (hg : ∀ n s H C cl fp, CG ca (bk X scope s H C cl fp) (but n (own.map (·.2))) tg t g) (ht : ∀ s H C cl fp, TestsH ca (bk X scope s H C cl fp) ifs mt) (he : ∀ s H C cl fp, CE ca (bk X scope s H C cl fp) elt me) (hs : ∀ x, foldedSetIterable iter X.env x = pure x := by intro _; rfl) :
    CS ca X L (.Expr (.ListComp elt [⟨tg, iter, ifs, 0⟩] scope pos) epos) (sExpr (eLcX src g mt me (own.map (·.2)))) := fun Hf H R σ st E p h => ⟨fun pins s I => by
  have hp : Post ca X Hf H (jn Em R) σ (eLcX src g mt me (own.map (·.2)) st) (fun _ H' => E.nx σ H') := post_toS h fun d st1 Hf1 H1 P1 R1 v e1 t1 p1 h1 => h1 Hf1 H1 R1 σ (Tr.refl fun b q => q.elim (fun q => q.elim) .inr) p1.drop Lk.refl
  rw [exec_Expr_used _ _ hi0 hsw]
  refine wpAny_bind (wpAny_standAt (wpAny_bind ?_))
  show wpAny _ X.A (do let _ ← comprehension (.ListComp elt [⟨tg, iter, ifs, 0⟩] scope pos) scope X.env (firstIterPos [⟨tg, iter, ifs, 0⟩] pos) (newList []) false (eval iter X.env) (some fun _ => point)) _ _ s
  have main : wpAny (model X.prog X.w) X.A (comprehension (.ListComp elt [⟨tg, iter, ifs, 0⟩] scope pos) scope X.env (firstIterPos [⟨tg, iter, ifs, 0⟩] pos) (newList []) false (eval iter X.env) (some fun _ => point)) (fun _ s' => SP X pins E .next s') X.xe s := by
    unfold eLcX at hp
    have norm : Post ca X Hf H (jn Em R) σ (eLc (noXs src) g mt me (own.map (·.2)) st) (fun _ H' => E.nx σ H') → wpAny (model X.prog X.w) X.A (comprehension (.ListComp elt [⟨tg, iter, ifs, 0⟩] scope pos) scope X.env (firstIterPos [⟨tg, iter, ifs, 0⟩] pos) (newList []) false (eval iter X.env) (some fun _ => point)) (fun _ s' => SP X pins E .next s') X.xe s := fun hp => by
      refine lcG_core hc hN I hi ok hr hg ht he hs p hp fun D C s' m H' I' q hn f => ?_
      show wpAny _ _ point _ _ _
      refine wpAny_point ⟨m, hn, fun h'' sb => ?_⟩
      obtain ⟨f0, f1, f2, f3, f4, f5⟩ := f
      exact ⟨σ, H', I'.turned (t' := s'.toks) (fun b o hb e => (sb.2 b hb).trans e) f0 f1 f3 f4 f5, q⟩
    cases es : src st with
    | fail => rw [es] at hp; exact norm hp
    | ok ds st1 => rw [es] at hp; exact norm hp
    | exc xc st1 =>
      rw [es] at hp
      exact lcGX_raise hst hf hiX ok hr hs I p es hp
  exact wpAny_bind (thn main fun _ s' hq => wpAny_pure (wpAny_pure hq))⟩
end
end DL

set_option maxHeartbeats 1000000
/-! DL212: zip([], g(..)): the generator never begins. -/
namespace DL
open PySem PySem.Spec L2 PyProof.Rows
open AutoSeq1 (wpAny_loadPart')

/-- the five new things, above the empty list l and the generator a -/
abbrev z0I (h : Heap) (l : Addr) : Heap := h.push { cls := .type "list_iterator", data := .fields #[.ref l, .int 0 0] }
abbrev z0T (h : Heap) (l a : Addr) : Heap := (z0I h l).push { cls := .type "tuple", data := .seq #[.ref h.objs.size, .ref a] }
abbrev z0O (h : Heap) (l a : Addr) : Heap := (z0T h l a).push { cls := .type "tuple", data := .seq #[.none, .none] }
abbrev z0Z (h : Heap) (l a : Addr) : Heap := (z0O h l a).push { cls := .type "zip", data := .fields #[.none, .bool false, .bool false, .ref (z0I h l).objs.size, .ref (z0T h l a).objs.size] }
theorem meets_zip0 (l a : Addr) (g : Nat) :
    Meets (Builtin.«zip.__new__» ⟨[.type "zip", .ref l, .ref a], []⟩) (fun _ R s => (s.heap.IsList l #[] ∧ s.heap.IsGen a g) ∧ R (.ok (.ret (.ref (z0O s.heap l a).objs.size))) { s with heap := z0Z s.heap l a }) :=
  .of_wp fun prog w A R s h => by
    obtain ⟨hp, gn, d, tk, os⟩ := s
    obtain ⟨⟨hl, hg⟩, h⟩ := h
    have hsub := sub_zip
    have itL : ∀ {A' : Around} {E : Value → Shared → Prop} {Q : Value → Shared → Prop}, Q (.ref hp.objs.size) ⟨z0I hp l, gn, d, tk, os⟩ → wpAny (model prog w) A' (pyIter (.ref l)) Q E ⟨hp, gn, d, tk, os⟩ := fun q => wpAny_pyIter_list hl q
    have itG : ∀ {A' : Around} {E : Value → Shared → Prop} {Q : Value → Shared → Prop}, Q (.ref a) ⟨z0I hp l, gn, d, tk, os⟩ → wpAny (model prog w) A' (pyIter (.ref a)) Q E ⟨z0I hp l, gn, d, tk, os⟩ := fun q => wpAny_pyIter_gen (s := ⟨z0I hp l, gn, d, tk, os⟩) (hg.keeps fun b o e => Heap.get?_push_of_some _ e) q
    wp_walk using itL, itG
    exact ⟨_, rfl, h⟩
section
variable {prog : Program} {w : World} {A : Around} {E : Value → Shared → Prop} {s : Shared}
theorem call_zip0 {l a : Addr} {g : Nat} {Q : Value → Shared → Prop} (hl : s.heap.IsList l #[]) (hg : s.heap.IsGen a g)
    (h : IsZip (z0Z s.heap l a) (s.heap.objs.size + 3) (s.heap.objs.size + 1) (s.heap.objs.size + 2) .none → IsPair (z0Z s.heap l a) (s.heap.objs.size + 1) (.ref s.heap.objs.size) (.ref a) → (z0Z s.heap l a).get? s.heap.objs.size = some { cls := .type "list_iterator", data := .fields #[.ref l, .int 0 0] } →
      (∀ c o, s.heap.get? c = some o → (z0Z s.heap l a).get? c = some o) → Q (.ref (s.heap.objs.size + 3)) { s with heap := z0Z s.heap l a }) :
    wpAny (model prog w) A (call (.type "zip") [.ref l, .ref a]) Q E s := by
  refine callType_new F.called_zip (by decide) (F.typeCall_zip_2 _ _) (F.newCall_zip_2 _ _) (fun obj => F.args_object_init_3 obj _ _) F.entry_zip_new (meets_zip0 l a g) ⟨⟨hl, hg⟩, ?_⟩
  have n1 : (z0I s.heap l).objs.size = s.heap.objs.size + 1 := Heap.size_push ..
  have n2 : (z0T s.heap l a).objs.size = s.heap.objs.size + 2 := by rw [Heap.size_push, n1]
  have n3 : (z0O s.heap l a).objs.size = s.heap.objs.size + 3 := by rw [Heap.size_push, n2]
  have gZ : (z0Z s.heap l a).get? (z0O s.heap l a).objs.size = some { cls := .type "zip", data := .fields #[.none, .bool false, .bool false, .ref (z0I s.heap l).objs.size, .ref (z0T s.heap l a).objs.size] } := Heap.get?_push_size _ rfl
  have gT : (z0Z s.heap l a).get? (z0I s.heap l).objs.size = some { cls := .type "tuple", data := .seq #[.ref s.heap.objs.size, .ref a] } := Heap.get?_push_of_some _ (Heap.get?_push_of_some _ (Heap.get?_push_size _ rfl))
  have gI : (z0Z s.heap l a).get? s.heap.objs.size = some { cls := .type "list_iterator", data := .fields #[.ref l, .int 0 0] } := Heap.get?_push_of_some _ (Heap.get?_push_of_some _ (Heap.get?_push_of_some _ (Heap.get?_push_size _ rfl)))
  rw [n3, n1, n2] at gZ
  rw [n1] at gT
  show _ ∧ _
  rw [n3]
  exact ⟨⟨_, gZ, rfl⟩, h gZ gT gI fun c o e => Heap.get?_push_of_some _ (Heap.get?_push_of_some _ (Heap.get?_push_of_some _ (Heap.get?_push_of_some _ e)))⟩
/-- the first of two has nothing to give: the other is not asked -/
theorem zip0_next {z TI TO i1 i2 l : Addr} {Q : Option Value → Shared → Prop} (hh : A.handled = none) (hz : IsZip s.heap z TI TO .none) (hTI : IsPair s.heap TI (.ref i1) (.ref i2)) (h1 : s.heap.IsListIter i1 l 0) (hl : s.heap.IsList l #[]) (zi : i1 ≠ z) (zl : l ≠ z) (il : l ≠ i1)
    (hQ : ∀ h', (∀ c o, c ≠ z → c ≠ i1 → s.heap.get? c = some o → h'.get? c = some o) → Q none { s with heap := h' }) : wpAny (model prog w) A (pyNext (.ref z)) Q E s := by
  have hT : s.TypeIs (.ref z) "zip" := ⟨_, hz, rfl⟩
  have key : wpAny (model prog w) A.in1 (Builtin.«zip.__next__» ⟨[.ref z], []⟩) (fun _ _ => False) (fun e s' => ∃ h' o, s' = { s with heap := h' } ∧ (∀ c o, c ≠ z → c ≠ i1 → s.heap.get? c = some o → h'.get? c = some o) ∧ (∃ x, e = .ref x ∧ h'.get? x = some o ∧ o.cls = .type "StopIteration")) s := by
    obtain ⟨h0, gn, d, tk, os⟩ := s
    show wpAny _ _ (field (.ref z) 2 >>= _) _ _ _
    refine wpAny_bind (wpAny_field hz rfl (x := .bool false) rfl ?_)
    show wpAny _ _ (field (.ref z) 3 >>= _) _ _ _
    refine wpAny_bind (wpAny_field hz rfl (x := .ref TI) rfl (wpAny_bind (wpAny_seqItems hTI rfl ?_)))
    show wpAny _ _ (Builtin.SmallTypes.ownedTupleIsFree (.ref z) >>= _) _ _ _
    refine wpAny_bind ?_
    unfold Builtin.SmallTypes.ownedTupleIsFree
    refine wpAny_bind (wpAny_field hz rfl (x := .none) rfl (wpAny_pure ?_))
    simp only [if_true]
    refine wpAny_bind (wpAny_rule (wpAny_bind (wpAny_field hz rfl (x := .ref TO) rfl ?_)))
    refine wpAny_bind (wpAny_setField_rec hz (by simp) fun h2 z2 b2 => ?_)
    have z2' : IsZip h2 z TI TO .ellipsis := z2
    have b2' : Heap.SameBut z h0 h2 := b2
    refine wpAny_bind ?_
    simp only [List.zipIdx_cons, List.zipIdx_nil, List.forIn_cons, List.forIn_nil]
    refine wpAny_bind (wpAny_bind (wpAny_onRaise ?_))
    show wpAny _ _ (Builtin.SmallTypes.nextOf (.ref i1) >>= _) _ _ ⟨h2, gn, d, tk, os⟩
    have DL := Draws.list (prog := prog) (w := w) (A := A.in1) hh i1 l il #[]
    refine wpAny_bind (DL.done ⟨h2, gn, d, tk, os⟩ _ _ ⟨Heap.IsListIter.at h1 fun o e => (b2'.2 i1 zi).trans e, hl.at fun o e => (b2'.2 l zl).trans e⟩ fun q e hq he => ?_)
    have hq' : Heap.ExtBut i1 h2 q := hq
    obtain ⟨oe, ho, hc⟩ := he
    have ho' : q.get? e = some oe := ho
    have zq : IsZip q z TI TO .ellipsis := hq' _ _ zi.symm z2'
    have ez : e ≠ z := fun x => by rw [x, zq] at ho'; cases ho'; simp at hc
    refine wpAny_setField_rec (s := ⟨q, gn, d, tk, os⟩) zq (by simp) fun q2 _ bq => ?_
    have bq' : Heap.SameBut z q q2 := bq
    exact ⟨q2, oe, rfl, fun c o c1 c2 x => (bq'.2 c c1).trans (hq' c o c2 ((b2'.2 c c1).trans x)), e, rfl, (bq'.2 e ez).trans ho', hc⟩
  unfold pyNext
  refine wpAny_bind (wpAny_attempt (wpAny_callSpecial?_slot (name := Str.ofString "__next__") hT F.slot_zip_next (wpAny_call_entry F.slot_zip_next hT F.entry_zip_next ?_ (F.args_zip_next_1 _))))
  refine wpAny_mono key (fun _ _ z => z.elim) fun e s' ⟨h', o, es, hk, x, ex, ho, hc⟩ => ?_
  subst es
  subst ex
  exact wpAny_bind (wpAny_isInstance (T := "StopIteration") (b := true) ⟨o, ho, hc⟩ isSubtype_stop (wpAny_pure (hQ h' hk)))
end
/-- zip([], g(..)), g's first turn would raise -/
def iZ0 (src : GSrc) : GSrc := fun st => match src st with
  | .exc _ st1 => .ok [] st1
  | _ => .fail
theorem inv_pin1 {X : Cx} {pins : List (Addr × Obj)} {σ : L2.St} {H : Hp} {s : Shared} {l : Addr} {o : Obj} (I : Inv X pins σ H s) (e : s.heap.get? l = some o) (f : FpOk X pins H l) (hc : ∀ v, o.data ≠ .cell v) : Inv X ((l, o) :: pins) σ H s where
  ok := I.ok
  os := I.os
  bare := I.bare
  base := I.base
  loc := I.loc
  cell := I.cell
  free := I.free
  freeC := I.freeC
  pin := fun q hq => by
    rcases List.mem_append.mp hq with z | z
    · exact I.pin q (List.mem_append_left _ z)
    · rcases List.mem_cons.mp z with z | z
      · rw [z]; exact ⟨e, f.1, f.2.1, f.2.2.1, hc⟩
      · exact I.pin q (List.mem_append_right _ z)
  hok := I.hok
  len := I.len
theorem inv_unpin1 {X : Cx} {pins : List (Addr × Obj)} {σ : L2.St} {H : Hp} {s : Shared} {q : Addr × Obj} (I : Inv X (q :: pins) σ H s) : Inv X pins σ H s where
  ok := I.ok
  os := I.os
  bare := I.bare
  base := I.base
  loc := I.loc
  cell := I.cell
  free := I.free
  freeC := I.freeC
  pin := fun p hp => I.pin p (by
    rcases List.mem_append.mp hp with z | z
    · exact List.mem_append_left _ z
    · exact List.mem_append_right _ (List.mem_cons_of_mem _ z))
  hok := I.hok
  len := I.len
/-- the things behind zip([], a) -/
def z0P (l a n : Addr) : Prv := { obj := fun b => if b = n + 3 then some { cls := .type "zip", data := .fields #[.none, .bool false, .bool false, .ref (n + 1), .ref (n + 2)] } else if b = n + 1 then some { cls := .type "tuple", data := .seq #[.ref n, .ref a] } else if b = n then some { cls := .type "list_iterator", data := .fields #[.ref l, .int 0 0] } else if b = l then some { cls := .type "list", data := .seq #[] } else none, gen := fun _ => none, run := fun _ => False, os := none, s0 := none }
theorem wst_zip0 {ca : Nat → Addr} {P : Program} {w : World} {K : PySem.W.Frag} {mg : Str → Option Value} {base : Heap} {outer : List Env} {k : Nat} {os0 : OsState} {tg : Expr} {l a n : Nat} {Hf0 : Hp} (hl : l < n) : WSt ca P w K mg base outer k os0 tg (n + 3) [] Hf0 (z0P l a n) := fun A s Hf H wk => by
  have d1 : (n + 1 : Nat) ≠ n + 3 := by omega
  have d2 : (n : Nat) ≠ n + 3 := by omega
  have d3 : (n : Nat) ≠ n + 1 := by omega
  have d4 : (l : Nat) ≠ n + 3 := by omega
  have d5 : (l : Nat) ≠ n + 1 := by omega
  have d6 : (l : Nat) ≠ n := by omega
  obtain ⟨q1, q2, _⟩ := wk.obj (n + 3) _ (if_pos rfl)
  obtain ⟨r1, _, _⟩ := wk.obj (n + 1) _ ((if_neg d1).trans (if_pos rfl))
  obtain ⟨t1, t2, _⟩ := wk.obj n _ ((if_neg d2).trans ((if_neg d3).trans (if_pos rfl)))
  obtain ⟨u1, _, _⟩ := wk.obj l _ ((if_neg d4).trans ((if_neg d5).trans ((if_neg d6).trans (if_pos rfl))))
  refine zip0_next (TI := n + 1) (TO := n + 2) (i1 := n) (i2 := a) (l := l) wk.room.2.hd q1 r1 ⟨_, t1, rfl, rfl⟩ ⟨_, u1, rfl, _, rfl⟩ d2 d4 d6 fun h' hk => ⟨rfl, Hf, H, [n + 3, n], rfl, wk.env.bare, fun b hb => ?_, ?_, fun b o q => ?_, Tr.refl fun _ z => z, ⟨wk.hx, fun b z => z.elim, fun b z => z.elim, wk.tp⟩⟩
  · rcases List.mem_cons.mp hb with z | z
    · rw [z]; exact ⟨_, if_pos rfl⟩
    · rw [List.mem_singleton.mp z]; exact ⟨_, (if_neg d2).trans ((if_neg d3).trans (if_pos rfl))⟩
  · have hk' : ∀ b o, b ∉ [n + 3, n] → s.heap.get? b = some o → h'.get? b = some o := fun b o hb q => hk b o (fun z => hb (by simp [z])) (fun z => hb (by simp [z])) q
    exact ⟨fun b o q _ _ hx => hk' b o hx q, fun b o q _ _ hx => ⟨o.slots, hk' b o hx q⟩, fun b o q n _ => n, fun b o q hx => ⟨o, hk' b o hx q⟩, fun b xs q => q, fun b o u q => q, fun b ps q => ⟨#[], by rw [q]; simp⟩⟩
  · refine (wk.env.hok b o q).stay (fun c x hc z => hk c x (fun z' => ?_) (fun z' => ?_) z) (fun c z => z) fun c xs z => z
    · rcases hc with hc | hc
      · rw [← hc, z', q2] at q; cases q
      · rw [z', q2] at hc; cases hc
    · rcases hc with hc | hc
      · rw [← hc, z', t2] at q; cases q
      · rw [z', t2] at hc; cases hc
theorem cwk_zip0 {ca : Nat → Addr} {X : Cx} {k : Nat} {tg : Expr} {p pos lpos : Pos} {e : Expr} {src : GSrc} (hg : Gl X "zip") (hm : X.mg "zip" = none) (h : CGnX ca X k e src)
    (hst : starEach [.List [] lpos, e] X.env = (false, eval (.List [] lpos) X.env) :: starEach [e] X.env := by rfl) (hst2 : starEach [e] X.env = [(false, eval e X.env)] := by rfl) (hpl : (backTo pos (starEach [e] X.env)).any (·.1) = false := by rfl) :
    CWk ca X k tg (.Call (.Name "zip" p) [.List [] lpos, e] [] pos) (iZ0 src) := fun Hf H R σ st pr ys st1 esrc pins s I => by
  unfold iZ0 at esrc
  cases e1 : src st with
  | fail => rw [e1] at esrc; cases esrc
  | ok ds st2 => rw [e1] at esrc; cases esrc
  | exc x st2 =>
  rw [e1] at esrc
  cases esrc
  refine wpAny_Call_Name_kw (ld_blt I hg hm PyProof.Rows.boot_zip ?_)
  refine PyProof.Rows.callWith_type1 ?_ hst hpl
  rw [hst, hst2]
  show wpAny _ _ (spliced [(false, eval (.List [] lpos) X.env), (false, eval e X.env)]) _ _ s
  refine Calls.spliced_cons ?_
  rw [arm_eval_List]
  refine wpAny_bind (wpAny_standAt ?_)
  refine wpAny_bind (wpAny_items_nil ?_)
  refine wpAny_newObj_type ?_ (by show 0 ≤ sizeLine; decide)
  generalize hl : s.heap.objs.size = l
  generalize hs1 : ({ s with heap := s.heap.push { cls := .type "list", data := .seq ([] : List Value).toArray } } : Shared) = s1
  have I1 : Inv X pins σ H s1 := by rw [← hs1]; exact I.kept (t' := s.toks) fun b o q => Heap.get?_push_of_some _ q
  have hl1 : s1.heap.get? l = some { cls := .type "list", data := .seq #[] } := by rw [← hs1, ← hl]; exact Heap.get?_push_size _ rfl
  have fl : FpOk X pins H l := I.fpOk (Nat.le_of_eq hl) (I.hok.fresh (Nat.le_of_eq hl))
  have I2 := inv_pin1 I1 hl1 fl (fun v z => nomatch z)
  refine Calls.spliced_cons (thn (h Hf H R σ st pr x st1 e1 _ s1 I2) fun u s2 ⟨a, gn, c, sc, Hf1, H1, R1, eu, hgen, _, Ic, os2, bare2, kp2, _, t1, p1, _⟩ => ?_)
  subst eu
  refine Calls.spliced_nil ?_
  obtain ⟨k1, k2, _⟩ := Ic.pin (l, { cls := .type "list", data := .seq #[] }) (List.mem_append_right _ List.mem_cons_self)
  have hl2 : s2.heap.get? l = some { cls := .type "list", data := .seq #[] } := kp2 _ _ k1
  have lt2 : l < s2.heap.objs.size := Heap.lt_size hl2
  have I3 : Inv X pins σ H1 s2 := (inv_unpin1 Ic).call' (ch := []) os2 (Un.kept kp2) ((inv_unpin1 Ic).hok.kept kp2) bare2 fun b z => absurd z (by simp)
  refine call_zip0 ⟨_, hl2, rfl, _, rfl⟩ hgen fun gZ gT gI kp3 => ?_
  have I4 : Inv X pins σ H1 { s2 with heap := z0Z s2.heap l a } := I3.kept (t' := s2.toks) kp3
  refine wpAny_pyIter_zip (s := { s2 with heap := z0Z s2.heap l a }) gZ ?_
  refine ⟨s2.heap.objs.size + 3, Hf1, H1, R1, z0P l a s2.heap.objs.size, rfl, I4, t1, p1, ⟨fun b o q => ?_, fun i x q => nomatch q⟩, ⟨_, if_pos rfl, fun A s' Q E eo q => wpAny_pyIter_zip eo q⟩, wst_zip0 lt2⟩
  have young : ∀ b, s2.heap.objs.size ≤ b → FpOk X pins H1 b := fun b hb => I3.fpOk hb (I3.hok.fresh hb)
  have q' : (if b = s2.heap.objs.size + 3 then some { cls := .type "zip", data := .fields #[.none, .bool false, .bool false, .ref (s2.heap.objs.size + 1), .ref (s2.heap.objs.size + 2)] } else if b = s2.heap.objs.size + 1 then some { cls := .type "tuple", data := .seq #[.ref s2.heap.objs.size, .ref a] } else if b = s2.heap.objs.size then some { cls := .type "list_iterator", data := .fields #[.ref l, .int 0 0] } else if b = l then some { cls := .type "list", data := .seq #[] } else none : Option Obj) = some o := q
  split at q'
  · rename_i hb
    cases q'
    rw [hb]
    exact ⟨gZ, young _ (by omega)⟩
  split at q'
  · rename_i hb
    cases q'
    rw [hb]
    exact ⟨gT, young _ (by omega)⟩
  split at q'
  · rename_i hb
    cases q'
    rw [hb]
    exact ⟨gI, young _ (Nat.le_refl _)⟩
  split at q'
  · rename_i hb
    cases q'
    rw [hb]
    exact ⟨kp3 _ _ hl2, k2, fl.2⟩
  · cases q'
end DL

namespace Lw06
open PySem PySem.Spec PyProof.Rows L2 DL
/-! ### the text -/
def topS (i : Nat) : Stmt := PySem.Challenge.pw_nearswap_k06_errors_of_running.main.body.getD i (.Pass ⟨0, 0, 0, 0⟩)
abbrev s__law_source : Stmt := topS 23
theorem sc__law_source : FnScope ["_law_script", "_law_k", "_law_cell", "_law_size", "_law_mixed"] ["_law_script", "_law_k"] (defScope s__law_source) := ⟨rfl, rfl, rfl, by decide +kernel, rfl, by decide +kernel, by decide +kernel⟩
abbrev s__law_draw : Stmt := topS 24
theorem sc__law_draw : FnScope ["_law_source_here", "_law_many", "_law_result"] ["_law_source_here", "_law_many"] (defScope s__law_draw) := ⟨rfl, rfl, rfl, by decide +kernel, rfl, by decide +kernel, by decide +kernel⟩
abbrev s__law_steps : Stmt := topS 25
theorem sc__law_steps : FnScope ["_law_source_here", "_law_width", "_law_many", "_law_k"] ["_law_source_here", "_law_width", "_law_many"] (defScope s__law_steps) := ⟨rfl, rfl, rfl, by decide +kernel, rfl, by decide +kernel, by decide +kernel⟩
abbrev s_is_integer : Stmt := topS 7
theorem sc_is_integer : FnScope ["value", "low", "high"] ["value", "low", "high"] (defScope s_is_integer) := ⟨rfl, rfl, rfl, by decide +kernel, rfl, by decide +kernel, by decide +kernel⟩
abbrev s_check_width : Stmt := topS 19
theorem sc_check_width : FnScope ["width"] ["width"] (defScope s_check_width) := ⟨rfl, rfl, rfl, by decide +kernel, rfl, by decide +kernel, by decide +kernel⟩
abbrev s_check_steps : Stmt := topS 20
theorem sc_check_steps : FnScope ["width", "steps", "index", "step"] ["width", "steps"] (defScope s_check_steps) := ⟨rfl, rfl, rfl, by decide +kernel, rfl, by decide +kernel, by decide +kernel⟩
abbrev s_Network___init__ : Stmt := inClass (topS 21) 2
theorem sc_Network___init__ : FnScope ["self", "width", "steps"] ["self", "width", "steps"] (defScope s_Network___init__) := ⟨rfl, rfl, rfl, by decide +kernel, rfl, by decide +kernel, by decide +kernel⟩
abbrev s__law_values : Stmt := topS 26
theorem sc__law_values : FnScope ["_law_source_here", "_law_width", "_law_size", "_law_k"] ["_law_source_here", "_law_width"] (defScope s__law_values) := ⟨rfl, rfl, rfl, by decide +kernel, rfl, by decide +kernel, by decide +kernel⟩
abbrev s_is_any_integer : Stmt := topS 8
theorem sc_is_any_integer : FnScope ["value"] ["value"] (defScope s_is_any_integer) := ⟨rfl, rfl, rfl, by decide +kernel, rfl, by decide +kernel, by decide +kernel⟩
abbrev s_check_integers : Stmt := topS 10
theorem sc_check_integers : FnScope ["values", "index", "value"] ["values"] (defScope s_check_integers) := ⟨rfl, rfl, rfl, by decide +kernel, rfl, by decide +kernel, by decide +kernel⟩
abbrev s_check_values : Stmt := topS 11
theorem sc_check_values : FnScope ["width", "values"] ["width", "values"] (defScope s_check_values) := ⟨rfl, rfl, rfl, by decide +kernel, rfl, by decide +kernel, by decide +kernel⟩
abbrev s_step_on : Stmt := topS 12
theorem sc_step_on : FnScope ["values", "step", "left", "right"] ["values", "step"] (defScope s_step_on) := ⟨rfl, rfl, rfl, by decide +kernel, rfl, by decide +kernel, by decide +kernel⟩
abbrev s_trace : Stmt := topS 16
theorem sc_trace : GScope ["network", "values", "current", "step"] ["network", "values"] (defScope s_trace) := ⟨rfl, rfl, rfl, by decide +kernel, rfl, by decide +kernel, by decide +kernel⟩
abbrev s_result_of : Stmt := topS 13
theorem sc_result_of : FnScope ["steps", "values", "result", "step"] ["steps", "values"] (defScope s_result_of) := ⟨rfl, rfl, rfl, by decide +kernel, rfl, by decide +kernel, by decide +kernel⟩
abbrev s_run : Stmt := topS 14
theorem sc_run : FnScope ["network", "values"] ["network", "values"] (defScope s_run) := ⟨rfl, rfl, rfl, by decide +kernel, rfl, by decide +kernel, by decide +kernel⟩
abbrev s_exchanges : Stmt := topS 15
theorem sc_exchanges : FnScope ["network", "values", "current", "result", "index", "step"] ["network", "values"] (defScope s_exchanges) := ⟨rfl, rfl, rfl, by decide +kernel, rfl, by decide +kernel, by decide +kernel⟩
abbrev s_inversions : Stmt := topS 17
theorem sc_inversions : FnScope ["values", "right", "left"] ["values"] (defScope s_inversions) := ⟨rfl, rfl, rfl, by decide +kernel, rfl, by decide +kernel, by decide +kernel⟩
abbrev s__law_outcome : Stmt := topS 27
theorem sc__law_outcome : FnScope ["_law_choice", "_law_network", "_law_values_here", "e", "_law_row"] ["_law_choice", "_law_network", "_law_values_here"] (defScope s__law_outcome) := ⟨rfl, rfl, rfl, by decide +kernel, rfl, by decide +kernel, by decide +kernel⟩
abbrev s__law_expected : Stmt := topS 28
theorem sc__law_expected : FnScope ["_law_choice", "_law_width", "_law_values_here", "_law_index", "_law_value"] ["_law_choice", "_law_width", "_law_values_here"] (defScope s__law_expected) := ⟨rfl, rfl, rfl, by decide +kernel, rfl, by decide +kernel, by decide +kernel⟩
abbrev s_law : Stmt := topS 29
theorem sc_law : FnScope ["_law_script", "_law_k", "_law_source_here", "_law_width", "_law_network", "_law_good", "_law_at", "_law_some", "_law_invalid", "_law_values_here", "_law_choice", "_law_pair"] ["_law_script"] (defScope s_law) := ⟨rfl, rfl, rfl, by decide +kernel, rfl, by decide +kernel, by decide +kernel⟩
abbrev s_Network_steps : Stmt := inClass (topS 21) 4
theorem sc_Network_steps : FnScope ["self"] ["self"] (defScope s_Network_steps) := ⟨rfl, rfl, rfl, by decide +kernel, rfl, by decide +kernel, by decide +kernel⟩
abbrev s_Network_width : Stmt := inClass (topS 21) 3
theorem sc_Network_width : FnScope ["self"] ["self"] (defScope s_Network_width) := ⟨rfl, rfl, rfl, by decide +kernel, rfl, by decide +kernel, by decide +kernel⟩
abbrev s_InvalidStep___init__ : Stmt := inClass (topS 4) 0
theorem sc_InvalidStep___init__ : FnScope ["self", "index"] ["self", "index"] (defScope s_InvalidStep___init__) := ⟨rfl, rfl, rfl, by decide +kernel, rfl, by decide +kernel, by decide +kernel⟩
abbrev s_InvalidValues___init__ : Stmt := inClass (topS 5) 0
theorem sc_InvalidValues___init__ : FnScope ["self", "index"] ["self", "index"] (defScope s_InvalidValues___init__) := ⟨rfl, rfl, rfl, by decide +kernel, rfl, by decide +kernel, by decide +kernel⟩
abbrev s_InvalidWidth___init__ : Stmt := inClass (topS 3) 0
theorem sc_InvalidWidth___init__ : FnScope ["self", "value"] ["self", "value"] (defScope s_InvalidWidth___init__) := ⟨rfl, rfl, rfl, by decide +kernel, rfl, by decide +kernel, by decide +kernel⟩
/-! ### the meanings -/
def okx_index : Nat → Bool := fun n => match n with | 102 => true | 103 => true | _ => false
def isx_InvalidStep : Nat → Option Bool := fun n => match n with | 102 => some true | 103 => some false | 101 => some false | _ => none
def isx_NetworkError : Nat → Option Bool := fun n => match n with | 102 => some true | 103 => some true | 101 => some true | _ => none
def hx_InvalidValues : Nat → Option Bool := fun n => match n with | 102 => some false | 103 => some true | 101 => some false | _ => none
def b__law_source : MS := (sSeq (sAsg (eOp oAdd [.v (eOp oMul [.v (eC (.int 7)), .v (eOp oSum [.v (eOp oS01 [.s 0, .v (eC (.int 63))])])]), .s 1]) (gN 2)) (sSeq (sIf (tE (eOp (f2 pLt) [.s 1, .v (eOp oLen [.s 0])])) (sAsg (eOp oIx [.s 0, .s 1]) (gN 2)) sNext) (sSeq (sAsg (eOp oAbs [.s 2]) (gN 3)) (sSeq (sAsg (eOp oMod [.v (eOp oMul [.v (eOp oAdd [.v (eOp oAdd [.v (eOp oAdd [.v (eOp oMod [.s 3, .v (eC (.int 2147483629))]), .v (eOp oMul [.v (eOp oMul [.v (eC (.int 7919)), .s 1]), .s 1])]), .v (eOp oMul [.v (eC (.int 31)), .s 1])]), .v (eC (.int 17))]), .v (eC (.int 48271))]), .v (eC (.int 2147483647))]) (gN 4)) (sRet (eLst (aCons (eOp oMul [.s 3, .v (eOp oInt [.v (eOp (f2 pGe) [.s 3, .v (eOp oPow [.v (eC (.int 10)), .v (eC (.int 18))])])])]) (aCons (eOp oMod [.v (eOp oMul [.s 4, .s 4]), .v (eC (.int 2147483629))]) aNil))))))))
def m__law_source : MF := fn 2 5 [0, 1] b__law_source
def b__law_draw : MS := (sSeq (sIf (tE (eOp (f2 pGt) [.v (eOp oIx [.s 0, .v (eC (.int 0))]), .v (eC (.int 0))])) (sSeq (sAsg (eOp oMod [.v (eOp oIx [.s 0, .v (eC (.int 0))]), .s 1]) (gN 2)) (sSeq (sAsg (eOp oDiv [.v (eOp oIx [.s 0, .v (eC (.int 0))]), .s 1]) (gIx 0 (eC (.int 0)))) (sRet (eMv 2)))) sNext) (sSeq (sAsg (eOp oMod [.v (eOp oAdd [.v (eOp oMul [.v (eOp oIx [.s 0, .v (eC (.int 1))]), .v (eC (.int 48271))]), .v (eC (.int 11))]), .v (eC (.int 2147483647))]) (gIx 0 (eC (.int 1)))) (sRet (eOp oMod [.v (eOp oDiv [.v (eOp oMod [.v (eOp oMul [.v (eOp oIx [.s 0, .v (eC (.int 1))]), .v (eOp oIx [.s 0, .v (eC (.int 1))])]), .v (eC (.int 2147483629))]), .v (eC (.int 16))]), .s 1]))))
def m__law_draw : MF := fn 2 3 [0, 1] b__law_draw
def lg1__law_steps : MG := (gN 3)
def le1__law_steps : ME := (eOp oAdd [.v (eC (.int 1)), .v (eCallL m__law_draw aNil 0 (aCons (eOp oSub [.s 1, .v (eC (.int 1))]) aNil))])
def b__law_steps : MS := (sRet (eLc (iR1 (eOp oMul [.s 2, .v (eOp oInt [.v (eOp (f2 pGt) [.s 1, .v (eC (.int 1))])])])) lg1__law_steps tYesM le1__law_steps [3]))
def m__law_steps : MF := fn 3 4 [0, 1, 2] b__law_steps
def b_is_integer : MS := (sRet (eAnd (eOp (oIsiB "int") [.s 0, .v (eC (.ty "int"))]) (eAnd (eNot (eOp (oIsiB "bool") [.s 0, .v (eC (.ty "bool"))])) (eChain pLe pLe (eN 1) (eN 0) (eN 2)))))
def m_is_integer : MF := fn 3 3 [0, 1, 2] b_is_integer
def b_check_width : MS := (sIf (tNotM (tE (eCall m_is_integer (aCons (eN 0) (aCons (eC (.int 1)) (aCons (eC (.int 40)) aNil)))))) (sRaise 101 ["value"] (aCons (eN 0) aNil)) sNext)
def m_check_width : MF := fn 1 1 [0] b_check_width
def fg1_check_steps : MG := (gT [(gN 2), (gN 3)])
def fb1_check_steps : MS := (sIf (tNotM (tE (eCall m_is_integer (aCons (eN 3) (aCons (eC (.int 1)) (aCons (eOp oSub [.s 0, .v (eC (.int 1))]) aNil)))))) (sRaise 102 ["index"] (aCons (eN 2) aNil)) sNext)
def b_check_steps : MS := (sSeq (sIf (tOrM (tNotM (tE (eOp (oIsi2 "list" "tuple") [.s 1, .v (eTup (aCons (eC (.ty "list")) (aCons (eC (.ty "tuple")) aNil)))]))) (tE (eOp (f2 pGt) [.v (eOp oLen [.s 1]), .v (eC (.int 1000))]))) (sRaise 102 ["index"] (aCons (eC .non) aNil)) sNext) (sFor (iEnA (eN 1)) fg1_check_steps fb1_check_steps))
def m_check_steps : MF := fn 2 4 [0, 1] b_check_steps
def b_Network___init__ : MS := (sSeq (sExpr (eCall m_check_width (aCons (eN 1) aNil))) (sSeq (sExpr (eCall m_check_steps (aCons (eN 1) (aCons (eN 2) aNil)))) (sSeq (sFldM 0 0 "own_width" (eN 1)) (sFldM 0 0 "own_steps" (eOp oTuple [.s 2])))))
def m_Network___init__ : MF := fn 3 3 [0, 1, 2] b_Network___init__
def lg1__law_values : MG := (gN 3)
def le1__law_values : ME := (eOp oSub [.v (eCallL m__law_draw aNil 0 (aCons (eN 2) aNil)), .v (eOp oDiv [.s 2, .v (eC (.int 2))])])
def b__law_values : MS := (sSeq (sAsg (eOp oIx [.v (eLst (aCons (eC (.int 2)) (aCons (eC (.int 3)) (aCons (eC (.int 9)) (aCons (eOp oPow [.v (eC (.int 10)), .v (eC (.int 20))]) aNil))))), .v (eCallL m__law_draw aNil 0 (aCons (eC (.int 4)) aNil))]) (gN 2)) (sRet (eLc (iR1 (eN 1)) lg1__law_values tYesM le1__law_values [3])))
def m__law_values : MF := fn 2 4 [0, 1] b__law_values
def b_is_any_integer : MS := (sRet (eAnd (eOp (oIsiB "int") [.s 0, .v (eC (.ty "int"))]) (eNot (eOp (oIsiB "bool") [.s 0, .v (eC (.ty "bool"))]))))
def m_is_any_integer : MF := fn 1 1 [0] b_is_any_integer
def fg1_check_integers : MG := (gT [(gN 1), (gN 2)])
def fb1_check_integers : MS := (sIf (tNotM (tE (eCall m_is_any_integer (aCons (eN 2) aNil)))) (sRaise 103 ["index"] (aCons (eN 1) aNil)) sNext)
def b_check_integers : MS := (sFor (iEn (eN 0)) fg1_check_integers fb1_check_integers)
def m_check_integers : MF := fn 1 3 [0] b_check_integers
def b_check_values : MS := (sSeq (sIf (tOrM (tNotM (tE (eOp (oIsiB "list") [.s 1, .v (eC (.ty "list"))]))) (tE (eOp (f2 pNe) [.v (eOp oLen [.s 1]), .s 0]))) (sRaise 103 ["index"] (aCons (eC .non) aNil)) sNext) (sExpr (eCall m_check_integers (aCons (eN 1) aNil))))
def m_check_values : MF := fn 2 2 [0, 1] b_check_values
def b_step_on : MS := (sSeq (sPar 2 3 (aCons (eOp oIx [.s 0, .v (eOp oSub [.s 1, .v (eC (.int 1))])]) (aCons (eOp oIx [.s 0, .s 1]) aNil))) (sSeq (sIf (tE (eOp (f2 pLe) [.s 2, .s 3])) (sRet (eC (.bl false))) sNext) (sSeq (sAsg (eTup (aCons (eN 3) (aCons (eN 2) aNil))) (gT [(gIx 0 (eOp oSub [.s 1, .v (eC (.int 1))])), (gIx 0 (eN 1))])) (sRet (eC (.bl true))))))
def m_step_on : MF := fn 2 4 [0, 1] b_step_on
def fg1_trace : MG := (gN 3)
def gb1_trace : GM := (mSeq (mP (sExpr (eCallL m_step_on aNil 2 (aCons (eN 3) aNil)))) (mSeq (mYield (eFz (eOp oList [.s 2]))) mNil))
def b_trace : GM := (mSeq (mP (sExpr (eCall m_check_values (aCons (eOp (oFld 0 "own_width") [.s 0]) (aCons (eN 1) aNil))))) (mSeq (mP (sAsg (eOp oList [.s 1]) (gN 2))) (mSeq (mYield (eFz (eOp oList [.s 2]))) (mSeq (mFor (iE (eOp (oFld 0 "own_steps") [.s 0]) tupItems) fg1_trace gb1_trace) mNil))))
def m_trace : List D → Option (List D) := gnM 2 4 b_trace
def b1_trace : MS := (sExpr (eCall m_check_values (aCons (eOp (oFld 0 "own_width") [.s 0]) (aCons (eN 1) aNil))))
def mx_trace : List D → Option Xc := gnXM 2 4 103 b1_trace
def fg1_result_of : MG := (gN 3)
def fb1_result_of : MS := (sExpr (eCallL m_step_on aNil 2 (aCons (eN 3) aNil)))
def b_result_of : MS := (sSeq (sAsg (eOp oList [.s 1]) (gN 2)) (sSeq (sFor (iE (eN 0) tupItems) fg1_result_of fb1_result_of) (sRet (eMv 2))))
def m_result_of : MF := fn 2 4 [0, 1] b_result_of
def b_run : MS := (sSeq (sExpr (eCall m_check_values (aCons (eOp (oFld 0 "own_width") [.s 0]) (aCons (eN 1) aNil)))) (sRet (eCall m_result_of (aCons (eOp (oFld 0 "own_steps") [.s 0]) (aCons (eN 1) aNil)))))
def m_run : MF := fn 2 2 [0, 1] b_run
def fg1_exchanges : MG := (gT [(gN 4), (gN 5)])
def fb1_exchanges : MS := (sIf (tE (eCallL m_step_on aNil 2 (aCons (eN 5) aNil))) (sExpr (eApp 3 (eN 4))) sNext)
def b_exchanges : MS := (sSeq (sExpr (eCall m_check_values (aCons (eOp (oFld 0 "own_width") [.s 0]) (aCons (eN 1) aNil)))) (sSeq (sAsg (eOp oList [.s 1]) (gN 2)) (sSeq (sAsg (eLst aNil) (gN 3)) (sSeq (sFor (iEnT (eOp (oFld 0 "own_steps") [.s 0])) fg1_exchanges fb1_exchanges) (sRet (eMv 3))))))
def m_exchanges : MF := fn 2 6 [0, 1] b_exchanges
def lg1_inversions : MG := (gN 1)
def lh1_inversions : MG := (gN 2)
def li1_inversions : Sl → Res (List D) := (iR1 (eN 1))
def le1_inversions : ME := (eC (.int 1))
def lt1_inversions : MT := (tE (eOp (f2 pGt) [.v (eOp oIx [.s 0, .s 2]), .v (eOp oIx [.s 0, .s 1])]))
def b_inversions : MS := (sSeq (sIf (tNotM (tE (eOp (oIsiB "list") [.s 0, .v (eC (.ty "list"))]))) (sRaise 103 ["index"] (aCons (eC .non) aNil)) sNext) (sSeq (sExpr (eCall m_check_integers (aCons (eN 0) aNil))) (sRet (eOp oSum [.v (eLc2 (iR1 (eOp oLen [.s 0])) lg1_inversions li1_inversions lh1_inversions lt1_inversions le1_inversions [1, 2] [2])]))))
def m_inversions : MF := fn 1 3 [0] b_inversions
def lg1__law_outcome : MG := (gN 4)
def le1__law_outcome : ME := (eN 4)
def tb2__law_outcome : MS := (sSeq (sIf (tE (eOp (f2 pEq) [.s 0, .v (eC (.int 0))])) (sExpr (eCall m_run (aCons (eN 1) (aCons (eN 2) aNil)))) (sIf (tE (eOp (f2 pEq) [.s 0, .v (eC (.int 1))])) (sExpr (eCall m_exchanges (aCons (eN 1) (aCons (eN 2) aNil)))) (sIf (tE (eOp (f2 pEq) [.s 0, .v (eC (.int 2))])) (sExpr (eLcX (gSrcX m_trace mx_trace (aCons (eN 1) (aCons (eN 2) aNil))) lg1__law_outcome tYesM le1__law_outcome [4])) (sExpr (eCall m_inversions (aCons (eN 2) aNil)))))) (sRet (eLst (aCons (eC (.str "result")) (aCons (eC .non) aNil)))))
def hs3__law_outcome : MS := (sRet (eLst (aCons (eC (.str "values")) (aCons (eOp (oXf okx_index "index") [.s 3]) (aCons (eAnd (eOp (oIsiX isx_NetworkError 100) [.s 3, .v (eC (.cls 100))]) (eNot (eOp (oIsiX isx_InvalidStep 102) [.s 3, .v (eC (.cls 102))]))) aNil)))))
def b__law_outcome : MS := (sTry tb2__law_outcome [⟨hx_InvalidValues, some 3, hs3__law_outcome⟩])
def m__law_outcome : MF := fn 3 5 [0, 1, 2] b__law_outcome
def fg1__law_expected : MG := (gT [(gN 3), (gN 4)])
def fb1__law_expected : MS := (sIf (tOrM (tNotM (tE (eOp (oIsiB "int") [.s 4, .v (eC (.ty "int"))]))) (tE (eOp (oIsiB "bool") [.s 4, .v (eC (.ty "bool"))]))) (sRet (eLst (aCons (eC (.str "values")) (aCons (eN 3) (aCons (eC (.bl true)) aNil))))) sNext)
def b__law_expected : MS := (sSeq (sIf (tOrM (tNotM (tE (eOp (oIsiB "list") [.s 2, .v (eC (.ty "list"))]))) (tAndM (tE (eOp (f2 pLt) [.s 0, .v (eC (.int 3))])) (tE (eOp (f2 pNe) [.v (eOp oLen [.s 2]), .s 1])))) (sRet (eLst (aCons (eC (.str "values")) (aCons (eC .non) (aCons (eC (.bl true)) aNil))))) sNext) (sSeq (sFor (iEn (eN 2)) fg1__law_expected fb1__law_expected) (sRet (eLst (aCons (eC (.str "result")) (aCons (eC .non) aNil))))))
def m__law_expected : MF := fn 3 5 [0, 1, 2] b__law_expected
def st1_law : MS := (sAsg (eCall m__law_source (aCons (eN 0) (aCons (eN 1) aNil))) (gN 2))
def st2_law : MS := (sAsg (eOp oAdd [.v (eC (.int 1)), .v (eCallL m__law_draw aNil 2 (aCons (eC (.int 9)) aNil))]) (gN 3))
def st3_law : MS := (sAsg (eMake 0 m_Network___init__ (aCons (eN 3) (aCons (eCallL m__law_steps aNil 2 (aCons (eN 3) (aCons (eCallL m__law_draw aNil 2 (aCons (eC (.int 6)) aNil)) aNil))) aNil))) (gN 4))
def st4_law : MS := (sAsg (eFz (eCallL m__law_values aNil 2 (aCons (eN 3) aNil))) (gN 5))
def st5_law : MS := (sAsg (eCallL m__law_draw aNil 2 (aCons (eN 3) aNil)) (gN 6))
def st6_law : MS := (sAsg (eLst (aCons (eN 5) (aCons (eFz (eOp oAdd [.s 5, .v (eLst (aCons (eC (.int 0)) aNil))])) (aCons (eFz (eOp oS10 [.s 5, .v (eC (.int 1))])) (aCons (eFz (eLst aNil)) (aCons (eC .non) (aCons (eOp oTuple [.s 5]) (aCons (eC (.str "")) (aCons (eFz eDn) (aCons (eC (.int 5)) aNil)))))))))) (gN 7))
def st7_law : MS := (sAsg (eOp oAdd [.s 7, .v (eFz (eLst (aCons (eFz (eOp oAdd [.v (eOp oAdd [.v (eOp oS01 [.s 5, .s 6]), .v (eLst (aCons (eN 8) aNil))]), .v (eOp oS10 [.s 5, .v (eOp oAdd [.s 6, .v (eC (.int 1))])])])) (aCons (eFz (eOp oAdd [.v (eOp oS01 [.s 5, .s 6]), .v (eOp oMul [.v (eLst (aCons (eN 8) aNil)), .v (eOp oSub [.s 3, .s 6])])])) aNil))))]) (gN 7))
def st8_law : MS := (sExpr (eApp 7 (eFz (eOp oAdd [.s 5, .v (eLst (aCons (eN 8) aNil))]))))
def fg9_law : MG := (gN 8)
def fb9_law : MS := (sSeq st7_law st8_law)
def lg11_law : MG := (gN 11)
def le11_law : ME := (eN 11)
def st12_law : MS := (sRet (eC (.bl false)))
def st13_law : MS := (sIf (tE (eOp (f2 pNe) [.v (eLc (noXs (iZ0 (gSrcX m_trace mx_trace (aCons (eN 4) (aCons (eC .non) aNil))))) lg11_law tYesM le11_law [11]), .v (eFz (eLst aNil))])) st12_law sNext)
def st14_law : MS := (sRet (eC (.bl false)))
def st15_law : MS := (sIf (tE (eOp (f2 pNe) [.v (eCall m__law_outcome (aCons (eN 10) (aCons (eN 4) (aCons (eN 9) aNil)))), .v (eCall m__law_expected (aCons (eN 10) (aCons (eN 3) (aCons (eN 9) aNil))))])) st14_law sNext)
def fg16_law : MG := (gN 10)
def fb16_law : MS := st15_law
def fg18_law : MG := (gN 9)
def fb18_law : MS := (sFor (iR1 (eC (.int 4))) fg16_law fb16_law)
def fg20_law : MG := (gN 1)
def fb20_law : MS := (sSeq st1_law (sSeq st2_law (sSeq st3_law (sSeq st4_law (sSeq st5_law (sSeq st6_law (sSeq (sFor (iE (eLst (aCons (eC .non) (aCons (eC (.bl true)) (aCons (eC (.str "1")) (aCons (eFz (eFz (eLst (aCons (eC (.int 1)) aNil)))) (aCons (eFz (eTup (aCons (eC (.int 1)) aNil))) (aCons (eFz (eFz eDn)) aNil))))))) lstItems) fg9_law fb9_law) (sSeq st13_law (sFor (iE (eN 7) lstItems) fg18_law fb18_law)))))))))
def st22_law : MS := (sRet (eC (.bl true)))
def b_law : MS := (sSeq (sFor (iR1 (eOp oMax2 [.v (eC (.int 1)), .v (eOp oMin2 [.v (eOp oLen [.s 0]), .v (eC (.int 8))])])) fg20_law fb20_law) st22_law)
def m_law : MF := fn 1 12 [0] b_law
end Lw06

set_option maxHeartbeats 0
namespace Lw06
open PySem PySem.Spec PyProof.Rows L2 DL
theorem bt_abs : bootBuiltins "abs" = some (.builtin "abs") := by decide +kernel
theorem bt_bool : bootBuiltins "bool" = some (.type "bool") := by decide +kernel
theorem bt_int : bootBuiltins "int" = some (.type "int") := by decide +kernel
theorem bt_isinstance : bootBuiltins "isinstance" = some (.builtin "isinstance") := by decide +kernel
theorem bt_len : bootBuiltins "len" = some (.builtin "len") := by decide +kernel
theorem bt_list : bootBuiltins "list" = some (.type "list") := by decide +kernel
theorem bt_max : bootBuiltins "max" = some (.builtin "max") := by decide +kernel
theorem bt_min : bootBuiltins "min" = some (.builtin "min") := by decide +kernel
theorem bt_sum : bootBuiltins "sum" = some (.builtin "sum") := by decide +kernel
theorem bt_tuple : bootBuiltins "tuple" = some (.type "tuple") := by decide +kernel
/-! ### what the written part says -/
structure Tx (K : PySem.W.Frag) (mg : Str → Option Value) where
  f__law_source : Addr
  d__law_source : FuncData
  F__law_source : Fun K "_law_source" "_law_source" s__law_source f__law_source d__law_source
  B__law_source : Binds K d__law_source ["_law_script", "_law_k"] []
  g__law_source : mg "_law_source" = some (.ref f__law_source)
  f__law_draw : Addr
  d__law_draw : FuncData
  F__law_draw : Fun K "_law_draw" "_law_draw" s__law_draw f__law_draw d__law_draw
  B__law_draw : Binds K d__law_draw ["_law_source_here", "_law_many"] []
  g__law_draw : mg "_law_draw" = some (.ref f__law_draw)
  f__law_steps : Addr
  d__law_steps : FuncData
  F__law_steps : Fun K "_law_steps" "_law_steps" s__law_steps f__law_steps d__law_steps
  B__law_steps : Binds K d__law_steps ["_law_source_here", "_law_width", "_law_many"] []
  g__law_steps : mg "_law_steps" = some (.ref f__law_steps)
  f_is_integer : Addr
  d_is_integer : FuncData
  F_is_integer : Fun K "is_integer" "is_integer" s_is_integer f_is_integer d_is_integer
  B_is_integer : Binds K d_is_integer ["value", "low", "high"] []
  g_is_integer : mg "is_integer" = some (.ref f_is_integer)
  f_check_width : Addr
  d_check_width : FuncData
  F_check_width : Fun K "check_width" "check_width" s_check_width f_check_width d_check_width
  B_check_width : Binds K d_check_width ["width"] []
  g_check_width : mg "check_width" = some (.ref f_check_width)
  f_check_steps : Addr
  d_check_steps : FuncData
  F_check_steps : Fun K "check_steps" "check_steps" s_check_steps f_check_steps d_check_steps
  B_check_steps : Binds K d_check_steps ["width", "steps"] []
  g_check_steps : mg "check_steps" = some (.ref f_check_steps)
  f_Network___init__ : Addr
  d_Network___init__ : FuncData
  F_Network___init__ : Fun K "__init__" "Network.__init__" s_Network___init__ f_Network___init__ d_Network___init__
  B_Network___init__ : Binds K d_Network___init__ ["self", "width", "steps"] []
  f__law_values : Addr
  d__law_values : FuncData
  F__law_values : Fun K "_law_values" "_law_values" s__law_values f__law_values d__law_values
  B__law_values : Binds K d__law_values ["_law_source_here", "_law_width"] []
  g__law_values : mg "_law_values" = some (.ref f__law_values)
  f_is_any_integer : Addr
  d_is_any_integer : FuncData
  F_is_any_integer : Fun K "is_any_integer" "is_any_integer" s_is_any_integer f_is_any_integer d_is_any_integer
  B_is_any_integer : Binds K d_is_any_integer ["value"] []
  g_is_any_integer : mg "is_any_integer" = some (.ref f_is_any_integer)
  f_check_integers : Addr
  d_check_integers : FuncData
  F_check_integers : Fun K "check_integers" "check_integers" s_check_integers f_check_integers d_check_integers
  B_check_integers : Binds K d_check_integers ["values"] []
  g_check_integers : mg "check_integers" = some (.ref f_check_integers)
  f_check_values : Addr
  d_check_values : FuncData
  F_check_values : Fun K "check_values" "check_values" s_check_values f_check_values d_check_values
  B_check_values : Binds K d_check_values ["width", "values"] []
  g_check_values : mg "check_values" = some (.ref f_check_values)
  f_step_on : Addr
  d_step_on : FuncData
  F_step_on : Fun K "step_on" "step_on" s_step_on f_step_on d_step_on
  B_step_on : Binds K d_step_on ["values", "step"] []
  g_step_on : mg "step_on" = some (.ref f_step_on)
  f_trace : Addr
  d_trace : FuncData
  F_trace : Fun K "trace" "trace" s_trace f_trace d_trace
  B_trace : Binds K d_trace ["network", "values"] []
  g_trace : mg "trace" = some (.ref f_trace)
  f_result_of : Addr
  d_result_of : FuncData
  F_result_of : Fun K "result_of" "result_of" s_result_of f_result_of d_result_of
  B_result_of : Binds K d_result_of ["steps", "values"] []
  g_result_of : mg "result_of" = some (.ref f_result_of)
  f_run : Addr
  d_run : FuncData
  F_run : Fun K "run" "run" s_run f_run d_run
  B_run : Binds K d_run ["network", "values"] []
  g_run : mg "run" = some (.ref f_run)
  f_exchanges : Addr
  d_exchanges : FuncData
  F_exchanges : Fun K "exchanges" "exchanges" s_exchanges f_exchanges d_exchanges
  B_exchanges : Binds K d_exchanges ["network", "values"] []
  g_exchanges : mg "exchanges" = some (.ref f_exchanges)
  f_inversions : Addr
  d_inversions : FuncData
  F_inversions : Fun K "inversions" "inversions" s_inversions f_inversions d_inversions
  B_inversions : Binds K d_inversions ["values"] []
  g_inversions : mg "inversions" = some (.ref f_inversions)
  f__law_outcome : Addr
  d__law_outcome : FuncData
  F__law_outcome : Fun K "_law_outcome" "_law_outcome" s__law_outcome f__law_outcome d__law_outcome
  B__law_outcome : Binds K d__law_outcome ["_law_choice", "_law_network", "_law_values_here"] []
  g__law_outcome : mg "_law_outcome" = some (.ref f__law_outcome)
  f__law_expected : Addr
  d__law_expected : FuncData
  F__law_expected : Fun K "_law_expected" "_law_expected" s__law_expected f__law_expected d__law_expected
  B__law_expected : Binds K d__law_expected ["_law_choice", "_law_width", "_law_values_here"] []
  g__law_expected : mg "_law_expected" = some (.ref f__law_expected)
  f_law : Addr
  d_law : FuncData
  F_law : Fun K "law" "law" s_law f_law d_law
  B_law : Binds K d_law ["_law_script"] []
  g_law : mg "law" = some (.ref f_law)
  c_Network : Addr
  g_Network : mg "Network" = some (.ref c_Network)
  cl_Network : Cls K c_Network
  mk_Network : Mk K c_Network f_Network___init__
  p_Network_steps : Addr
  f_Network_steps : Addr
  d_Network_steps : FuncData
  F_Network_steps : Fun K "steps" "Network.steps" s_Network_steps f_Network_steps d_Network_steps
  B_Network_steps : Binds K d_Network_steps ["self"] []
  pr_Network_steps : PropOf K c_Network "steps" p_Network_steps f_Network_steps
  p_Network_width : Addr
  f_Network_width : Addr
  d_Network_width : FuncData
  F_Network_width : Fun K "width" "Network.width" s_Network_width f_Network_width d_Network_width
  B_Network_width : Binds K d_Network_width ["self"] []
  pr_Network_width : PropOf K c_Network "width" p_Network_width f_Network_width
  na_Network_own_steps : NoAttr K c_Network "own_steps"
  na_Network_own_width : NoAttr K c_Network "own_width"
  mc_Network : Value
  rd_Network : ClX.CRead K c_Network mc_Network
  v_Network_MAX_STEPS : Value
  cv_Network_MAX_STEPS : ClX.CVal K c_Network mc_Network "MAX_STEPS" (.int 1000) v_Network_MAX_STEPS
  v_Network_MAX_WIDTH : Value
  cv_Network_MAX_WIDTH : ClX.CVal K c_Network mc_Network "MAX_WIDTH" (.int 40) v_Network_MAX_WIDTH
  c_InvalidStep : Addr
  g_InvalidStep : mg "InvalidStep" = some (.ref c_InvalidStep)
  c_InvalidValues : Addr
  g_InvalidValues : mg "InvalidValues" = some (.ref c_InvalidValues)
  c_InvalidWidth : Addr
  g_InvalidWidth : mg "InvalidWidth" = some (.ref c_InvalidWidth)
  c_NetworkError : Addr
  g_NetworkError : mg "NetworkError" = some (.ref c_NetworkError)
  mx_NetworkError : Value
  rx_NetworkError : ClX.CRead K c_NetworkError mx_NetworkError
  vx_NetworkError : PySem.W.findCls K (.ref c_NetworkError) mx_NetworkError "__init__" = some (.val (.builtin "ValueError.__init__"))
  f_InvalidStep___init__ : Addr
  d_InvalidStep___init__ : FuncData
  F_InvalidStep___init__ : Fun K "__init__" "InvalidStep.__init__" s_InvalidStep___init__ f_InvalidStep___init__ d_InvalidStep___init__
  B_InvalidStep___init__ : Binds K d_InvalidStep___init__ ["self", "index"] []
  ox_InvalidStep : OexC K c_InvalidStep
  iC_InvalidStep : PySem.W.findIn K (.ref c_InvalidStep) "__init__" = some (some (.ref f_InvalidStep___init__))
  tI_InvalidStep : PySem.W.typeIn K (.ref f_InvalidStep___init__) = some (.type "function")
  nf_InvalidStep_index : PySem.W.findIn K (.ref c_InvalidStep) "index" = some none
  xfc_InvalidStep : XfC K c_InvalidStep
  xic_InvalidStep : XiC K c_InvalidStep
  f_InvalidValues___init__ : Addr
  d_InvalidValues___init__ : FuncData
  F_InvalidValues___init__ : Fun K "__init__" "InvalidValues.__init__" s_InvalidValues___init__ f_InvalidValues___init__ d_InvalidValues___init__
  B_InvalidValues___init__ : Binds K d_InvalidValues___init__ ["self", "index"] []
  ox_InvalidValues : OexC K c_InvalidValues
  iC_InvalidValues : PySem.W.findIn K (.ref c_InvalidValues) "__init__" = some (some (.ref f_InvalidValues___init__))
  tI_InvalidValues : PySem.W.typeIn K (.ref f_InvalidValues___init__) = some (.type "function")
  nf_InvalidValues_index : PySem.W.findIn K (.ref c_InvalidValues) "index" = some none
  xfc_InvalidValues : XfC K c_InvalidValues
  xic_InvalidValues : XiC K c_InvalidValues
  f_InvalidWidth___init__ : Addr
  d_InvalidWidth___init__ : FuncData
  F_InvalidWidth___init__ : Fun K "__init__" "InvalidWidth.__init__" s_InvalidWidth___init__ f_InvalidWidth___init__ d_InvalidWidth___init__
  B_InvalidWidth___init__ : Binds K d_InvalidWidth___init__ ["self", "value"] []
  ox_InvalidWidth : OexC K c_InvalidWidth
  iC_InvalidWidth : PySem.W.findIn K (.ref c_InvalidWidth) "__init__" = some (some (.ref f_InvalidWidth___init__))
  tI_InvalidWidth : PySem.W.typeIn K (.ref f_InvalidWidth___init__) = some (.type "function")
  nf_InvalidWidth_value : PySem.W.findIn K (.ref c_InvalidWidth) "value" = some none
  xic_InvalidWidth : XiC K c_InvalidWidth
  em_InvalidStep_InvalidValues : PySem.W.exmOne K (.ref c_InvalidStep) (.ref c_InvalidValues) = some false
  em_InvalidValues_InvalidValues : PySem.W.exmOne K (.ref c_InvalidValues) (.ref c_InvalidValues) = some true
  em_InvalidWidth_InvalidValues : PySem.W.exmOne K (.ref c_InvalidWidth) (.ref c_InvalidValues) = some false
  ko_InvalidStep_InvalidStep : PySem.W.kitOne K (.ref c_InvalidStep) (.ref c_InvalidStep) = some true
  ko_InvalidValues_InvalidStep : PySem.W.kitOne K (.ref c_InvalidValues) (.ref c_InvalidStep) = some false
  ko_InvalidWidth_InvalidStep : PySem.W.kitOne K (.ref c_InvalidWidth) (.ref c_InvalidStep) = some false
  ko_InvalidStep_NetworkError : PySem.W.kitOne K (.ref c_InvalidStep) (.ref c_NetworkError) = some true
  ko_InvalidValues_NetworkError : PySem.W.kitOne K (.ref c_InvalidValues) (.ref c_NetworkError) = some true
  ko_InvalidWidth_NetworkError : PySem.W.kitOne K (.ref c_InvalidWidth) (.ref c_NetworkError) = some true
  nst_InvalidValues : PySem.W.subIn K (.ref c_InvalidValues) (.type "StopIteration") = some false
  z_abs : mg "abs" = none
  z_bool : mg "bool" = none
  z_enumerate : mg "enumerate" = none
  z_int : mg "int" = none
  z_isinstance : mg "isinstance" = none
  z_len : mg "len" = none
  z_list : mg "list" = none
  z_max : mg "max" = none
  z_min : mg "min" = none
  z_range : mg "range" = none
  z_sum : mg "sum" = none
  z_tuple : mg "tuple" = none
  z_zip : mg "zip" = none
section
variable {w : World} {P : Program} {base : Heap} {mg : Str → Option Value} {K : PySem.W.Frag}
def Tx.ca (T : Tx K mg) : Nat → Addr
  | 0 => T.c_Network | 102 => T.c_InvalidStep | 103 => T.c_InvalidValues | 101 => T.c_InvalidWidth | 100 => T.c_NetworkError
  | _ => 0
theorem Tx.xf_index (T : Tx K mg) : ∀ C, okx_index C = true → XfC K (T.ca C) ∧ PySem.W.findIn K (.ref (T.ca C)) "index" = some none := fun C h => by
  unfold okx_index at h
  split at h <;> first
    | exact ⟨T.xfc_InvalidStep, T.nf_InvalidStep_index⟩
    | exact ⟨T.xfc_InvalidValues, T.nf_InvalidValues_index⟩
    | cases h
theorem Tx.xi_InvalidStep (T : Tx K mg) : ∀ C b, isx_InvalidStep C = some b → XiC K (T.ca C) ∧ PySem.W.kitOne K (.ref (T.ca C)) (.ref (T.ca 102)) = some b := fun C b h => by
  unfold isx_InvalidStep at h
  split at h <;> first
    | (cases h; exact ⟨T.xic_InvalidStep, T.ko_InvalidStep_InvalidStep⟩)
    | (cases h; exact ⟨T.xic_InvalidValues, T.ko_InvalidValues_InvalidStep⟩)
    | (cases h; exact ⟨T.xic_InvalidWidth, T.ko_InvalidWidth_InvalidStep⟩)
    | (cases h; done)
theorem Tx.xi_NetworkError (T : Tx K mg) : ∀ C b, isx_NetworkError C = some b → XiC K (T.ca C) ∧ PySem.W.kitOne K (.ref (T.ca C)) (.ref (T.ca 100)) = some b := fun C b h => by
  unfold isx_NetworkError at h
  split at h <;> first
    | (cases h; exact ⟨T.xic_InvalidStep, T.ko_InvalidStep_NetworkError⟩)
    | (cases h; exact ⟨T.xic_InvalidValues, T.ko_InvalidValues_NetworkError⟩)
    | (cases h; exact ⟨T.xic_InvalidWidth, T.ko_InvalidWidth_NetworkError⟩)
    | (cases h; done)
theorem Tx.hxq_InvalidValues (T : Tx K mg) : ∀ C b, hx_InvalidValues C = some b → PySem.W.exmOne K (.ref (T.ca C)) (.ref (T.c_InvalidValues)) = some b := fun C b h => by
  unfold hx_InvalidValues at h
  split at h <;> first
    | (cases h; exact T.em_InvalidStep_InvalidValues)
    | (cases h; exact T.em_InvalidValues_InvalidValues)
    | (cases h; exact T.em_InvalidWidth_InvalidValues)
    | (cases h; done)
theorem ini_InvalidStep (T : Tx K mg) : FnOk P w K mg base (L2.CX P w) 1 T.f_InvalidStep___init__ T.d_InvalidStep___init__ ["self", "index"] (exSp (T.ca 102) ["index"]) := exI1_ok T.F_InvalidStep___init__ sc_InvalidStep___init__ rfl T.ox_InvalidStep T.nf_InvalidStep_index T.g_NetworkError T.rx_NetworkError T.vx_NetworkError (fun _ _ _ _ _ _ => rfl) (fun _ _ _ _ _ _ => ⟨_, rfl⟩) (by first | exact .inl rfl | exact .inr (.inl rfl)) (by first | exact .inl rfl | exact .inr (.inl rfl)) rfl rfl
theorem ini_InvalidValues (T : Tx K mg) : FnOk P w K mg base (L2.CX P w) 1 T.f_InvalidValues___init__ T.d_InvalidValues___init__ ["self", "index"] (exSp (T.ca 103) ["index"]) := exI1_ok T.F_InvalidValues___init__ sc_InvalidValues___init__ rfl T.ox_InvalidValues T.nf_InvalidValues_index T.g_NetworkError T.rx_NetworkError T.vx_NetworkError (fun _ _ _ _ _ _ => rfl) (fun _ _ _ _ _ _ => ⟨_, rfl⟩) (by first | exact .inl rfl | exact .inr (.inl rfl)) (by first | exact .inl rfl | exact .inr (.inl rfl)) rfl rfl
theorem ini_InvalidWidth (T : Tx K mg) : FnOk P w K mg base (L2.CX P w) 1 T.f_InvalidWidth___init__ T.d_InvalidWidth___init__ ["self", "value"] (exSp (T.ca 101) ["value"]) := exI1_ok T.F_InvalidWidth___init__ sc_InvalidWidth___init__ rfl T.ox_InvalidWidth T.nf_InvalidWidth_value T.g_NetworkError T.rx_NetworkError T.vx_NetworkError (fun _ _ _ _ _ _ => rfl) (fun _ _ _ _ _ _ => ⟨_, rfl⟩) (by first | exact .inl rfl | exact .inr (.inl rfl)) (by first | exact .inl rfl | exact .inr (.inl rfl)) rfl rfl
theorem ok_Network_steps (T : Tx K mg) : FnOk P w K mg base (L2.CX P w) 1 T.f_Network_steps T.d_Network_steps ["self"] (getSp (T.ca 0) "own_steps") := getter_ok T.F_Network_steps sc_Network_steps rfl rfl T.cl_Network T.na_Network_own_steps
theorem ok_Network_width (T : Tx K mg) : FnOk P w K mg base (L2.CX P w) 1 T.f_Network_width T.d_Network_width ["self"] (getSp (T.ca 0) "own_width") := getter_ok T.F_Network_width sc_Network_width rfl rfl T.cl_Network T.na_Network_own_width
theorem ok__law_source (T : Tx K mg) : FnG P w K mg base (L2.CX P w) 1 T.f__law_source (spM T.ca K m__law_source) := fn_okG (N := ["_law_script", "_law_k", "_law_cell", "_law_size", "_law_mixed"]) (n := 2) (L := [0, 1]) (mb := b__law_source) T.F__law_source T.B__law_source sc__law_source rfl fun cdv A outer s H E hr =>
  show CSs _ _ _ _ b__law_source from (css_cons (cs_set 2 sc__law_source.nd (ce_bin op_addA os_add (co_v (ce_bin op_mulA os_mul (co_v ce_int) (co_v (ce_callB (cr_sum rfl) (by rfl) T.z_sum bt_sum os_sum (.cons (co_v (ce_s01 (es 0) (co_v ce_int))) .nil) (hst := ⟨fun _ => rfl, trivial⟩))))) (es 1)))
    (css_cons (cs_if (ct_cmp (ce_cmp op_lt os_lt (es 1) (co_v (ce_callB call_len_seq (by rfl) T.z_len bt_len os_len (.cons (es 0) .nil) (hst := ⟨fun _ => rfl, trivial⟩))) (nomark _))) (css_one (cs_set 2 sc__law_source.nd (ce_ix ix_A os_ix (es 0) (es 1) (fun _ _ => rfl)))) css_nil)
    (css_cons (cs_set 3 sc__law_source.nd (ce_callB call_abs (by rfl) T.z_abs bt_abs os_abs (.cons (es 2) .nil) (hst := ⟨fun _ => rfl, trivial⟩)))
    (css_cons (cs_set 4 sc__law_source.nd (ce_bin op_mod os_mod (co_v (ce_bin op_mulA os_mul (co_v (ce_bin op_addA os_add (co_v (ce_bin op_addA os_add (co_v (ce_bin op_addA os_add (co_v (ce_bin op_mod os_mod (es 3) (co_v ce_int))) (co_v (ce_bin op_mulA os_mul (co_v (ce_bin op_mulA os_mul (co_v ce_int) (es 1))) (es 1))))) (co_v (ce_bin op_mulA os_mul (co_v ce_int) (es 1))))) (co_v ce_int))) (co_v ce_int))) (co_v ce_int)))
    (css_one (cs_ret (ce_lst (cl_cons (ce_bin op_mulA os_mul (es 3) (co_v (ce_callTy call_int1 (by rfl) T.z_int bt_int os_int (.cons (co_v (ce_cmp op_ge os_ge (es 3) (co_v (ce_bin op_pow os_pow (co_v ce_int) (co_v ce_int))) (nomark _))) .nil) (hst := ⟨fun _ => rfl, trivial⟩)))) (cl_cons (ce_bin op_mod os_mod (co_v (ce_bin op_mulA os_mul (es 4) (es 4))) (co_v ce_int)) cl_nil)) ⟨fun _ => rfl, ⟨fun _ => rfl, trivial⟩⟩)))))))
theorem ok__law_draw (T : Tx K mg) : FnG P w K mg base (L2.CX P w) 1 T.f__law_draw (spM T.ca K m__law_draw) := fn_okG (N := ["_law_source_here", "_law_many", "_law_result"]) (n := 2) (L := [0, 1]) (mb := b__law_draw) T.F__law_draw T.B__law_draw sc__law_draw rfl fun cdv A outer s H E hr =>
  show CSs _ _ _ _ b__law_draw from (css_cons (cs_if (ct_cmp (ce_cmp op_gt os_gt (co_v (ce_ix ix_A os_ix (es 0) (co_v ce_int) (fun _ _ => rfl))) (co_v ce_int) (nomark _))) (css_cons (cs_set 2 sc__law_draw.nd (ce_bin op_mod os_mod (co_v (ce_ix ix_A os_ix (es 0) (co_v ce_int) (fun _ _ => rfl))) (es 1)))
    (css_cons (cs_asgT (ce_bin op_fdivW os_div (co_v (ce_ix ix_A os_ix (es 0) (co_v ce_int) (fun _ _ => rfl))) (es 1)) (cg_ix (pv 0) ce_int (fun _ => rfl)))
    (css_one (cs_ret (emv 2))))) css_nil)
    (css_cons (cs_asgT (ce_bin op_mod os_mod (co_v (ce_bin op_addA os_add (co_v (ce_bin op_mulA os_mul (co_v (ce_ix ix_A os_ix (es 0) (co_v ce_int) (fun _ _ => rfl))) (co_v ce_int))) (co_v ce_int))) (co_v ce_int)) (cg_ix (pv 0) ce_int (fun _ => rfl)))
    (css_one (cs_ret (ce_bin op_mod os_mod (co_v (ce_bin op_fdivW os_div (co_v (ce_bin op_mod os_mod (co_v (ce_bin op_mulA os_mul (co_v (ce_ix ix_A os_ix (es 0) (co_v ce_int) (fun _ _ => rfl))) (co_v (ce_ix ix_A os_ix (es 0) (co_v ce_int) (fun _ _ => rfl))))) (co_v ce_int))) (co_v ce_int))) (es 1))))))
theorem ok__law_steps (T : Tx K mg) : FnG P w K mg base (L2.CX P w) 2 T.f__law_steps (spM T.ca K m__law_steps) := fn_okG (N := ["_law_source_here", "_law_width", "_law_many", "_law_k"]) (n := 3) (L := [0, 1, 2]) (mb := b__law_steps) T.F__law_steps T.B__law_steps sc__law_steps rfl fun cdv A outer s H E hr =>
  show CSs _ _ _ _ b__law_steps from (css_one (cs_ret (ce_lc (own := [("_law_k", 3)]) rfl sc__law_steps.nd (ci_range1 (by rfl) T.z_range (ce_bin op_mulA os_mul (es 2) (co_v (ce_callTy call_int1 (by rfl) T.z_int bt_int os_int (.cons (co_v (ce_cmp op_gt os_gt (es 1) (co_v ce_int) (nomark _))) .nil) (hst := ⟨fun _ => rfl, trivial⟩))))) (blk_of rfl (by kernel_rfl)) (fun _ _ _ _ _ _ => (gb 3 sc__law_steps.nd)) (fun _ _ _ _ _ => (ce_bin op_addA os_add (co_v ce_int) (co_v (ce_callLG _ _ _ (ok__law_draw T) (hr.mono (by decide)) (by rfl) T.g__law_draw T.F__law_draw.kp cl_nil (pv 0) (cl_cons (ce_bin op_sub os_sub (es 1) (co_v ce_int)) cl_nil) rfl ⟨fun _ => rfl, ⟨fun _ => rfl, trivial⟩⟩)))))))
theorem ok_is_integer (T : Tx K mg) : FnG P w K mg base (L2.CX P w) 1 T.f_is_integer (spM T.ca K m_is_integer) := fn_okG (N := ["value", "low", "high"]) (n := 3) (L := [0, 1, 2]) (mb := b_is_integer) T.F_is_integer T.B_is_integer sc_is_integer rfl fun cdv A outer s H E hr =>
  show CSs _ _ _ _ b_is_integer from (css_one (cs_ret (ce_and' (ce_callB call_isi (by rfl) T.z_isinstance bt_isinstance (os_isiB (T := "int")) (.cons (es 0) (.cons (co_v (ce_ty (by rfl) T.z_int bt_int)) .nil)) (hst := ⟨fun _ => rfl, ⟨fun _ => rfl, trivial⟩⟩)) (ce_and (ce_not (ce_callB call_isi (by rfl) T.z_isinstance bt_isinstance (os_isiB (T := "bool")) (.cons (es 0) (.cons (co_v (ce_ty (by rfl) T.z_bool bt_bool)) .nil)) (hst := ⟨fun _ => rfl, ⟨fun _ => rfl, trivial⟩⟩))) (ce_chain op_le op_le os_le os_le (en 1) (en 0) (en 2))))))
theorem ok_check_width (T : Tx K mg) : FnG P w K mg base (L2.CX P w) 3 T.f_check_width (spM T.ca K m_check_width) := fn_okG (N := ["width"]) (n := 1) (L := [0]) (mb := b_check_width) T.F_check_width T.B_check_width sc_check_width rfl fun cdv A outer s H E hr =>
  show CSs _ _ _ _ b_check_width from (css_one (cs_if (ct_not (ct_val (ce_callR (ok_is_integer T) (hr.mono (by decide)) (by rfl) T.g_is_integer T.F_is_integer.kp (cl_cons (en 0) (cl_cons ce_int (cl_cons (ce_cval (by rfl) T.g_Network T.rd_Network T.cv_Network_MAX_WIDTH fun _ _ => .int) cl_nil))) ⟨fun _ => rfl, ⟨fun _ => rfl, ⟨fun _ => rfl, trivial⟩⟩⟩))) (css_one (cs_raise (C := 101) (fs := ["value"]) rfl T.ox_InvalidWidth T.iC_InvalidWidth T.tI_InvalidWidth (ini_InvalidWidth T) (hr.2.mono (by decide)) T.B_InvalidWidth___init__ (by rfl) T.g_InvalidWidth (by decide) (cl_cons (en 0) cl_nil) ⟨fun _ => rfl, trivial⟩)) css_nil))
theorem ok_check_steps (T : Tx K mg) : FnG P w K mg base (L2.CX P w) 3 T.f_check_steps (spM T.ca K m_check_steps) := fn_okG (N := ["width", "steps", "index", "step"]) (n := 2) (L := [0, 1]) (mb := b_check_steps) T.F_check_steps T.B_check_steps sc_check_steps rfl fun cdv A outer s H E hr =>
  show CSs _ _ _ _ b_check_steps from (css_cons (cs_if (ct_w (cw_or (ct_not (ct_val (ce_callB call_isiT (by rfl) T.z_isinstance bt_isinstance os_isi2 (.cons (es 1) (.cons (co_v (ce_tup (cl_cons (ce_ty (by rfl) T.z_list bt_list) (cl_cons (ce_ty (by rfl) T.z_tuple bt_tuple) cl_nil)) ⟨fun _ => rfl, ⟨fun _ => rfl, trivial⟩⟩)) .nil)) (hst := ⟨fun _ => rfl, ⟨fun _ => rfl, trivial⟩⟩)))) (cw_or1 (ct_cmp (ce_cmp op_gt os_gt (co_v (ce_callB call_len_seq (by rfl) T.z_len bt_len os_len (.cons (es 1) .nil) (hst := ⟨fun _ => rfl, trivial⟩))) (co_v (ce_cval (by rfl) T.g_Network T.rd_Network T.cv_Network_MAX_STEPS fun _ _ => .int)) (nomark _)))))) (css_one (cs_raise (C := 102) (fs := ["index"]) rfl T.ox_InvalidStep T.iC_InvalidStep T.tI_InvalidStep (ini_InvalidStep T) (hr.2.mono (by decide)) T.B_InvalidStep___init__ (by rfl) T.g_InvalidStep (by decide) (cl_cons ce_non cl_nil) ⟨fun _ => rfl, trivial⟩)) css_nil)
    (css_one (cs_for (ci_or (ci_enum (by rfl) T.z_enumerate (en 1)) (ci_enumT (by rfl) T.z_enumerate (en 1)) (iEnA_or _)) (cg_tup rfl (cgs_cons (gn 2 sc_check_steps.nd) (cgs_cons (gn 3 sc_check_steps.nd) cgs_nil (by rfl)) (by rfl)) rfl) (css_one (cs_if (ct_not (ct_val (ce_callR (ok_is_integer T) (hr.mono (by decide)) (by rfl) T.g_is_integer T.F_is_integer.kp (cl_cons (en 3) (cl_cons ce_int (cl_cons (ce_bin op_sub os_sub (es 0) (co_v ce_int)) cl_nil))) ⟨fun _ => rfl, ⟨fun _ => rfl, ⟨fun _ => rfl, trivial⟩⟩⟩))) (css_one (cs_raise (C := 102) (fs := ["index"]) rfl T.ox_InvalidStep T.iC_InvalidStep T.tI_InvalidStep (ini_InvalidStep T) (hr.2.mono (by decide)) T.B_InvalidStep___init__ (by rfl) T.g_InvalidStep (by decide) (cl_cons (en 2) cl_nil) ⟨fun _ => rfl, trivial⟩)) css_nil)) (passes_of rfl) rfl)))
theorem ok_Network___init__ (T : Tx K mg) : FnG P w K mg base (L2.CX P w) 4 T.f_Network___init__ (spM T.ca K m_Network___init__) := fn_okG (N := ["self", "width", "steps"]) (n := 3) (L := [0, 1, 2]) (mb := b_Network___init__) T.F_Network___init__ T.B_Network___init__ sc_Network___init__ rfl fun cdv A outer s H E hr =>
  show CSs _ _ _ _ b_Network___init__ from (css_cons (cs_expr (ce_callR (ok_check_width T) (hr.mono (by decide)) (by rfl) T.g_check_width T.F_check_width.kp (cl_cons (en 1) cl_nil) ⟨fun _ => rfl, trivial⟩))
    (css_cons (cs_expr (ce_callR (ok_check_steps T) (hr.mono (by decide)) (by rfl) T.g_check_steps T.F_check_steps.kp (cl_cons (en 1) (cl_cons (en 2) cl_nil)) ⟨fun _ => rfl, ⟨fun _ => rfl, trivial⟩⟩))
    (css_cons (cs_fld (C := 0) T.cl_Network T.na_Network_own_width (pv 0) (en 1))
    (css_one (cs_fld (C := 0) T.cl_Network T.na_Network_own_steps (pv 0) (ce_callTy call_tuple_of (by rfl) T.z_tuple bt_tuple os_tuple (.cons (es 2) .nil) (hst := ⟨fun _ => rfl, trivial⟩)))))))
theorem ok__law_values (T : Tx K mg) : FnG P w K mg base (L2.CX P w) 2 T.f__law_values (spM T.ca K m__law_values) := fn_okG (N := ["_law_source_here", "_law_width", "_law_size", "_law_k"]) (n := 2) (L := [0, 1]) (mb := b__law_values) T.F__law_values T.B__law_values sc__law_values rfl fun cdv A outer s H E hr =>
  show CSs _ _ _ _ b__law_values from (css_cons (cs_set 2 sc__law_values.nd (ce_ix ix_A os_ix (co_v (ce_lst (cl_cons ce_int (cl_cons ce_int (cl_cons ce_int (cl_cons (ce_bin op_pow os_pow (co_v ce_int) (co_v ce_int)) cl_nil)))) ⟨fun _ => rfl, ⟨fun _ => rfl, ⟨fun _ => rfl, ⟨fun _ => rfl, trivial⟩⟩⟩⟩)) (co_v (ce_callLG _ _ _ (ok__law_draw T) (hr.mono (by decide)) (by rfl) T.g__law_draw T.F__law_draw.kp cl_nil (pv 0) (cl_cons ce_int cl_nil) rfl ⟨fun _ => rfl, ⟨fun _ => rfl, trivial⟩⟩)) (fun _ _ => rfl)) (hs := by kernel_rfl) (hx := .inr rfl))
    (css_one (cs_ret (ce_lc (own := [("_law_k", 3)]) rfl sc__law_values.nd (ci_range1 (by rfl) T.z_range (en 1)) (blk_of rfl (by kernel_rfl)) (fun _ _ _ _ _ _ => (gb 3 sc__law_values.nd)) (fun _ _ _ _ _ => (ce_bin op_sub os_sub (co_v (ce_callLG _ _ _ (ok__law_draw T) (hr.mono (by decide)) (by rfl) T.g__law_draw T.F__law_draw.kp cl_nil (pv 0) (cl_cons (en 2) cl_nil) rfl ⟨fun _ => rfl, ⟨fun _ => rfl, trivial⟩⟩)) (co_v (ce_bin op_fdivW os_div (es 2) (co_v ce_int)))))))))
theorem ok_is_any_integer (T : Tx K mg) : FnG P w K mg base (L2.CX P w) 1 T.f_is_any_integer (spM T.ca K m_is_any_integer) := fn_okG (N := ["value"]) (n := 1) (L := [0]) (mb := b_is_any_integer) T.F_is_any_integer T.B_is_any_integer sc_is_any_integer rfl fun cdv A outer s H E hr =>
  show CSs _ _ _ _ b_is_any_integer from (css_one (cs_ret (ce_and (ce_callB call_isi (by rfl) T.z_isinstance bt_isinstance (os_isiB (T := "int")) (.cons (es 0) (.cons (co_v (ce_ty (by rfl) T.z_int bt_int)) .nil)) (hst := ⟨fun _ => rfl, ⟨fun _ => rfl, trivial⟩⟩)) (ce_not (ce_callB call_isi (by rfl) T.z_isinstance bt_isinstance (os_isiB (T := "bool")) (.cons (es 0) (.cons (co_v (ce_ty (by rfl) T.z_bool bt_bool)) .nil)) (hst := ⟨fun _ => rfl, ⟨fun _ => rfl, trivial⟩⟩))))))
theorem ok_check_integers (T : Tx K mg) : FnG P w K mg base (L2.CX P w) 3 T.f_check_integers (spM T.ca K m_check_integers) := fn_okG (N := ["values", "index", "value"]) (n := 1) (L := [0]) (mb := b_check_integers) T.F_check_integers T.B_check_integers sc_check_integers rfl fun cdv A outer s H E hr =>
  show CSs _ _ _ _ b_check_integers from (css_one (cs_for (ci_enum (by rfl) T.z_enumerate (en 0)) (cg_tup rfl (cgs_cons (gn 1 sc_check_integers.nd) (cgs_cons (gn 2 sc_check_integers.nd) cgs_nil (by rfl)) (by rfl)) rfl) (css_one (cs_if (ct_not (ct_val (ce_callR (ok_is_any_integer T) (hr.mono (by decide)) (by rfl) T.g_is_any_integer T.F_is_any_integer.kp (cl_cons (en 2) cl_nil) ⟨fun _ => rfl, trivial⟩))) (css_one (cs_raise (C := 103) (fs := ["index"]) rfl T.ox_InvalidValues T.iC_InvalidValues T.tI_InvalidValues (ini_InvalidValues T) (hr.2.mono (by decide)) T.B_InvalidValues___init__ (by rfl) T.g_InvalidValues (by decide) (cl_cons (en 1) cl_nil) ⟨fun _ => rfl, trivial⟩)) css_nil)) (passes_of rfl) rfl))
theorem ok_check_values (T : Tx K mg) : FnG P w K mg base (L2.CX P w) 4 T.f_check_values (spM T.ca K m_check_values) := fn_okG (N := ["width", "values"]) (n := 2) (L := [0, 1]) (mb := b_check_values) T.F_check_values T.B_check_values sc_check_values rfl fun cdv A outer s H E hr =>
  show CSs _ _ _ _ b_check_values from (css_cons (cs_if (ct_w (cw_or (ct_not (ct_val (ce_callB call_isi (by rfl) T.z_isinstance bt_isinstance (os_isiB (T := "list")) (.cons (es 1) (.cons (co_v (ce_ty (by rfl) T.z_list bt_list)) .nil)) (hst := ⟨fun _ => rfl, ⟨fun _ => rfl, trivial⟩⟩)))) (cw_or1 (ct_cmp (ce_cmp (op_neD hr.2.units) os_ne (co_v (ce_callB call_len_seq (by rfl) T.z_len bt_len os_len (.cons (es 1) .nil) (hst := ⟨fun _ => rfl, trivial⟩))) (es 0) (nomark _)))))) (css_one (cs_raise (C := 103) (fs := ["index"]) rfl T.ox_InvalidValues T.iC_InvalidValues T.tI_InvalidValues (ini_InvalidValues T) (hr.2.mono (by decide)) T.B_InvalidValues___init__ (by rfl) T.g_InvalidValues (by decide) (cl_cons ce_non cl_nil) ⟨fun _ => rfl, trivial⟩)) css_nil)
    (css_one (cs_expr (ce_callR (ok_check_integers T) (hr.mono (by decide)) (by rfl) T.g_check_integers T.F_check_integers.kp (cl_cons (en 1) cl_nil) ⟨fun _ => rfl, trivial⟩))))
theorem ok_step_on (T : Tx K mg) : FnG P w K mg base (L2.CX P w) 1 T.f_step_on (spM T.ca K m_step_on) := fn_okG (N := ["values", "step", "left", "right"]) (n := 2) (L := [0, 1]) (mb := b_step_on) T.F_step_on T.B_step_on sc_step_on rfl fun cdv A outer s H E hr =>
  show CSs _ _ _ _ b_step_on from (css_cons (cs_par (i := 2) (j := 3) rfl sc_step_on.nd rfl rfl (by decide) rfl rfl (by decide) (by decide) (cl_cons (ce_ix ix_A os_ix (es 0) (co_v (ce_bin op_sub os_sub (es 1) (co_v ce_int))) (fun _ _ => rfl)) (cl_cons (ce_ix ix_A os_ix (es 0) (es 1) (fun _ _ => rfl)) cl_nil)) ⟨fun _ => rfl, ⟨fun _ => rfl, trivial⟩⟩ (by rfl))
    (css_cons (cs_if (ct_cmp (ce_cmp op_le os_le (es 2) (es 3) (nomark _))) (css_one (cs_ret ce_bl)) css_nil)
    (css_cons (cs_asgT (ce_tup (cl_cons (en 3) (cl_cons (en 2) cl_nil)) ⟨fun _ => rfl, ⟨fun _ => rfl, trivial⟩⟩) (cg_tup rfl (cgs_cons (cg_ix (pv 0) (ce_bin op_sub os_sub (es 1) (co_v ce_int)) (fun _ => rfl)) (cgs_cons (cg_ix (pv 0) (en 1) (fun _ => rfl)) cgs_nil (by rfl)) (by rfl)) rfl))
    (css_one (cs_ret ce_bl)))))
theorem ok_trace (T : Tx K mg) : GnG T.ca P w K mg base 6 T.f_trace m_trace := gn_ok T.F_trace T.B_trace sc_trace rfl fun cdv outer L a go g os =>
  show GBs _ _ _ _ b_trace from (gbs_cons (gb_plain fun A s0 (hr : RoomG 4 _) => (cs_expr (ce_callR (ok_check_values T) (hr.mono (by decide)) (by rfl) T.g_check_values T.F_check_values.kp (cl_cons (ce_prop (C := 0) (k := 1) T.cl_Network T.pr_Network_width (ok_Network_width T) (hr.2.mono (by decide)) T.B_Network_width (es 0)) (cl_cons (en 1) cl_nil)) ⟨fun _ => rfl, ⟨fun _ => rfl, trivial⟩⟩)))
    (gbs_cons (gb_plain fun A s0 (hr : RoomG 4 _) => (cs_set 2 sc_trace.nd (ce_callTy call_list_of (by rfl) T.z_list bt_list os_list (.cons (es 1) .nil) (hst := ⟨fun _ => rfl, trivial⟩))))
    (gbs_cons (gb_yield fun A s0 (hr : RoomG 4 _) => (ce_fz (ce_callTy call_list_of (by rfl) T.z_list bt_list os_list (.cons (es 2) .nil) (hst := ⟨fun _ => rfl, trivial⟩))))
    (gbs_one (gb_for (fun A s0 (hr : RoomG 4 _) => ⟨_, (ci_tup (pi_tup (we_pe _ _)) (ce_prop (C := 0) (k := 1) T.cl_Network T.pr_Network_steps (ok_Network_steps T) (hr.2.mono (by decide)) T.B_Network_steps (es 0)))⟩) (fun A s0 (hr : RoomG 4 _) => by exact (gn 3 sc_trace.nd)) (gbs_cons (gb_plain fun A s0 (hr : RoomG 4 _) => (cs_expr (ce_callLG _ _ _ (ok_step_on T) (hr.mono (by decide)) (by rfl) T.g_step_on T.F_step_on.kp cl_nil (pv 2) (cl_cons (en 3) cl_nil) rfl ⟨fun _ => rfl, ⟨fun _ => rfl, trivial⟩⟩)))
    (gbs_one (gb_yield fun A s0 (hr : RoomG 4 _) => (ce_fz (ce_callTy call_list_of (by rfl) T.z_list bt_list os_list (.cons (es 2) .nil) (hst := ⟨fun _ => rfl, trivial⟩)))))))))))
theorem okx_trace (T : Tx K mg) : GnX T.ca P w K mg base 6 T.f_trace mx_trace := gnx_ok T.F_trace T.B_trace sc_trace rfl rfl T.nst_InvalidValues fun A outer s H E pn cdv (hr : RoomG 4 _) =>
  show CS _ _ _ _ b1_trace from (cs_expr (ce_callR (ok_check_values T) (hr.mono (by decide)) (by rfl) T.g_check_values T.F_check_values.kp (cl_cons (ce_prop (C := 0) (k := 1) T.cl_Network T.pr_Network_width (ok_Network_width T) (hr.2.mono (by decide)) T.B_Network_width (es 0)) (cl_cons (en 1) cl_nil)) ⟨fun _ => rfl, ⟨fun _ => rfl, trivial⟩⟩))
theorem ok_result_of (T : Tx K mg) : FnG P w K mg base (L2.CX P w) 2 T.f_result_of (spM T.ca K m_result_of) := fn_okG (N := ["steps", "values", "result", "step"]) (n := 2) (L := [0, 1]) (mb := b_result_of) T.F_result_of T.B_result_of sc_result_of rfl fun cdv A outer s H E hr =>
  show CSs _ _ _ _ b_result_of from (css_cons (cs_set 2 sc_result_of.nd (ce_callTy call_list_of (by rfl) T.z_list bt_list os_list (.cons (es 1) .nil) (hst := ⟨fun _ => rfl, trivial⟩)))
    (css_cons (cs_for (ci_tup (pi_tup (we_pe _ _)) (en 0)) (gn 3 sc_result_of.nd) (css_one (cs_expr (ce_callLG _ _ _ (ok_step_on T) (hr.mono (by decide)) (by rfl) T.g_step_on T.F_step_on.kp cl_nil (pv 2) (cl_cons (en 3) cl_nil) rfl ⟨fun _ => rfl, ⟨fun _ => rfl, trivial⟩⟩))) (passes_of rfl) rfl)
    (css_one (cs_ret (emv 2)))))
theorem ok_run (T : Tx K mg) : FnG P w K mg base (L2.CX P w) 5 T.f_run (spM T.ca K m_run) := fn_okG (N := ["network", "values"]) (n := 2) (L := [0, 1]) (mb := b_run) T.F_run T.B_run sc_run rfl fun cdv A outer s H E hr =>
  show CSs _ _ _ _ b_run from (css_cons (cs_expr (ce_callR (ok_check_values T) (hr.mono (by decide)) (by rfl) T.g_check_values T.F_check_values.kp (cl_cons (ce_prop (C := 0) (k := 1) T.cl_Network T.pr_Network_width (ok_Network_width T) (hr.2.mono (by decide)) T.B_Network_width (es 0)) (cl_cons (en 1) cl_nil)) ⟨fun _ => rfl, ⟨fun _ => rfl, trivial⟩⟩))
    (css_one (cs_ret (ce_callR (ok_result_of T) (hr.mono (by decide)) (by rfl) T.g_result_of T.F_result_of.kp (cl_cons (ce_prop (C := 0) (k := 1) T.cl_Network T.pr_Network_steps (ok_Network_steps T) (hr.2.mono (by decide)) T.B_Network_steps (es 0)) (cl_cons (en 1) cl_nil)) ⟨fun _ => rfl, ⟨fun _ => rfl, trivial⟩⟩))))
theorem ok_exchanges (T : Tx K mg) : FnG P w K mg base (L2.CX P w) 5 T.f_exchanges (spM T.ca K m_exchanges) := fn_okG (N := ["network", "values", "current", "result", "index", "step"]) (n := 2) (L := [0, 1]) (mb := b_exchanges) T.F_exchanges T.B_exchanges sc_exchanges rfl fun cdv A outer s H E hr =>
  show CSs _ _ _ _ b_exchanges from (css_cons (cs_expr (ce_callR (ok_check_values T) (hr.mono (by decide)) (by rfl) T.g_check_values T.F_check_values.kp (cl_cons (ce_prop (C := 0) (k := 1) T.cl_Network T.pr_Network_width (ok_Network_width T) (hr.2.mono (by decide)) T.B_Network_width (es 0)) (cl_cons (en 1) cl_nil)) ⟨fun _ => rfl, ⟨fun _ => rfl, trivial⟩⟩))
    (css_cons (cs_set 2 sc_exchanges.nd (ce_callTy call_list_of (by rfl) T.z_list bt_list os_list (.cons (es 1) .nil) (hst := ⟨fun _ => rfl, trivial⟩)))
    (css_cons (cs_set 3 sc_exchanges.nd (ce_lst cl_nil trivial))
    (css_cons (cs_for (ci_enumT (by rfl) T.z_enumerate (ce_prop (C := 0) (k := 1) T.cl_Network T.pr_Network_steps (ok_Network_steps T) (hr.2.mono (by decide)) T.B_Network_steps (es 0))) (cg_tup rfl (cgs_cons (gn 4 sc_exchanges.nd) (cgs_cons (gn 5 sc_exchanges.nd) cgs_nil (by rfl)) (by rfl)) rfl) (css_one (cs_if (ct_val (ce_callLG _ _ _ (ok_step_on T) (hr.mono (by decide)) (by rfl) T.g_step_on T.F_step_on.kp cl_nil (pv 2) (cl_cons (en 5) cl_nil) rfl ⟨fun _ => rfl, ⟨fun _ => rfl, trivial⟩⟩)) (css_one (cs_expr (ce_app (pv 3) (en 4)))) css_nil)) (passes_of rfl) rfl)
    (css_one (cs_ret (emv 3)))))))
theorem ok_inversions (T : Tx K mg) : FnG P w K mg base (L2.CX P w) 4 T.f_inversions (spM T.ca K m_inversions) := fn_okG (N := ["values", "right", "left"]) (n := 1) (L := [0]) (mb := b_inversions) T.F_inversions T.B_inversions sc_inversions rfl fun cdv A outer s H E hr =>
  show CSs _ _ _ _ b_inversions from (css_cons (cs_if (ct_not (ct_val (ce_callB call_isi (by rfl) T.z_isinstance bt_isinstance (os_isiB (T := "list")) (.cons (es 0) (.cons (co_v (ce_ty (by rfl) T.z_list bt_list)) .nil)) (hst := ⟨fun _ => rfl, ⟨fun _ => rfl, trivial⟩⟩)))) (css_one (cs_raise (C := 103) (fs := ["index"]) rfl T.ox_InvalidValues T.iC_InvalidValues T.tI_InvalidValues (ini_InvalidValues T) (hr.2.mono (by decide)) T.B_InvalidValues___init__ (by rfl) T.g_InvalidValues (by decide) (cl_cons ce_non cl_nil) ⟨fun _ => rfl, trivial⟩)) css_nil)
    (css_cons (cs_expr (ce_callR (ok_check_integers T) (hr.mono (by decide)) (by rfl) T.g_check_integers T.F_check_integers.kp (cl_cons (en 0) cl_nil) ⟨fun _ => rfl, trivial⟩))
    (css_one (cs_ret (ce_callB (cr_sum rfl) (by rfl) T.z_sum bt_sum os_sum (.cons (co_v (ce_lc2If (own := [("right", 1), ("left", 2)]) (wi1 := fun X => iRng1 (Wa X _)) [2] rfl sc_inversions.nd (ci_range1 (by rfl) T.z_range (ce_callB call_len_seq (by rfl) T.z_len bt_len os_len (.cons (es 0) .nil) (hst := ⟨fun _ => rfl, trivial⟩))) (blk_of rfl (by kernel_rfl)) (by decide) (fun _ _ _ _ _ _ => (gb 1 sc_inversions.nd)) (fun _ _ _ _ _ => (ci_range1 (by rfl) T.z_range (en 1))) (fun _ _ _ _ _ _ => (gb 2 sc_inversions.nd)) (fun _ _ _ _ _ => (ct_cmp (ce_cmp op_gt os_gt (co_v (ce_ix ix_A os_ix (es 0) (es 2) (fun _ _ => rfl))) (co_v (ce_ix ix_A os_ix (es 0) (es 1) (fun _ _ => rfl))) (nomark _)))) (fun _ _ _ _ _ => ce_int))) .nil) (hst := ⟨fun _ => rfl, trivial⟩))))))
theorem ok__law_outcome (T : Tx K mg) : FnG P w K mg base (L2.CX P w) 7 T.f__law_outcome (spM T.ca K m__law_outcome) := fn_okG (N := ["_law_choice", "_law_network", "_law_values_here", "e", "_law_row"]) (n := 3) (L := [0, 1, 2]) (mb := b__law_outcome) T.F__law_outcome T.B__law_outcome sc__law_outcome rfl fun cdv A outer s H E hr =>
  show CSs _ _ _ _ b__law_outcome from (css_one (cs_try rfl rfl sc__law_outcome.nd (fun _ _ _ => show CSs _ _ _ _ tb2__law_outcome from (css_cons (cs_if (ct_cmp (ce_cmp (op_eqD hr.2.units) os_eq (es 0) (co_v ce_int) (nomark _))) (css_one (cs_expr (ce_callR (ok_run T) (hr.mono (by decide)) (by rfl) T.g_run T.F_run.kp (cl_cons (en 1) (cl_cons (en 2) cl_nil)) ⟨fun _ => rfl, ⟨fun _ => rfl, trivial⟩⟩))) (css_one (cs_if (ct_cmp (ce_cmp (op_eqD hr.2.units) os_eq (es 0) (co_v ce_int) (nomark _))) (css_one (cs_expr (ce_callR (ok_exchanges T) (hr.mono (by decide)) (by rfl) T.g_exchanges T.F_exchanges.kp (cl_cons (en 1) (cl_cons (en 2) cl_nil)) ⟨fun _ => rfl, ⟨fun _ => rfl, trivial⟩⟩))) (css_one (cs_if (ct_cmp (ce_cmp (op_eqD hr.2.units) os_eq (es 0) (co_v ce_int) (nomark _))) (css_one (cs_exprLcGX (own := [("_law_row", 4)]) (by rfl) (by rfl) rfl rfl rfl sc__law_outcome.nd (cwk_gen (cgn_srcX (mx := mx_trace) (cgn_call (ok_trace T) (hr.mono (by decide)) (by rfl) T.g_trace T.F_trace.kp (cl_cons (en 1) (cl_cons (en 2) cl_nil)) ⟨fun _ => rfl, ⟨fun _ => rfl, trivial⟩⟩))) (cgnx_call (m := m_trace) (okx_trace T) (hr.mono (by decide)) (by rfl) T.g_trace T.F_trace.kp (cl_cons (en 1) (cl_cons (en 2) cl_nil)) ⟨fun _ => rfl, ⟨fun _ => rfl, trivial⟩⟩) (blk_of rfl (by kernel_rfl)) (hr.mono (by decide)) (fun _ _ _ _ _ _ => (gb 4 sc__law_outcome.nd)) (fun _ _ _ _ _ => testsH_nil) (fun _ _ _ _ _ => (en 4)))) (css_one (cs_expr (ce_callR (ok_inversions T) (hr.mono (by decide)) (by rfl) T.g_inversions T.F_inversions.kp (cl_cons (en 2) cl_nil) ⟨fun _ => rfl, trivial⟩))))))))
    (css_one (cs_ret (ce_lst (cl_cons ce_str (cl_cons ce_non cl_nil)) ⟨fun _ => rfl, ⟨fun _ => rfl, trivial⟩⟩))))) (CHs.named ⟨by rfl, by decide, .inl T.g_InvalidValues⟩ (by rfl) (by rfl) (by decide) T.hxq_InvalidValues (fun _ _ => show CSs _ _ _ _ hs3__law_outcome from (css_one (cs_ret (ce_lst (cl_cons ce_str (cl_cons (ce_xf T.xf_index (es 3)) (cl_cons (ce_and (ce_callB call_isX (by rfl) T.z_isinstance bt_isinstance (os_isiX T.xi_NetworkError) (.cons (es 3) (.cons (co_v (ce_cls (C := 100) (by rfl) T.g_NetworkError)) .nil)) (hst := ⟨fun _ => rfl, ⟨fun _ => rfl, trivial⟩⟩)) (ce_not (ce_callB call_isX (by rfl) T.z_isinstance bt_isinstance (os_isiX T.xi_InvalidStep) (.cons (es 3) (.cons (co_v (ce_cls (C := 102) (by rfl) T.g_InvalidStep)) .nil)) (hst := ⟨fun _ => rfl, ⟨fun _ => rfl, trivial⟩⟩)))) cl_nil))) ⟨fun _ => rfl, ⟨fun _ => rfl, ⟨fun _ => rfl, trivial⟩⟩⟩)))) CHs.nil)))
theorem ok__law_expected (T : Tx K mg) : FnG P w K mg base (L2.CX P w) 1 T.f__law_expected (spM T.ca K m__law_expected) := fn_okG (N := ["_law_choice", "_law_width", "_law_values_here", "_law_index", "_law_value"]) (n := 3) (L := [0, 1, 2]) (mb := b__law_expected) T.F__law_expected T.B__law_expected sc__law_expected rfl fun cdv A outer s H E hr =>
  show CSs _ _ _ _ b__law_expected from (css_cons (cs_if (ct_w (cw_or (ct_not (ct_val (ce_callB call_isi (by rfl) T.z_isinstance bt_isinstance (os_isiB (T := "list")) (.cons (es 2) (.cons (co_v (ce_ty (by rfl) T.z_list bt_list)) .nil)) (hst := ⟨fun _ => rfl, ⟨fun _ => rfl, trivial⟩⟩)))) (cw_or1 (ct_w (cw_and (ct_cmp (ce_cmp op_lt os_lt (es 0) (co_v ce_int) (nomark _))) (cw_and1 (ct_cmp (ce_cmp (op_neD hr.2.units) os_ne (co_v (ce_callB call_len_seq (by rfl) T.z_len bt_len os_len (.cons (es 2) .nil) (hst := ⟨fun _ => rfl, trivial⟩))) (es 1) (nomark _))))))))) (css_one (cs_ret (ce_lst (cl_cons ce_str (cl_cons ce_non (cl_cons ce_bl cl_nil))) ⟨fun _ => rfl, ⟨fun _ => rfl, ⟨fun _ => rfl, trivial⟩⟩⟩))) css_nil)
    (css_cons (cs_for (ci_enum (by rfl) T.z_enumerate (en 2)) (cg_tup rfl (cgs_cons (gn 3 sc__law_expected.nd) (cgs_cons (gn 4 sc__law_expected.nd) cgs_nil (by rfl)) (by rfl)) rfl) (css_one (cs_if (ct_w (cw_or (ct_not (ct_val (ce_callB call_isi (by rfl) T.z_isinstance bt_isinstance (os_isiB (T := "int")) (.cons (es 4) (.cons (co_v (ce_ty (by rfl) T.z_int bt_int)) .nil)) (hst := ⟨fun _ => rfl, ⟨fun _ => rfl, trivial⟩⟩)))) (cw_or1 (ct_val (ce_callB call_isi (by rfl) T.z_isinstance bt_isinstance (os_isiB (T := "bool")) (.cons (es 4) (.cons (co_v (ce_ty (by rfl) T.z_bool bt_bool)) .nil)) (hst := ⟨fun _ => rfl, ⟨fun _ => rfl, trivial⟩⟩)))))) (css_one (cs_ret (ce_lst (cl_cons ce_str (cl_cons (en 3) (cl_cons ce_bl cl_nil))) ⟨fun _ => rfl, ⟨fun _ => rfl, ⟨fun _ => rfl, trivial⟩⟩⟩))) css_nil)) (passes_of rfl) rfl)
    (css_one (cs_ret (ce_lst (cl_cons ce_str (cl_cons ce_non cl_nil)) ⟨fun _ => rfl, ⟨fun _ => rfl, trivial⟩⟩)))))
theorem os1_law (T : Tx K mg) {cdv : Value} {A : Around} {outer : List Env} {s : Shared} {H : Hp} {E : XK} (hr : RoomG 7 (A.deeper (envOfC "law" (defScope s_law) s.heap.objs.size T.f_law cdv))) : CS T.ca (cxOf (L2.CX P w) P w K mg base ["_law_script", "_law_k", "_law_source_here", "_law_width", "_law_network", "_law_good", "_law_at", "_law_some", "_law_invalid", "_law_values_here", "_law_choice", "_law_pair"] "law" (defScope s_law) T.f_law cdv A outer s H E) [0] (nthS (forB (nthS (defBody s_law) 0)) 0) st1_law :=
  (cs_set 2 sc_law.nd (ce_callR (ok__law_source T) (hr.mono (by decide)) (by rfl) T.g__law_source T.F__law_source.kp (cl_cons (en 0) (cl_cons (en 1) cl_nil)) ⟨fun _ => rfl, ⟨fun _ => rfl, trivial⟩⟩))
theorem os2_law (T : Tx K mg) {cdv : Value} {A : Around} {outer : List Env} {s : Shared} {H : Hp} {E : XK} (hr : RoomG 7 (A.deeper (envOfC "law" (defScope s_law) s.heap.objs.size T.f_law cdv))) : CS T.ca (cxOf (L2.CX P w) P w K mg base ["_law_script", "_law_k", "_law_source_here", "_law_width", "_law_network", "_law_good", "_law_at", "_law_some", "_law_invalid", "_law_values_here", "_law_choice", "_law_pair"] "law" (defScope s_law) T.f_law cdv A outer s H E) [0] (nthS (forB (nthS (defBody s_law) 0)) 1) st2_law :=
  (cs_set 3 sc_law.nd (ce_bin op_addA os_add (co_v ce_int) (co_v (ce_callLG _ _ _ (ok__law_draw T) (hr.mono (by decide)) (by rfl) T.g__law_draw T.F__law_draw.kp cl_nil (pv 2) (cl_cons ce_int cl_nil) rfl ⟨fun _ => rfl, ⟨fun _ => rfl, trivial⟩⟩))))
theorem os3_law (T : Tx K mg) {cdv : Value} {A : Around} {outer : List Env} {s : Shared} {H : Hp} {E : XK} (hr : RoomG 7 (A.deeper (envOfC "law" (defScope s_law) s.heap.objs.size T.f_law cdv))) : CS T.ca (cxOf (L2.CX P w) P w K mg base ["_law_script", "_law_k", "_law_source_here", "_law_width", "_law_network", "_law_good", "_law_at", "_law_some", "_law_invalid", "_law_values_here", "_law_choice", "_law_pair"] "law" (defScope s_law) T.f_law cdv A outer s H E) [0] (nthS (forB (nthS (defBody s_law) 0)) 2) st3_law :=
  (cs_set 4 sc_law.nd (ce_makeG (C := 0) T.mk_Network (ok_Network___init__ T) (hr.mono (by decide)) (by rfl) T.g_Network (cl_cons (en 3) (cl_cons (ce_callLG _ _ _ (ok__law_steps T) (hr.mono (by decide)) (by rfl) T.g__law_steps T.F__law_steps.kp cl_nil (pv 2) (cl_cons (en 3) (cl_cons (ce_callLG _ _ _ (ok__law_draw T) (hr.mono (by decide)) (by rfl) T.g__law_draw T.F__law_draw.kp cl_nil (pv 2) (cl_cons ce_int cl_nil) rfl ⟨fun _ => rfl, ⟨fun _ => rfl, trivial⟩⟩) cl_nil)) rfl ⟨fun _ => rfl, ⟨fun _ => rfl, ⟨fun _ => rfl, trivial⟩⟩⟩) cl_nil)) ⟨fun _ => rfl, ⟨fun _ => rfl, trivial⟩⟩))
theorem os4_law (T : Tx K mg) {cdv : Value} {A : Around} {outer : List Env} {s : Shared} {H : Hp} {E : XK} (hr : RoomG 7 (A.deeper (envOfC "law" (defScope s_law) s.heap.objs.size T.f_law cdv))) : CS T.ca (cxOf (L2.CX P w) P w K mg base ["_law_script", "_law_k", "_law_source_here", "_law_width", "_law_network", "_law_good", "_law_at", "_law_some", "_law_invalid", "_law_values_here", "_law_choice", "_law_pair"] "law" (defScope s_law) T.f_law cdv A outer s H E) [0] (nthS (forB (nthS (defBody s_law) 0)) 3) st4_law :=
  (cs_set 5 sc_law.nd (ce_fz (ce_callLG _ _ _ (ok__law_values T) (hr.mono (by decide)) (by rfl) T.g__law_values T.F__law_values.kp cl_nil (pv 2) (cl_cons (en 3) cl_nil) rfl ⟨fun _ => rfl, ⟨fun _ => rfl, trivial⟩⟩)))
theorem os5_law (T : Tx K mg) {cdv : Value} {A : Around} {outer : List Env} {s : Shared} {H : Hp} {E : XK} (hr : RoomG 7 (A.deeper (envOfC "law" (defScope s_law) s.heap.objs.size T.f_law cdv))) : CS T.ca (cxOf (L2.CX P w) P w K mg base ["_law_script", "_law_k", "_law_source_here", "_law_width", "_law_network", "_law_good", "_law_at", "_law_some", "_law_invalid", "_law_values_here", "_law_choice", "_law_pair"] "law" (defScope s_law) T.f_law cdv A outer s H E) [0] (nthS (forB (nthS (defBody s_law) 0)) 4) st5_law :=
  (cs_set 6 sc_law.nd (ce_callLG _ _ _ (ok__law_draw T) (hr.mono (by decide)) (by rfl) T.g__law_draw T.F__law_draw.kp cl_nil (pv 2) (cl_cons (en 3) cl_nil) rfl ⟨fun _ => rfl, ⟨fun _ => rfl, trivial⟩⟩))
theorem os6_law (T : Tx K mg) {cdv : Value} {A : Around} {outer : List Env} {s : Shared} {H : Hp} {E : XK} (hr : RoomG 7 (A.deeper (envOfC "law" (defScope s_law) s.heap.objs.size T.f_law cdv))) : CS T.ca (cxOf (L2.CX P w) P w K mg base ["_law_script", "_law_k", "_law_source_here", "_law_width", "_law_network", "_law_good", "_law_at", "_law_some", "_law_invalid", "_law_values_here", "_law_choice", "_law_pair"] "law" (defScope s_law) T.f_law cdv A outer s H E) [0] (nthS (forB (nthS (defBody s_law) 0)) 5) st6_law :=
  (cs_set 7 sc_law.nd (ce_lst (cl_cons (en 5) (cl_cons (ce_fz (ce_bin op_addA os_add (es 5) (co_v (ce_lst (cl_cons ce_int cl_nil) ⟨fun _ => rfl, trivial⟩)))) (cl_cons (ce_fz (ce_s10 (es 5) (co_v ce_int))) (cl_cons (ce_fz (ce_lst cl_nil trivial)) (cl_cons ce_non (cl_cons (ce_callTy call_tuple_of (by rfl) T.z_tuple bt_tuple os_tuple (.cons (es 5) .nil) (hst := ⟨fun _ => rfl, trivial⟩)) (cl_cons ce_str (cl_cons (ce_fz ce_dn) (cl_cons ce_int cl_nil))))))))) ⟨fun _ => rfl, ⟨fun _ => rfl, ⟨fun _ => rfl, ⟨fun _ => rfl, ⟨fun _ => rfl, ⟨fun _ => rfl, ⟨fun _ => rfl, ⟨fun _ => rfl, ⟨fun _ => rfl, trivial⟩⟩⟩⟩⟩⟩⟩⟩⟩))
theorem os7_law (T : Tx K mg) {cdv : Value} {A : Around} {outer : List Env} {s : Shared} {H : Hp} {E : XK} (hr : RoomG 7 (A.deeper (envOfC "law" (defScope s_law) s.heap.objs.size T.f_law cdv))) : CS T.ca (cxOf (L2.CX P w) P w K mg base ["_law_script", "_law_k", "_law_source_here", "_law_width", "_law_network", "_law_good", "_law_at", "_law_some", "_law_invalid", "_law_values_here", "_law_choice", "_law_pair"] "law" (defScope s_law) T.f_law cdv A outer s H E) [0] (nthS (forB (nthS (forB (nthS (defBody s_law) 0)) 6)) 0) st7_law :=
  (cs_set 7 sc_law.nd (ce_bin op_addA os_add (es 7) (co_v (ce_fz (ce_lst (cl_cons (ce_fz (ce_bin op_addA os_add (co_v (ce_bin op_addA os_add (co_v (ce_s01 (es 5) (es 6))) (co_v (ce_lst (cl_cons (en 8) cl_nil) ⟨fun _ => rfl, trivial⟩)))) (co_v (ce_s10 (es 5) (co_v (ce_bin op_addA os_add (es 6) (co_v ce_int))))))) (cl_cons (ce_fz (ce_bin op_addA os_add (co_v (ce_s01 (es 5) (es 6))) (co_v (ce_bin op_mulA os_mul (co_v (ce_lst (cl_cons (en 8) cl_nil) ⟨fun _ => rfl, trivial⟩)) (co_v (ce_bin op_sub os_sub (es 3) (es 6))))))) cl_nil)) ⟨fun _ => rfl, ⟨fun _ => rfl, trivial⟩⟩)))))
theorem os8_law (T : Tx K mg) {cdv : Value} {A : Around} {outer : List Env} {s : Shared} {H : Hp} {E : XK} (hr : RoomG 7 (A.deeper (envOfC "law" (defScope s_law) s.heap.objs.size T.f_law cdv))) : CS T.ca (cxOf (L2.CX P w) P w K mg base ["_law_script", "_law_k", "_law_source_here", "_law_width", "_law_network", "_law_good", "_law_at", "_law_some", "_law_invalid", "_law_values_here", "_law_choice", "_law_pair"] "law" (defScope s_law) T.f_law cdv A outer s H E) [0] (nthS (forB (nthS (forB (nthS (defBody s_law) 0)) 6)) 1) st8_law :=
  (cs_expr (ce_app (pv 7) (ce_fz (ce_bin op_addA os_add (es 5) (co_v (ce_lst (cl_cons (en 8) cl_nil) ⟨fun _ => rfl, trivial⟩))))))
theorem os10_law (T : Tx K mg) {cdv : Value} {A : Around} {outer : List Env} {s : Shared} {H : Hp} {E : XK} (hr : RoomG 7 (A.deeper (envOfC "law" (defScope s_law) s.heap.objs.size T.f_law cdv))) : CS T.ca (cxOf (L2.CX P w) P w K mg base ["_law_script", "_law_k", "_law_source_here", "_law_width", "_law_network", "_law_good", "_law_at", "_law_some", "_law_invalid", "_law_values_here", "_law_choice", "_law_pair"] "law" (defScope s_law) T.f_law cdv A outer s H E) [0] (nthS (forB (nthS (defBody s_law) 0)) 6) (sFor (iE (eLst (aCons (eC .non) (aCons (eC (.bl true)) (aCons (eC (.str "1")) (aCons (eFz (eFz (eLst (aCons (eC (.int 1)) aNil)))) (aCons (eFz (eTup (aCons (eC (.int 1)) aNil))) (aCons (eFz (eFz eDn)) aNil))))))) lstItems) fg9_law fb9_law) :=
  (cs_for (ci_list (pi_list (we_pe _ _)) (ce_lst (cl_cons ce_non (cl_cons ce_bl (cl_cons ce_str (cl_cons (ce_fz (ce_fz (ce_lst (cl_cons ce_int cl_nil) ⟨fun _ => rfl, trivial⟩))) (cl_cons (ce_fz (ce_tup (cl_cons ce_int cl_nil) ⟨fun _ => rfl, trivial⟩)) (cl_cons (ce_fz (ce_fz ce_dn)) cl_nil)))))) ⟨fun _ => rfl, ⟨fun _ => rfl, ⟨fun _ => rfl, ⟨fun _ => rfl, ⟨fun _ => rfl, ⟨fun _ => rfl, trivial⟩⟩⟩⟩⟩⟩)) (gn 8 sc_law.nd) (css_cons (os7_law T hr)
    (css_one (os8_law T hr))) (passes_of rfl) rfl)
theorem os12_law (T : Tx K mg) {cdv : Value} {A : Around} {outer : List Env} {s : Shared} {H : Hp} {E : XK} (hr : RoomG 7 (A.deeper (envOfC "law" (defScope s_law) s.heap.objs.size T.f_law cdv))) : CS T.ca (cxOf (L2.CX P w) P w K mg base ["_law_script", "_law_k", "_law_source_here", "_law_width", "_law_network", "_law_good", "_law_at", "_law_some", "_law_invalid", "_law_values_here", "_law_choice", "_law_pair"] "law" (defScope s_law) T.f_law cdv A outer s H E) [0] (nthS (ifB (nthS (forB (nthS (defBody s_law) 0)) 7)) 0) st12_law :=
  (cs_ret ce_bl)
theorem os13_law (T : Tx K mg) {cdv : Value} {A : Around} {outer : List Env} {s : Shared} {H : Hp} {E : XK} (hr : RoomG 7 (A.deeper (envOfC "law" (defScope s_law) s.heap.objs.size T.f_law cdv))) : CS T.ca (cxOf (L2.CX P w) P w K mg base ["_law_script", "_law_k", "_law_source_here", "_law_width", "_law_network", "_law_good", "_law_at", "_law_some", "_law_invalid", "_law_values_here", "_law_choice", "_law_pair"] "law" (defScope s_law) T.f_law cdv A outer s H E) [0] (nthS (forB (nthS (defBody s_law) 0)) 7) st13_law :=
  (cs_if (ct_cmp (ce_cmp (op_neD hr.2.units) os_ne (co_v (ce_lcG (own := [("_law_pair", 11)]) rfl sc_law.nd (cwk_zip0 (by rfl) T.z_zip (cgnx_call (m := m_trace) (okx_trace T) (hr.mono (by decide)) (by rfl) T.g_trace T.F_trace.kp (cl_cons (en 4) (cl_cons ce_non cl_nil)) ⟨fun _ => rfl, ⟨fun _ => rfl, trivial⟩⟩)) (blk_of rfl (by kernel_rfl)) (hr.mono (by decide)) (fun _ _ _ _ _ _ => (gb 11 sc_law.nd)) (fun _ _ _ _ _ => testsH_nil) (fun _ _ _ _ _ => (en 11)))) (co_v (ce_fz (ce_lst cl_nil trivial))) (nomark _))) (css_one (os12_law T hr)) css_nil)
theorem os14_law (T : Tx K mg) {cdv : Value} {A : Around} {outer : List Env} {s : Shared} {H : Hp} {E : XK} (hr : RoomG 7 (A.deeper (envOfC "law" (defScope s_law) s.heap.objs.size T.f_law cdv))) : CS T.ca (cxOf (L2.CX P w) P w K mg base ["_law_script", "_law_k", "_law_source_here", "_law_width", "_law_network", "_law_good", "_law_at", "_law_some", "_law_invalid", "_law_values_here", "_law_choice", "_law_pair"] "law" (defScope s_law) T.f_law cdv A outer s H E) [0] (nthS (ifB (nthS (forB (nthS (forB (nthS (forB (nthS (defBody s_law) 0)) 8)) 0)) 0)) 0) st14_law :=
  (cs_ret ce_bl)
theorem os15_law (T : Tx K mg) {cdv : Value} {A : Around} {outer : List Env} {s : Shared} {H : Hp} {E : XK} (hr : RoomG 7 (A.deeper (envOfC "law" (defScope s_law) s.heap.objs.size T.f_law cdv))) : CS T.ca (cxOf (L2.CX P w) P w K mg base ["_law_script", "_law_k", "_law_source_here", "_law_width", "_law_network", "_law_good", "_law_at", "_law_some", "_law_invalid", "_law_values_here", "_law_choice", "_law_pair"] "law" (defScope s_law) T.f_law cdv A outer s H E) [0] (nthS (forB (nthS (forB (nthS (forB (nthS (defBody s_law) 0)) 8)) 0)) 0) st15_law :=
  (cs_if (ct_cmp (ce_cmp (op_neD hr.2.units) os_ne (co_v (ce_callR (ok__law_outcome T) (hr.mono (by decide)) (by rfl) T.g__law_outcome T.F__law_outcome.kp (cl_cons (en 10) (cl_cons (en 4) (cl_cons (en 9) cl_nil))) ⟨fun _ => rfl, ⟨fun _ => rfl, ⟨fun _ => rfl, trivial⟩⟩⟩)) (co_v (ce_callR (ok__law_expected T) (hr.mono (by decide)) (by rfl) T.g__law_expected T.F__law_expected.kp (cl_cons (en 10) (cl_cons (en 3) (cl_cons (en 9) cl_nil))) ⟨fun _ => rfl, ⟨fun _ => rfl, ⟨fun _ => rfl, trivial⟩⟩⟩)) (nomark _))) (css_one (os14_law T hr)) css_nil)
theorem os17_law (T : Tx K mg) {cdv : Value} {A : Around} {outer : List Env} {s : Shared} {H : Hp} {E : XK} (hr : RoomG 7 (A.deeper (envOfC "law" (defScope s_law) s.heap.objs.size T.f_law cdv))) : CS T.ca (cxOf (L2.CX P w) P w K mg base ["_law_script", "_law_k", "_law_source_here", "_law_width", "_law_network", "_law_good", "_law_at", "_law_some", "_law_invalid", "_law_values_here", "_law_choice", "_law_pair"] "law" (defScope s_law) T.f_law cdv A outer s H E) [0] (nthS (forB (nthS (forB (nthS (defBody s_law) 0)) 8)) 0) (sFor (iR1 (eC (.int 4))) fg16_law fb16_law) :=
  (cs_for (ci_range1 (by rfl) T.z_range ce_int) (gn 10 sc_law.nd) (css_one (os15_law T hr)) (passes_of rfl) rfl)
theorem os19_law (T : Tx K mg) {cdv : Value} {A : Around} {outer : List Env} {s : Shared} {H : Hp} {E : XK} (hr : RoomG 7 (A.deeper (envOfC "law" (defScope s_law) s.heap.objs.size T.f_law cdv))) : CS T.ca (cxOf (L2.CX P w) P w K mg base ["_law_script", "_law_k", "_law_source_here", "_law_width", "_law_network", "_law_good", "_law_at", "_law_some", "_law_invalid", "_law_values_here", "_law_choice", "_law_pair"] "law" (defScope s_law) T.f_law cdv A outer s H E) [0] (nthS (forB (nthS (defBody s_law) 0)) 8) (sFor (iE (eN 7) lstItems) fg18_law fb18_law) :=
  (cs_for (ci_list (pi_list (we_pe _ _)) (en 7)) (gn 9 sc_law.nd) (css_one (os17_law T hr)) (passes_of rfl) rfl)
theorem os21_law (T : Tx K mg) {cdv : Value} {A : Around} {outer : List Env} {s : Shared} {H : Hp} {E : XK} (hr : RoomG 7 (A.deeper (envOfC "law" (defScope s_law) s.heap.objs.size T.f_law cdv))) : CS T.ca (cxOf (L2.CX P w) P w K mg base ["_law_script", "_law_k", "_law_source_here", "_law_width", "_law_network", "_law_good", "_law_at", "_law_some", "_law_invalid", "_law_values_here", "_law_choice", "_law_pair"] "law" (defScope s_law) T.f_law cdv A outer s H E) [0] (nthS (defBody s_law) 0) (sFor (iR1 (eOp oMax2 [.v (eC (.int 1)), .v (eOp oMin2 [.v (eOp oLen [.s 0]), .v (eC (.int 8))])])) fg20_law fb20_law) :=
  (cs_for (ci_range1 (by rfl) T.z_range (ce_callB (call_max2 rfl) (by rfl) T.z_max bt_max os_max2 (.cons (co_v ce_int) (.cons (co_v (ce_callB (call_min2 rfl) (by rfl) T.z_min bt_min os_min2 (.cons (co_v (ce_callB call_len_seq (by rfl) T.z_len bt_len os_len (.cons (es 0) .nil) (hst := ⟨fun _ => rfl, trivial⟩))) (.cons (co_v ce_int) .nil)) (hst := ⟨fun _ => rfl, ⟨fun _ => rfl, trivial⟩⟩))) .nil)) (hst := ⟨fun _ => rfl, ⟨fun _ => rfl, trivial⟩⟩))) (gn 1 sc_law.nd) (css_cons (os1_law T hr)
    (css_cons (os2_law T hr)
    (css_cons (os3_law T hr)
    (css_cons (os4_law T hr)
    (css_cons (os5_law T hr)
    (css_cons (os6_law T hr)
    (css_cons (os10_law T hr)
    (css_cons (os13_law T hr)
    (css_one (os19_law T hr)))))))))) (passes_of rfl) rfl)
theorem os22_law (T : Tx K mg) {cdv : Value} {A : Around} {outer : List Env} {s : Shared} {H : Hp} {E : XK} (hr : RoomG 7 (A.deeper (envOfC "law" (defScope s_law) s.heap.objs.size T.f_law cdv))) : CS T.ca (cxOf (L2.CX P w) P w K mg base ["_law_script", "_law_k", "_law_source_here", "_law_width", "_law_network", "_law_good", "_law_at", "_law_some", "_law_invalid", "_law_values_here", "_law_choice", "_law_pair"] "law" (defScope s_law) T.f_law cdv A outer s H E) [0] (nthS (defBody s_law) 1) st22_law :=
  (cs_ret ce_bl)
theorem ok_law (T : Tx K mg) : FnG P w K mg base (L2.CX P w) 8 T.f_law (spM T.ca K m_law) := fn_okG (N := ["_law_script", "_law_k", "_law_source_here", "_law_width", "_law_network", "_law_good", "_law_at", "_law_some", "_law_invalid", "_law_values_here", "_law_choice", "_law_pair"]) (n := 1) (L := [0]) (mb := b_law) T.F_law T.B_law sc_law rfl fun cdv A outer s H E hr =>
  show CSs _ _ _ _ b_law from (css_cons (os21_law T hr)
    (css_one (os22_law T hr)))
end
theorem all_mk {l : PySem.W.OpenLaw} {w : World} {K : PySem.W.Frag} {h : Heap} {mg : Str → Option Value} {fa : Addr} (X : K.In h) (G : h.Ns mainGlobals mg) (hfa : mg "law" = some (.ref fa))
    {c_Network : Addr} (a_Network : PySem.W.nsIn K mainGlobals "Network" = some (some (.ref c_Network)))
    {f__law_source : Addr} (a__law_source : PySem.W.nsIn K mainGlobals "_law_source" = some (some (.ref f__law_source)))
    {od__law_source an__law_source : Option Addr} {sl__law_source : Array (Option Value)} {oc__law_source kV__law_source dc__law_source pm__law_source cd__law_source ct__law_source : Value}
    (l__law_source : K.lookup f__law_source = some ⟨oc__law_source, od__law_source, .func (PySem.W.fnOf "_law_source" "_law_source" (defArgs s__law_source) (defBody s__law_source) (defScope s__law_source) .none kV__law_source dc__law_source pm__law_source an__law_source cd__law_source ct__law_source), sl__law_source⟩) (q__law_source : PySem.W.codeIn K cd__law_source "_law_source" = true) (k__law_source : PySem.W.keepIn K (.ref f__law_source) = true)
    {f__law_draw : Addr} (a__law_draw : PySem.W.nsIn K mainGlobals "_law_draw" = some (some (.ref f__law_draw)))
    {od__law_draw an__law_draw : Option Addr} {sl__law_draw : Array (Option Value)} {oc__law_draw kV__law_draw dc__law_draw pm__law_draw cd__law_draw ct__law_draw : Value}
    (l__law_draw : K.lookup f__law_draw = some ⟨oc__law_draw, od__law_draw, .func (PySem.W.fnOf "_law_draw" "_law_draw" (defArgs s__law_draw) (defBody s__law_draw) (defScope s__law_draw) .none kV__law_draw dc__law_draw pm__law_draw an__law_draw cd__law_draw ct__law_draw), sl__law_draw⟩) (q__law_draw : PySem.W.codeIn K cd__law_draw "_law_draw" = true) (k__law_draw : PySem.W.keepIn K (.ref f__law_draw) = true)
    {f__law_steps : Addr} (a__law_steps : PySem.W.nsIn K mainGlobals "_law_steps" = some (some (.ref f__law_steps)))
    {od__law_steps an__law_steps : Option Addr} {sl__law_steps : Array (Option Value)} {oc__law_steps kV__law_steps dc__law_steps pm__law_steps cd__law_steps ct__law_steps : Value}
    (l__law_steps : K.lookup f__law_steps = some ⟨oc__law_steps, od__law_steps, .func (PySem.W.fnOf "_law_steps" "_law_steps" (defArgs s__law_steps) (defBody s__law_steps) (defScope s__law_steps) .none kV__law_steps dc__law_steps pm__law_steps an__law_steps cd__law_steps ct__law_steps), sl__law_steps⟩) (q__law_steps : PySem.W.codeIn K cd__law_steps "_law_steps" = true) (k__law_steps : PySem.W.keepIn K (.ref f__law_steps) = true)
    {f_is_integer : Addr} (a_is_integer : PySem.W.nsIn K mainGlobals "is_integer" = some (some (.ref f_is_integer)))
    {od_is_integer an_is_integer : Option Addr} {sl_is_integer : Array (Option Value)} {oc_is_integer kV_is_integer dc_is_integer pm_is_integer cd_is_integer ct_is_integer : Value}
    (l_is_integer : K.lookup f_is_integer = some ⟨oc_is_integer, od_is_integer, .func (PySem.W.fnOf "is_integer" "is_integer" (defArgs s_is_integer) (defBody s_is_integer) (defScope s_is_integer) .none kV_is_integer dc_is_integer pm_is_integer an_is_integer cd_is_integer ct_is_integer), sl_is_integer⟩) (q_is_integer : PySem.W.codeIn K cd_is_integer "is_integer" = true) (k_is_integer : PySem.W.keepIn K (.ref f_is_integer) = true)
    {f_check_width : Addr} (a_check_width : PySem.W.nsIn K mainGlobals "check_width" = some (some (.ref f_check_width)))
    {od_check_width an_check_width : Option Addr} {sl_check_width : Array (Option Value)} {oc_check_width kV_check_width dc_check_width pm_check_width cd_check_width ct_check_width : Value}
    (l_check_width : K.lookup f_check_width = some ⟨oc_check_width, od_check_width, .func (PySem.W.fnOf "check_width" "check_width" (defArgs s_check_width) (defBody s_check_width) (defScope s_check_width) .none kV_check_width dc_check_width pm_check_width an_check_width cd_check_width ct_check_width), sl_check_width⟩) (q_check_width : PySem.W.codeIn K cd_check_width "check_width" = true) (k_check_width : PySem.W.keepIn K (.ref f_check_width) = true)
    {f_check_steps : Addr} (a_check_steps : PySem.W.nsIn K mainGlobals "check_steps" = some (some (.ref f_check_steps)))
    {od_check_steps an_check_steps : Option Addr} {sl_check_steps : Array (Option Value)} {oc_check_steps kV_check_steps dc_check_steps pm_check_steps cd_check_steps ct_check_steps : Value}
    (l_check_steps : K.lookup f_check_steps = some ⟨oc_check_steps, od_check_steps, .func (PySem.W.fnOf "check_steps" "check_steps" (defArgs s_check_steps) (defBody s_check_steps) (defScope s_check_steps) .none kV_check_steps dc_check_steps pm_check_steps an_check_steps cd_check_steps ct_check_steps), sl_check_steps⟩) (q_check_steps : PySem.W.codeIn K cd_check_steps "check_steps" = true) (k_check_steps : PySem.W.keepIn K (.ref f_check_steps) = true)
    {f_Network___init__ : Addr} (a_Network___init__ : PySem.W.findIn K (.ref c_Network) "__init__" = some (some (.ref f_Network___init__))) (i_Network___init__ : PySem.W.isFn K (.ref f_Network___init__) = true)
    {od_Network___init__ an_Network___init__ : Option Addr} {sl_Network___init__ : Array (Option Value)} {kV_Network___init__ dc_Network___init__ pm_Network___init__ cd_Network___init__ ct_Network___init__ : Value}
    (l_Network___init__ : K.lookup f_Network___init__ = some ⟨(.type "function"), od_Network___init__, .func (PySem.W.fnOf "__init__" "Network.__init__" (defArgs s_Network___init__) (defBody s_Network___init__) (defScope s_Network___init__) .none kV_Network___init__ dc_Network___init__ pm_Network___init__ an_Network___init__ cd_Network___init__ ct_Network___init__), sl_Network___init__⟩) (q_Network___init__ : PySem.W.codeIn K cd_Network___init__ "Network.__init__" = true) (k_Network___init__ : PySem.W.keepIn K (.ref f_Network___init__) = true)
    {f__law_values : Addr} (a__law_values : PySem.W.nsIn K mainGlobals "_law_values" = some (some (.ref f__law_values)))
    {od__law_values an__law_values : Option Addr} {sl__law_values : Array (Option Value)} {oc__law_values kV__law_values dc__law_values pm__law_values cd__law_values ct__law_values : Value}
    (l__law_values : K.lookup f__law_values = some ⟨oc__law_values, od__law_values, .func (PySem.W.fnOf "_law_values" "_law_values" (defArgs s__law_values) (defBody s__law_values) (defScope s__law_values) .none kV__law_values dc__law_values pm__law_values an__law_values cd__law_values ct__law_values), sl__law_values⟩) (q__law_values : PySem.W.codeIn K cd__law_values "_law_values" = true) (k__law_values : PySem.W.keepIn K (.ref f__law_values) = true)
    {f_is_any_integer : Addr} (a_is_any_integer : PySem.W.nsIn K mainGlobals "is_any_integer" = some (some (.ref f_is_any_integer)))
    {od_is_any_integer an_is_any_integer : Option Addr} {sl_is_any_integer : Array (Option Value)} {oc_is_any_integer kV_is_any_integer dc_is_any_integer pm_is_any_integer cd_is_any_integer ct_is_any_integer : Value}
    (l_is_any_integer : K.lookup f_is_any_integer = some ⟨oc_is_any_integer, od_is_any_integer, .func (PySem.W.fnOf "is_any_integer" "is_any_integer" (defArgs s_is_any_integer) (defBody s_is_any_integer) (defScope s_is_any_integer) .none kV_is_any_integer dc_is_any_integer pm_is_any_integer an_is_any_integer cd_is_any_integer ct_is_any_integer), sl_is_any_integer⟩) (q_is_any_integer : PySem.W.codeIn K cd_is_any_integer "is_any_integer" = true) (k_is_any_integer : PySem.W.keepIn K (.ref f_is_any_integer) = true)
    {f_check_integers : Addr} (a_check_integers : PySem.W.nsIn K mainGlobals "check_integers" = some (some (.ref f_check_integers)))
    {od_check_integers an_check_integers : Option Addr} {sl_check_integers : Array (Option Value)} {oc_check_integers kV_check_integers dc_check_integers pm_check_integers cd_check_integers ct_check_integers : Value}
    (l_check_integers : K.lookup f_check_integers = some ⟨oc_check_integers, od_check_integers, .func (PySem.W.fnOf "check_integers" "check_integers" (defArgs s_check_integers) (defBody s_check_integers) (defScope s_check_integers) .none kV_check_integers dc_check_integers pm_check_integers an_check_integers cd_check_integers ct_check_integers), sl_check_integers⟩) (q_check_integers : PySem.W.codeIn K cd_check_integers "check_integers" = true) (k_check_integers : PySem.W.keepIn K (.ref f_check_integers) = true)
    {f_check_values : Addr} (a_check_values : PySem.W.nsIn K mainGlobals "check_values" = some (some (.ref f_check_values)))
    {od_check_values an_check_values : Option Addr} {sl_check_values : Array (Option Value)} {oc_check_values kV_check_values dc_check_values pm_check_values cd_check_values ct_check_values : Value}
    (l_check_values : K.lookup f_check_values = some ⟨oc_check_values, od_check_values, .func (PySem.W.fnOf "check_values" "check_values" (defArgs s_check_values) (defBody s_check_values) (defScope s_check_values) .none kV_check_values dc_check_values pm_check_values an_check_values cd_check_values ct_check_values), sl_check_values⟩) (q_check_values : PySem.W.codeIn K cd_check_values "check_values" = true) (k_check_values : PySem.W.keepIn K (.ref f_check_values) = true)
    {f_step_on : Addr} (a_step_on : PySem.W.nsIn K mainGlobals "step_on" = some (some (.ref f_step_on)))
    {od_step_on an_step_on : Option Addr} {sl_step_on : Array (Option Value)} {oc_step_on kV_step_on dc_step_on pm_step_on cd_step_on ct_step_on : Value}
    (l_step_on : K.lookup f_step_on = some ⟨oc_step_on, od_step_on, .func (PySem.W.fnOf "step_on" "step_on" (defArgs s_step_on) (defBody s_step_on) (defScope s_step_on) .none kV_step_on dc_step_on pm_step_on an_step_on cd_step_on ct_step_on), sl_step_on⟩) (q_step_on : PySem.W.codeIn K cd_step_on "step_on" = true) (k_step_on : PySem.W.keepIn K (.ref f_step_on) = true)
    {f_trace : Addr} (a_trace : PySem.W.nsIn K mainGlobals "trace" = some (some (.ref f_trace)))
    {od_trace an_trace : Option Addr} {sl_trace : Array (Option Value)} {oc_trace kV_trace dc_trace pm_trace cd_trace ct_trace : Value}
    (l_trace : K.lookup f_trace = some ⟨oc_trace, od_trace, .func (PySem.W.fnOf "trace" "trace" (defArgs s_trace) (defBody s_trace) (defScope s_trace) .none kV_trace dc_trace pm_trace an_trace cd_trace ct_trace), sl_trace⟩) (q_trace : PySem.W.codeIn K cd_trace "trace" = true) (k_trace : PySem.W.keepIn K (.ref f_trace) = true)
    {f_result_of : Addr} (a_result_of : PySem.W.nsIn K mainGlobals "result_of" = some (some (.ref f_result_of)))
    {od_result_of an_result_of : Option Addr} {sl_result_of : Array (Option Value)} {oc_result_of kV_result_of dc_result_of pm_result_of cd_result_of ct_result_of : Value}
    (l_result_of : K.lookup f_result_of = some ⟨oc_result_of, od_result_of, .func (PySem.W.fnOf "result_of" "result_of" (defArgs s_result_of) (defBody s_result_of) (defScope s_result_of) .none kV_result_of dc_result_of pm_result_of an_result_of cd_result_of ct_result_of), sl_result_of⟩) (q_result_of : PySem.W.codeIn K cd_result_of "result_of" = true) (k_result_of : PySem.W.keepIn K (.ref f_result_of) = true)
    {f_run : Addr} (a_run : PySem.W.nsIn K mainGlobals "run" = some (some (.ref f_run)))
    {od_run an_run : Option Addr} {sl_run : Array (Option Value)} {oc_run kV_run dc_run pm_run cd_run ct_run : Value}
    (l_run : K.lookup f_run = some ⟨oc_run, od_run, .func (PySem.W.fnOf "run" "run" (defArgs s_run) (defBody s_run) (defScope s_run) .none kV_run dc_run pm_run an_run cd_run ct_run), sl_run⟩) (q_run : PySem.W.codeIn K cd_run "run" = true) (k_run : PySem.W.keepIn K (.ref f_run) = true)
    {f_exchanges : Addr} (a_exchanges : PySem.W.nsIn K mainGlobals "exchanges" = some (some (.ref f_exchanges)))
    {od_exchanges an_exchanges : Option Addr} {sl_exchanges : Array (Option Value)} {oc_exchanges kV_exchanges dc_exchanges pm_exchanges cd_exchanges ct_exchanges : Value}
    (l_exchanges : K.lookup f_exchanges = some ⟨oc_exchanges, od_exchanges, .func (PySem.W.fnOf "exchanges" "exchanges" (defArgs s_exchanges) (defBody s_exchanges) (defScope s_exchanges) .none kV_exchanges dc_exchanges pm_exchanges an_exchanges cd_exchanges ct_exchanges), sl_exchanges⟩) (q_exchanges : PySem.W.codeIn K cd_exchanges "exchanges" = true) (k_exchanges : PySem.W.keepIn K (.ref f_exchanges) = true)
    {f_inversions : Addr} (a_inversions : PySem.W.nsIn K mainGlobals "inversions" = some (some (.ref f_inversions)))
    {od_inversions an_inversions : Option Addr} {sl_inversions : Array (Option Value)} {oc_inversions kV_inversions dc_inversions pm_inversions cd_inversions ct_inversions : Value}
    (l_inversions : K.lookup f_inversions = some ⟨oc_inversions, od_inversions, .func (PySem.W.fnOf "inversions" "inversions" (defArgs s_inversions) (defBody s_inversions) (defScope s_inversions) .none kV_inversions dc_inversions pm_inversions an_inversions cd_inversions ct_inversions), sl_inversions⟩) (q_inversions : PySem.W.codeIn K cd_inversions "inversions" = true) (k_inversions : PySem.W.keepIn K (.ref f_inversions) = true)
    {f__law_outcome : Addr} (a__law_outcome : PySem.W.nsIn K mainGlobals "_law_outcome" = some (some (.ref f__law_outcome)))
    {od__law_outcome an__law_outcome : Option Addr} {sl__law_outcome : Array (Option Value)} {oc__law_outcome kV__law_outcome dc__law_outcome pm__law_outcome cd__law_outcome ct__law_outcome : Value}
    (l__law_outcome : K.lookup f__law_outcome = some ⟨oc__law_outcome, od__law_outcome, .func (PySem.W.fnOf "_law_outcome" "_law_outcome" (defArgs s__law_outcome) (defBody s__law_outcome) (defScope s__law_outcome) .none kV__law_outcome dc__law_outcome pm__law_outcome an__law_outcome cd__law_outcome ct__law_outcome), sl__law_outcome⟩) (q__law_outcome : PySem.W.codeIn K cd__law_outcome "_law_outcome" = true) (k__law_outcome : PySem.W.keepIn K (.ref f__law_outcome) = true)
    {f__law_expected : Addr} (a__law_expected : PySem.W.nsIn K mainGlobals "_law_expected" = some (some (.ref f__law_expected)))
    {od__law_expected an__law_expected : Option Addr} {sl__law_expected : Array (Option Value)} {oc__law_expected kV__law_expected dc__law_expected pm__law_expected cd__law_expected ct__law_expected : Value}
    (l__law_expected : K.lookup f__law_expected = some ⟨oc__law_expected, od__law_expected, .func (PySem.W.fnOf "_law_expected" "_law_expected" (defArgs s__law_expected) (defBody s__law_expected) (defScope s__law_expected) .none kV__law_expected dc__law_expected pm__law_expected an__law_expected cd__law_expected ct__law_expected), sl__law_expected⟩) (q__law_expected : PySem.W.codeIn K cd__law_expected "_law_expected" = true) (k__law_expected : PySem.W.keepIn K (.ref f__law_expected) = true)
    {f_law : Addr} (a_law : PySem.W.nsIn K mainGlobals "law" = some (some (.ref f_law)))
    {od_law an_law : Option Addr} {sl_law : Array (Option Value)} {oc_law kV_law dc_law pm_law cd_law ct_law : Value}
    (l_law : K.lookup f_law = some ⟨oc_law, od_law, .func (PySem.W.fnOf "law" "law" (defArgs s_law) (defBody s_law) (defScope s_law) .none kV_law dc_law pm_law an_law cd_law ct_law), sl_law⟩) (q_law : PySem.W.codeIn K cd_law "law" = true) (k_law : PySem.W.keepIn K (.ref f_law) = true)
    {p_Network_steps f_Network_steps : Addr} {rs_Network_steps : List Value} (a_Network_steps : PySem.W.findIn K (.ref c_Network) "steps" = some (some (.ref p_Network_steps))) (ge_Network_steps : PySem.W.specialIn K (.ref p_Network_steps) "__get__" = some (some (.builtin "property.__get__"))) (ta_Network_steps : PySem.W.takesIn K (.ref p_Network_steps) = some true) (rc_Network_steps : PySem.W.recIn K p_Network_steps "property" = some (.ref f_Network_steps :: rs_Network_steps))
    {od_Network_steps an_Network_steps : Option Addr} {sl_Network_steps : Array (Option Value)} {oc_Network_steps kV_Network_steps dc_Network_steps pm_Network_steps cd_Network_steps ct_Network_steps : Value}
    (l_Network_steps : K.lookup f_Network_steps = some ⟨oc_Network_steps, od_Network_steps, .func (PySem.W.fnOf "steps" "Network.steps" (defArgs s_Network_steps) (defBody s_Network_steps) (defScope s_Network_steps) .none kV_Network_steps dc_Network_steps pm_Network_steps an_Network_steps cd_Network_steps ct_Network_steps), sl_Network_steps⟩) (q_Network_steps : PySem.W.codeIn K cd_Network_steps "Network.steps" = true) (k_Network_steps : PySem.W.keepIn K (.ref f_Network_steps) = true)
    {p_Network_width f_Network_width : Addr} {rs_Network_width : List Value} (a_Network_width : PySem.W.findIn K (.ref c_Network) "width" = some (some (.ref p_Network_width))) (ge_Network_width : PySem.W.specialIn K (.ref p_Network_width) "__get__" = some (some (.builtin "property.__get__"))) (ta_Network_width : PySem.W.takesIn K (.ref p_Network_width) = some true) (rc_Network_width : PySem.W.recIn K p_Network_width "property" = some (.ref f_Network_width :: rs_Network_width))
    {od_Network_width an_Network_width : Option Addr} {sl_Network_width : Array (Option Value)} {oc_Network_width kV_Network_width dc_Network_width pm_Network_width cd_Network_width ct_Network_width : Value}
    (l_Network_width : K.lookup f_Network_width = some ⟨oc_Network_width, od_Network_width, .func (PySem.W.fnOf "width" "Network.width" (defArgs s_Network_width) (defBody s_Network_width) (defScope s_Network_width) .none kV_Network_width dc_Network_width pm_Network_width an_Network_width cd_Network_width ct_Network_width), sl_Network_width⟩) (q_Network_width : PySem.W.codeIn K cd_Network_width "Network.width" = true) (k_Network_width : PySem.W.keepIn K (.ref f_Network_width) = true)
    (pg_Network : PySem.W.plainGet K c_Network Str.empty = true) (hd_Network : PySem.W.hasDictIn K c_Network = true) (po_Network : PySem.W.plainOver K c_Network = true) (sa_Network : PySem.W.findIn K (.ref c_Network) "__setattr__" = some (some (.builtin "object.__setattr__"))) (mk_Network : PySem.W.makesIn K c_Network = true) (kc_Network : PySem.W.keepIn K (.ref c_Network) = true)
    (na_Network_own_steps : PySem.W.findIn K (.ref c_Network) "own_steps" = some none)
    (na_Network_own_width : PySem.W.findIn K (.ref c_Network) "own_width" = some none)
    (rd_Network : PySem.W.readsIn K c_Network (.type "type") = true) (ga_Network : PySem.W.specialIn K (.ref c_Network) "__getattribute__" = some (some (.builtin "type.__getattribute__")))
    {t_Network_MAX_STEPS : Tok} (cv_Network_MAX_STEPS : PySem.W.findCls K (.ref c_Network) (.type "type") "MAX_STEPS" = some (.val (.int 1000 t_Network_MAX_STEPS)))
    {t_Network_MAX_WIDTH : Tok} (cv_Network_MAX_WIDTH : PySem.W.findCls K (.ref c_Network) (.type "type") "MAX_WIDTH" = some (.val (.int 40 t_Network_MAX_WIDTH)))
    {c_InvalidStep : Addr} (a_InvalidStep : PySem.W.nsIn K mainGlobals "InvalidStep" = some (some (.ref c_InvalidStep)))
    {c_InvalidValues : Addr} (a_InvalidValues : PySem.W.nsIn K mainGlobals "InvalidValues" = some (some (.ref c_InvalidValues)))
    {c_InvalidWidth : Addr} (a_InvalidWidth : PySem.W.nsIn K mainGlobals "InvalidWidth" = some (some (.ref c_InvalidWidth)))
    {c_NetworkError : Addr} (a_NetworkError : PySem.W.nsIn K mainGlobals "NetworkError" = some (some (.ref c_NetworkError)))
    (rd_NetworkError : PySem.W.readsIn K c_NetworkError (.type "type") = true) (ga_NetworkError : PySem.W.specialIn K (.ref c_NetworkError) "__getattribute__" = some (some (.builtin "type.__getattribute__"))) (vx_NetworkError : PySem.W.findCls K (.ref c_NetworkError) (.type "type") "__init__" = some (.val (.builtin "ValueError.__init__")))
    {f_InvalidStep___init__ : Addr} (a_InvalidStep___init__ : PySem.W.findIn K (.ref c_InvalidStep) "__init__" = some (some (.ref f_InvalidStep___init__))) (i_InvalidStep___init__ : PySem.W.isFn K (.ref f_InvalidStep___init__) = true)
    {od_InvalidStep___init__ an_InvalidStep___init__ : Option Addr} {sl_InvalidStep___init__ : Array (Option Value)} {kV_InvalidStep___init__ dc_InvalidStep___init__ pm_InvalidStep___init__ cd_InvalidStep___init__ ct_InvalidStep___init__ : Value}
    (l_InvalidStep___init__ : K.lookup f_InvalidStep___init__ = some ⟨(.type "function"), od_InvalidStep___init__, .func (PySem.W.fnOf "__init__" "InvalidStep.__init__" (defArgs s_InvalidStep___init__) (defBody s_InvalidStep___init__) (defScope s_InvalidStep___init__) .none kV_InvalidStep___init__ dc_InvalidStep___init__ pm_InvalidStep___init__ an_InvalidStep___init__ cd_InvalidStep___init__ ct_InvalidStep___init__), sl_InvalidStep___init__⟩) (q_InvalidStep___init__ : PySem.W.codeIn K cd_InvalidStep___init__ "InvalidStep.__init__" = true) (k_InvalidStep___init__ : PySem.W.keepIn K (.ref f_InvalidStep___init__) = true)
    {nm_InvalidStep qn_InvalidStep : Str} {N_InvalidStep : Addr} {bs_InvalidStep bm_InvalidStep : List Value} {sn_InvalidStep : List Str} {sub_InvalidStep : List Value} {ab_InvalidStep : Bool} {col_InvalidStep : Option Bool} {dd_InvalidStep : Option Addr} {m0_InvalidStep m1_InvalidStep m2_InvalidStep m3_InvalidStep m5_InvalidStep : Option Value} (xl_InvalidStep : K.lookup c_InvalidStep = some (excClassObj nm_InvalidStep qn_InvalidStep c_InvalidStep N_InvalidStep bs_InvalidStep bm_InvalidStep true sn_InvalidStep sub_InvalidStep ab_InvalidStep col_InvalidStep dd_InvalidStep m0_InvalidStep m1_InvalidStep m2_InvalidStep m3_InvalidStep m5_InvalidStep "ValueError.__new__")) (rv_InvalidStep : PySem.HandSPX.refsVE bm_InvalidStep = true)
    (sa_InvalidStep : PySem.W.findIn K (.ref c_InvalidStep) "__setattr__" = some (some (.builtin "object.__setattr__"))) (be_InvalidStep : PySem.W.subIn K (.ref c_InvalidStep) (.type "BaseException") = some true) (ty_InvalidStep : PySem.W.typeIn K (.ref c_InvalidStep) = some (.type "type")) (kc_InvalidStep : PySem.W.keepIn K (.ref c_InvalidStep) = true)
    (nf_InvalidStep_index : PySem.W.findIn K (.ref c_InvalidStep) "index" = some none)
    (xg_InvalidStep : PySem.W.findIn K (.ref c_InvalidStep) "__getattribute__" = some (some (.builtin "BaseException.__getattribute__"))) (xh_InvalidStep : PySem.W.findIn K (.ref c_InvalidStep) "__getattr__" = some none) (xd_InvalidStep : PySem.W.hasDictIn K c_InvalidStep = true)
    (xc_InvalidStep : PySem.W.isClsIn K c_InvalidStep = true) (xa_InvalidStep : PySem.W.findIn K (.ref c_InvalidStep) "__class__" = some (some (.builtin "object.__class__"))) (xm_InvalidStep : PySem.W.mroIn K c_InvalidStep (.type "object") = some true)
    {f_InvalidValues___init__ : Addr} (a_InvalidValues___init__ : PySem.W.findIn K (.ref c_InvalidValues) "__init__" = some (some (.ref f_InvalidValues___init__))) (i_InvalidValues___init__ : PySem.W.isFn K (.ref f_InvalidValues___init__) = true)
    {od_InvalidValues___init__ an_InvalidValues___init__ : Option Addr} {sl_InvalidValues___init__ : Array (Option Value)} {kV_InvalidValues___init__ dc_InvalidValues___init__ pm_InvalidValues___init__ cd_InvalidValues___init__ ct_InvalidValues___init__ : Value}
    (l_InvalidValues___init__ : K.lookup f_InvalidValues___init__ = some ⟨(.type "function"), od_InvalidValues___init__, .func (PySem.W.fnOf "__init__" "InvalidValues.__init__" (defArgs s_InvalidValues___init__) (defBody s_InvalidValues___init__) (defScope s_InvalidValues___init__) .none kV_InvalidValues___init__ dc_InvalidValues___init__ pm_InvalidValues___init__ an_InvalidValues___init__ cd_InvalidValues___init__ ct_InvalidValues___init__), sl_InvalidValues___init__⟩) (q_InvalidValues___init__ : PySem.W.codeIn K cd_InvalidValues___init__ "InvalidValues.__init__" = true) (k_InvalidValues___init__ : PySem.W.keepIn K (.ref f_InvalidValues___init__) = true)
    {nm_InvalidValues qn_InvalidValues : Str} {N_InvalidValues : Addr} {bs_InvalidValues bm_InvalidValues : List Value} {sn_InvalidValues : List Str} {sub_InvalidValues : List Value} {ab_InvalidValues : Bool} {col_InvalidValues : Option Bool} {dd_InvalidValues : Option Addr} {m0_InvalidValues m1_InvalidValues m2_InvalidValues m3_InvalidValues m5_InvalidValues : Option Value} (xl_InvalidValues : K.lookup c_InvalidValues = some (excClassObj nm_InvalidValues qn_InvalidValues c_InvalidValues N_InvalidValues bs_InvalidValues bm_InvalidValues true sn_InvalidValues sub_InvalidValues ab_InvalidValues col_InvalidValues dd_InvalidValues m0_InvalidValues m1_InvalidValues m2_InvalidValues m3_InvalidValues m5_InvalidValues "ValueError.__new__")) (rv_InvalidValues : PySem.HandSPX.refsVE bm_InvalidValues = true)
    (sa_InvalidValues : PySem.W.findIn K (.ref c_InvalidValues) "__setattr__" = some (some (.builtin "object.__setattr__"))) (be_InvalidValues : PySem.W.subIn K (.ref c_InvalidValues) (.type "BaseException") = some true) (ty_InvalidValues : PySem.W.typeIn K (.ref c_InvalidValues) = some (.type "type")) (kc_InvalidValues : PySem.W.keepIn K (.ref c_InvalidValues) = true)
    (nf_InvalidValues_index : PySem.W.findIn K (.ref c_InvalidValues) "index" = some none)
    (xg_InvalidValues : PySem.W.findIn K (.ref c_InvalidValues) "__getattribute__" = some (some (.builtin "BaseException.__getattribute__"))) (xh_InvalidValues : PySem.W.findIn K (.ref c_InvalidValues) "__getattr__" = some none) (xd_InvalidValues : PySem.W.hasDictIn K c_InvalidValues = true)
    (xc_InvalidValues : PySem.W.isClsIn K c_InvalidValues = true) (xa_InvalidValues : PySem.W.findIn K (.ref c_InvalidValues) "__class__" = some (some (.builtin "object.__class__"))) (xm_InvalidValues : PySem.W.mroIn K c_InvalidValues (.type "object") = some true)
    {f_InvalidWidth___init__ : Addr} (a_InvalidWidth___init__ : PySem.W.findIn K (.ref c_InvalidWidth) "__init__" = some (some (.ref f_InvalidWidth___init__))) (i_InvalidWidth___init__ : PySem.W.isFn K (.ref f_InvalidWidth___init__) = true)
    {od_InvalidWidth___init__ an_InvalidWidth___init__ : Option Addr} {sl_InvalidWidth___init__ : Array (Option Value)} {kV_InvalidWidth___init__ dc_InvalidWidth___init__ pm_InvalidWidth___init__ cd_InvalidWidth___init__ ct_InvalidWidth___init__ : Value}
    (l_InvalidWidth___init__ : K.lookup f_InvalidWidth___init__ = some ⟨(.type "function"), od_InvalidWidth___init__, .func (PySem.W.fnOf "__init__" "InvalidWidth.__init__" (defArgs s_InvalidWidth___init__) (defBody s_InvalidWidth___init__) (defScope s_InvalidWidth___init__) .none kV_InvalidWidth___init__ dc_InvalidWidth___init__ pm_InvalidWidth___init__ an_InvalidWidth___init__ cd_InvalidWidth___init__ ct_InvalidWidth___init__), sl_InvalidWidth___init__⟩) (q_InvalidWidth___init__ : PySem.W.codeIn K cd_InvalidWidth___init__ "InvalidWidth.__init__" = true) (k_InvalidWidth___init__ : PySem.W.keepIn K (.ref f_InvalidWidth___init__) = true)
    {nm_InvalidWidth qn_InvalidWidth : Str} {N_InvalidWidth : Addr} {bs_InvalidWidth bm_InvalidWidth : List Value} {sn_InvalidWidth : List Str} {sub_InvalidWidth : List Value} {ab_InvalidWidth : Bool} {col_InvalidWidth : Option Bool} {dd_InvalidWidth : Option Addr} {m0_InvalidWidth m1_InvalidWidth m2_InvalidWidth m3_InvalidWidth m5_InvalidWidth : Option Value} (xl_InvalidWidth : K.lookup c_InvalidWidth = some (excClassObj nm_InvalidWidth qn_InvalidWidth c_InvalidWidth N_InvalidWidth bs_InvalidWidth bm_InvalidWidth true sn_InvalidWidth sub_InvalidWidth ab_InvalidWidth col_InvalidWidth dd_InvalidWidth m0_InvalidWidth m1_InvalidWidth m2_InvalidWidth m3_InvalidWidth m5_InvalidWidth "ValueError.__new__")) (rv_InvalidWidth : PySem.HandSPX.refsVE bm_InvalidWidth = true)
    (sa_InvalidWidth : PySem.W.findIn K (.ref c_InvalidWidth) "__setattr__" = some (some (.builtin "object.__setattr__"))) (be_InvalidWidth : PySem.W.subIn K (.ref c_InvalidWidth) (.type "BaseException") = some true) (ty_InvalidWidth : PySem.W.typeIn K (.ref c_InvalidWidth) = some (.type "type")) (kc_InvalidWidth : PySem.W.keepIn K (.ref c_InvalidWidth) = true)
    (nf_InvalidWidth_value : PySem.W.findIn K (.ref c_InvalidWidth) "value" = some none)
    (xg_InvalidWidth : PySem.W.findIn K (.ref c_InvalidWidth) "__getattribute__" = some (some (.builtin "BaseException.__getattribute__"))) (xh_InvalidWidth : PySem.W.findIn K (.ref c_InvalidWidth) "__getattr__" = some none) (xd_InvalidWidth : PySem.W.hasDictIn K c_InvalidWidth = true)
    (xc_InvalidWidth : PySem.W.isClsIn K c_InvalidWidth = true) (xa_InvalidWidth : PySem.W.findIn K (.ref c_InvalidWidth) "__class__" = some (some (.builtin "object.__class__"))) (xm_InvalidWidth : PySem.W.mroIn K c_InvalidWidth (.type "object") = some true)
    (xn_class : PySem.W.specialIn K (.builtin "object.__class__") "__get__" = some (some (.builtin "getset_descriptor.__get__"))) (xt_class : PySem.W.takesIn K (.builtin "object.__class__") = some true)
    (hb_InvalidValues : PySem.W.subIn K (.ref c_InvalidValues) (.type "BaseException") = some true) (hh_InvalidValues : PySem.W.isClsIn K c_InvalidValues = true) (ht_InvalidValues : PySem.W.typeIn K (.ref c_InvalidValues) = some (.type "type"))
    (es_InvalidStep_InvalidValues : PySem.W.subIn K (.ref c_InvalidStep) (.ref c_InvalidValues) = some false)
    (es_InvalidValues_InvalidValues : PySem.W.subIn K (.ref c_InvalidValues) (.ref c_InvalidValues) = some true)
    (es_InvalidWidth_InvalidValues : PySem.W.subIn K (.ref c_InvalidWidth) (.ref c_InvalidValues) = some false)
    (kl_InvalidStep : PySem.W.isClsIn K c_InvalidStep = true) (kt_InvalidStep : PySem.W.typeIn K (.ref c_InvalidStep) = some (.type "type"))
    (ks_InvalidStep_InvalidStep : PySem.W.subIn K (.ref c_InvalidStep) (.ref c_InvalidStep) = some true)
    (ks_InvalidValues_InvalidStep : PySem.W.subIn K (.ref c_InvalidValues) (.ref c_InvalidStep) = some false)
    (kn_InvalidValues_InvalidStep : (Value.ref c_InvalidValues == Value.ref c_InvalidStep) = false)
    (ks_InvalidWidth_InvalidStep : PySem.W.subIn K (.ref c_InvalidWidth) (.ref c_InvalidStep) = some false)
    (kn_InvalidWidth_InvalidStep : (Value.ref c_InvalidWidth == Value.ref c_InvalidStep) = false)
    (kl_NetworkError : PySem.W.isClsIn K c_NetworkError = true) (kt_NetworkError : PySem.W.typeIn K (.ref c_NetworkError) = some (.type "type"))
    (ks_InvalidStep_NetworkError : PySem.W.subIn K (.ref c_InvalidStep) (.ref c_NetworkError) = some true)
    (ks_InvalidValues_NetworkError : PySem.W.subIn K (.ref c_InvalidValues) (.ref c_NetworkError) = some true)
    (ks_InvalidWidth_NetworkError : PySem.W.subIn K (.ref c_InvalidWidth) (.ref c_NetworkError) = some true)
    (nst_InvalidValues : PySem.W.subIn K (.ref c_InvalidValues) (.type "StopIteration") = some false)
    (z_abs : PySem.W.nsIn K mainGlobals "abs" = some none)
    (z_bool : PySem.W.nsIn K mainGlobals "bool" = some none)
    (z_enumerate : PySem.W.nsIn K mainGlobals "enumerate" = some none)
    (z_int : PySem.W.nsIn K mainGlobals "int" = some none)
    (z_isinstance : PySem.W.nsIn K mainGlobals "isinstance" = some none)
    (z_len : PySem.W.nsIn K mainGlobals "len" = some none)
    (z_list : PySem.W.nsIn K mainGlobals "list" = some none)
    (z_max : PySem.W.nsIn K mainGlobals "max" = some none)
    (z_min : PySem.W.nsIn K mainGlobals "min" = some none)
    (z_range : PySem.W.nsIn K mainGlobals "range" = some none)
    (z_sum : PySem.W.nsIn K mainGlobals "sum" = some none)
    (z_tuple : PySem.W.nsIn K mainGlobals "tuple" = some none)
    (z_zip : PySem.W.nsIn K mainGlobals "zip" = some none) :
    ∃ (T : Tx K mg), ∀ base : Heap, K.In base → base.Ns mainGlobals mg → FnG l.prog w K mg base (L2.CX l.prog w) 8 fa (spM T.ca K m_law) := by
  have e : fa = f_law := by
    have := hfa.symm.trans (PySem.W.mg_of X G a_law)
    cases this
    rfl
  rw [e]
  let T : Tx K mg := {
    c_Network := c_Network
    g_Network := PySem.W.mg_of X G a_Network
    f__law_source := f__law_source
    d__law_source := PySem.W.fnOf "_law_source" "_law_source" (defArgs s__law_source) (defBody s__law_source) (defScope s__law_source) .none kV__law_source dc__law_source pm__law_source an__law_source cd__law_source ct__law_source
    F__law_source := fun_mk (st := s__law_source) l__law_source q__law_source k__law_source
    B__law_source := (fun_mk (st := s__law_source) l__law_source q__law_source k__law_source).binds (ps := ["_law_script", "_law_k"]) fun _ _ _ _ _ _ us hl => match us, hl with | [_, _], _ => rfl
    g__law_source := PySem.W.mg_of X G a__law_source
    f__law_draw := f__law_draw
    d__law_draw := PySem.W.fnOf "_law_draw" "_law_draw" (defArgs s__law_draw) (defBody s__law_draw) (defScope s__law_draw) .none kV__law_draw dc__law_draw pm__law_draw an__law_draw cd__law_draw ct__law_draw
    F__law_draw := fun_mk (st := s__law_draw) l__law_draw q__law_draw k__law_draw
    B__law_draw := (fun_mk (st := s__law_draw) l__law_draw q__law_draw k__law_draw).binds (ps := ["_law_source_here", "_law_many"]) fun _ _ _ _ _ _ us hl => match us, hl with | [_, _], _ => rfl
    g__law_draw := PySem.W.mg_of X G a__law_draw
    f__law_steps := f__law_steps
    d__law_steps := PySem.W.fnOf "_law_steps" "_law_steps" (defArgs s__law_steps) (defBody s__law_steps) (defScope s__law_steps) .none kV__law_steps dc__law_steps pm__law_steps an__law_steps cd__law_steps ct__law_steps
    F__law_steps := fun_mk (st := s__law_steps) l__law_steps q__law_steps k__law_steps
    B__law_steps := (fun_mk (st := s__law_steps) l__law_steps q__law_steps k__law_steps).binds (ps := ["_law_source_here", "_law_width", "_law_many"]) fun _ _ _ _ _ _ us hl => match us, hl with | [_, _, _], _ => rfl
    g__law_steps := PySem.W.mg_of X G a__law_steps
    f_is_integer := f_is_integer
    d_is_integer := PySem.W.fnOf "is_integer" "is_integer" (defArgs s_is_integer) (defBody s_is_integer) (defScope s_is_integer) .none kV_is_integer dc_is_integer pm_is_integer an_is_integer cd_is_integer ct_is_integer
    F_is_integer := fun_mk (st := s_is_integer) l_is_integer q_is_integer k_is_integer
    B_is_integer := (fun_mk (st := s_is_integer) l_is_integer q_is_integer k_is_integer).binds (ps := ["value", "low", "high"]) fun _ _ _ _ _ _ us hl => match us, hl with | [_, _, _], _ => rfl
    g_is_integer := PySem.W.mg_of X G a_is_integer
    f_check_width := f_check_width
    d_check_width := PySem.W.fnOf "check_width" "check_width" (defArgs s_check_width) (defBody s_check_width) (defScope s_check_width) .none kV_check_width dc_check_width pm_check_width an_check_width cd_check_width ct_check_width
    F_check_width := fun_mk (st := s_check_width) l_check_width q_check_width k_check_width
    B_check_width := (fun_mk (st := s_check_width) l_check_width q_check_width k_check_width).binds (ps := ["width"]) fun _ _ _ _ _ _ us hl => match us, hl with | [_], _ => rfl
    g_check_width := PySem.W.mg_of X G a_check_width
    f_check_steps := f_check_steps
    d_check_steps := PySem.W.fnOf "check_steps" "check_steps" (defArgs s_check_steps) (defBody s_check_steps) (defScope s_check_steps) .none kV_check_steps dc_check_steps pm_check_steps an_check_steps cd_check_steps ct_check_steps
    F_check_steps := fun_mk (st := s_check_steps) l_check_steps q_check_steps k_check_steps
    B_check_steps := (fun_mk (st := s_check_steps) l_check_steps q_check_steps k_check_steps).binds (ps := ["width", "steps"]) fun _ _ _ _ _ _ us hl => match us, hl with | [_, _], _ => rfl
    g_check_steps := PySem.W.mg_of X G a_check_steps
    f_Network___init__ := f_Network___init__
    d_Network___init__ := PySem.W.fnOf "__init__" "Network.__init__" (defArgs s_Network___init__) (defBody s_Network___init__) (defScope s_Network___init__) .none kV_Network___init__ dc_Network___init__ pm_Network___init__ an_Network___init__ cd_Network___init__ ct_Network___init__
    F_Network___init__ := fun_mk (st := s_Network___init__) l_Network___init__ q_Network___init__ k_Network___init__
    B_Network___init__ := (fun_mk (st := s_Network___init__) l_Network___init__ q_Network___init__ k_Network___init__).binds (ps := ["self", "width", "steps"]) fun _ _ _ _ _ _ us hl => match us, hl with | [_, _, _], _ => rfl
    f__law_values := f__law_values
    d__law_values := PySem.W.fnOf "_law_values" "_law_values" (defArgs s__law_values) (defBody s__law_values) (defScope s__law_values) .none kV__law_values dc__law_values pm__law_values an__law_values cd__law_values ct__law_values
    F__law_values := fun_mk (st := s__law_values) l__law_values q__law_values k__law_values
    B__law_values := (fun_mk (st := s__law_values) l__law_values q__law_values k__law_values).binds (ps := ["_law_source_here", "_law_width"]) fun _ _ _ _ _ _ us hl => match us, hl with | [_, _], _ => rfl
    g__law_values := PySem.W.mg_of X G a__law_values
    f_is_any_integer := f_is_any_integer
    d_is_any_integer := PySem.W.fnOf "is_any_integer" "is_any_integer" (defArgs s_is_any_integer) (defBody s_is_any_integer) (defScope s_is_any_integer) .none kV_is_any_integer dc_is_any_integer pm_is_any_integer an_is_any_integer cd_is_any_integer ct_is_any_integer
    F_is_any_integer := fun_mk (st := s_is_any_integer) l_is_any_integer q_is_any_integer k_is_any_integer
    B_is_any_integer := (fun_mk (st := s_is_any_integer) l_is_any_integer q_is_any_integer k_is_any_integer).binds (ps := ["value"]) fun _ _ _ _ _ _ us hl => match us, hl with | [_], _ => rfl
    g_is_any_integer := PySem.W.mg_of X G a_is_any_integer
    f_check_integers := f_check_integers
    d_check_integers := PySem.W.fnOf "check_integers" "check_integers" (defArgs s_check_integers) (defBody s_check_integers) (defScope s_check_integers) .none kV_check_integers dc_check_integers pm_check_integers an_check_integers cd_check_integers ct_check_integers
    F_check_integers := fun_mk (st := s_check_integers) l_check_integers q_check_integers k_check_integers
    B_check_integers := (fun_mk (st := s_check_integers) l_check_integers q_check_integers k_check_integers).binds (ps := ["values"]) fun _ _ _ _ _ _ us hl => match us, hl with | [_], _ => rfl
    g_check_integers := PySem.W.mg_of X G a_check_integers
    f_check_values := f_check_values
    d_check_values := PySem.W.fnOf "check_values" "check_values" (defArgs s_check_values) (defBody s_check_values) (defScope s_check_values) .none kV_check_values dc_check_values pm_check_values an_check_values cd_check_values ct_check_values
    F_check_values := fun_mk (st := s_check_values) l_check_values q_check_values k_check_values
    B_check_values := (fun_mk (st := s_check_values) l_check_values q_check_values k_check_values).binds (ps := ["width", "values"]) fun _ _ _ _ _ _ us hl => match us, hl with | [_, _], _ => rfl
    g_check_values := PySem.W.mg_of X G a_check_values
    f_step_on := f_step_on
    d_step_on := PySem.W.fnOf "step_on" "step_on" (defArgs s_step_on) (defBody s_step_on) (defScope s_step_on) .none kV_step_on dc_step_on pm_step_on an_step_on cd_step_on ct_step_on
    F_step_on := fun_mk (st := s_step_on) l_step_on q_step_on k_step_on
    B_step_on := (fun_mk (st := s_step_on) l_step_on q_step_on k_step_on).binds (ps := ["values", "step"]) fun _ _ _ _ _ _ us hl => match us, hl with | [_, _], _ => rfl
    g_step_on := PySem.W.mg_of X G a_step_on
    f_trace := f_trace
    d_trace := PySem.W.fnOf "trace" "trace" (defArgs s_trace) (defBody s_trace) (defScope s_trace) .none kV_trace dc_trace pm_trace an_trace cd_trace ct_trace
    F_trace := fun_mk (st := s_trace) l_trace q_trace k_trace
    B_trace := (fun_mk (st := s_trace) l_trace q_trace k_trace).binds (ps := ["network", "values"]) fun _ _ _ _ _ _ us hl => match us, hl with | [_, _], _ => rfl
    g_trace := PySem.W.mg_of X G a_trace
    f_result_of := f_result_of
    d_result_of := PySem.W.fnOf "result_of" "result_of" (defArgs s_result_of) (defBody s_result_of) (defScope s_result_of) .none kV_result_of dc_result_of pm_result_of an_result_of cd_result_of ct_result_of
    F_result_of := fun_mk (st := s_result_of) l_result_of q_result_of k_result_of
    B_result_of := (fun_mk (st := s_result_of) l_result_of q_result_of k_result_of).binds (ps := ["steps", "values"]) fun _ _ _ _ _ _ us hl => match us, hl with | [_, _], _ => rfl
    g_result_of := PySem.W.mg_of X G a_result_of
    f_run := f_run
    d_run := PySem.W.fnOf "run" "run" (defArgs s_run) (defBody s_run) (defScope s_run) .none kV_run dc_run pm_run an_run cd_run ct_run
    F_run := fun_mk (st := s_run) l_run q_run k_run
    B_run := (fun_mk (st := s_run) l_run q_run k_run).binds (ps := ["network", "values"]) fun _ _ _ _ _ _ us hl => match us, hl with | [_, _], _ => rfl
    g_run := PySem.W.mg_of X G a_run
    f_exchanges := f_exchanges
    d_exchanges := PySem.W.fnOf "exchanges" "exchanges" (defArgs s_exchanges) (defBody s_exchanges) (defScope s_exchanges) .none kV_exchanges dc_exchanges pm_exchanges an_exchanges cd_exchanges ct_exchanges
    F_exchanges := fun_mk (st := s_exchanges) l_exchanges q_exchanges k_exchanges
    B_exchanges := (fun_mk (st := s_exchanges) l_exchanges q_exchanges k_exchanges).binds (ps := ["network", "values"]) fun _ _ _ _ _ _ us hl => match us, hl with | [_, _], _ => rfl
    g_exchanges := PySem.W.mg_of X G a_exchanges
    f_inversions := f_inversions
    d_inversions := PySem.W.fnOf "inversions" "inversions" (defArgs s_inversions) (defBody s_inversions) (defScope s_inversions) .none kV_inversions dc_inversions pm_inversions an_inversions cd_inversions ct_inversions
    F_inversions := fun_mk (st := s_inversions) l_inversions q_inversions k_inversions
    B_inversions := (fun_mk (st := s_inversions) l_inversions q_inversions k_inversions).binds (ps := ["values"]) fun _ _ _ _ _ _ us hl => match us, hl with | [_], _ => rfl
    g_inversions := PySem.W.mg_of X G a_inversions
    f__law_outcome := f__law_outcome
    d__law_outcome := PySem.W.fnOf "_law_outcome" "_law_outcome" (defArgs s__law_outcome) (defBody s__law_outcome) (defScope s__law_outcome) .none kV__law_outcome dc__law_outcome pm__law_outcome an__law_outcome cd__law_outcome ct__law_outcome
    F__law_outcome := fun_mk (st := s__law_outcome) l__law_outcome q__law_outcome k__law_outcome
    B__law_outcome := (fun_mk (st := s__law_outcome) l__law_outcome q__law_outcome k__law_outcome).binds (ps := ["_law_choice", "_law_network", "_law_values_here"]) fun _ _ _ _ _ _ us hl => match us, hl with | [_, _, _], _ => rfl
    g__law_outcome := PySem.W.mg_of X G a__law_outcome
    f__law_expected := f__law_expected
    d__law_expected := PySem.W.fnOf "_law_expected" "_law_expected" (defArgs s__law_expected) (defBody s__law_expected) (defScope s__law_expected) .none kV__law_expected dc__law_expected pm__law_expected an__law_expected cd__law_expected ct__law_expected
    F__law_expected := fun_mk (st := s__law_expected) l__law_expected q__law_expected k__law_expected
    B__law_expected := (fun_mk (st := s__law_expected) l__law_expected q__law_expected k__law_expected).binds (ps := ["_law_choice", "_law_width", "_law_values_here"]) fun _ _ _ _ _ _ us hl => match us, hl with | [_, _, _], _ => rfl
    g__law_expected := PySem.W.mg_of X G a__law_expected
    f_law := f_law
    d_law := PySem.W.fnOf "law" "law" (defArgs s_law) (defBody s_law) (defScope s_law) .none kV_law dc_law pm_law an_law cd_law ct_law
    F_law := fun_mk (st := s_law) l_law q_law k_law
    B_law := (fun_mk (st := s_law) l_law q_law k_law).binds (ps := ["_law_script"]) fun _ _ _ _ _ _ us hl => match us, hl with | [_], _ => rfl
    g_law := PySem.W.mg_of X G a_law
    f_Network_steps := f_Network_steps
    d_Network_steps := PySem.W.fnOf "steps" "Network.steps" (defArgs s_Network_steps) (defBody s_Network_steps) (defScope s_Network_steps) .none kV_Network_steps dc_Network_steps pm_Network_steps an_Network_steps cd_Network_steps ct_Network_steps
    F_Network_steps := fun_mk (st := s_Network_steps) l_Network_steps q_Network_steps k_Network_steps
    B_Network_steps := (fun_mk (st := s_Network_steps) l_Network_steps q_Network_steps k_Network_steps).binds (ps := ["self"]) fun _ _ _ _ _ _ us hl => match us, hl with | [_], _ => rfl
    p_Network_steps := p_Network_steps
    pr_Network_steps := ⟨a_Network_steps, ge_Network_steps, ta_Network_steps, rs_Network_steps, rc_Network_steps⟩
    f_Network_width := f_Network_width
    d_Network_width := PySem.W.fnOf "width" "Network.width" (defArgs s_Network_width) (defBody s_Network_width) (defScope s_Network_width) .none kV_Network_width dc_Network_width pm_Network_width an_Network_width cd_Network_width ct_Network_width
    F_Network_width := fun_mk (st := s_Network_width) l_Network_width q_Network_width k_Network_width
    B_Network_width := (fun_mk (st := s_Network_width) l_Network_width q_Network_width k_Network_width).binds (ps := ["self"]) fun _ _ _ _ _ _ us hl => match us, hl with | [_], _ => rfl
    p_Network_width := p_Network_width
    pr_Network_width := ⟨a_Network_width, ge_Network_width, ta_Network_width, rs_Network_width, rc_Network_width⟩
    cl_Network := ⟨pg_Network, hd_Network, po_Network, sa_Network⟩
    mk_Network := ⟨mk_Network, a_Network___init__, i_Network___init__, kc_Network⟩
    na_Network_own_steps := na_Network_own_steps
    na_Network_own_width := na_Network_own_width
    mc_Network := .type "type"
    rd_Network := ⟨rd_Network, ga_Network⟩
    v_Network_MAX_STEPS := .int 1000 t_Network_MAX_STEPS
    cv_Network_MAX_STEPS := ⟨cv_Network_MAX_STEPS, _, rfl⟩
    v_Network_MAX_WIDTH := .int 40 t_Network_MAX_WIDTH
    cv_Network_MAX_WIDTH := ⟨cv_Network_MAX_WIDTH, _, rfl⟩
    c_InvalidStep := c_InvalidStep
    g_InvalidStep := PySem.W.mg_of X G a_InvalidStep
    c_InvalidValues := c_InvalidValues
    g_InvalidValues := PySem.W.mg_of X G a_InvalidValues
    c_InvalidWidth := c_InvalidWidth
    g_InvalidWidth := PySem.W.mg_of X G a_InvalidWidth
    c_NetworkError := c_NetworkError
    g_NetworkError := PySem.W.mg_of X G a_NetworkError
    mx_NetworkError := .type "type"
    rx_NetworkError := ⟨rd_NetworkError, ga_NetworkError⟩
    vx_NetworkError := vx_NetworkError
    f_InvalidStep___init__ := f_InvalidStep___init__
    d_InvalidStep___init__ := PySem.W.fnOf "__init__" "InvalidStep.__init__" (defArgs s_InvalidStep___init__) (defBody s_InvalidStep___init__) (defScope s_InvalidStep___init__) .none kV_InvalidStep___init__ dc_InvalidStep___init__ pm_InvalidStep___init__ an_InvalidStep___init__ cd_InvalidStep___init__ ct_InvalidStep___init__
    F_InvalidStep___init__ := fun_mk (st := s_InvalidStep___init__) l_InvalidStep___init__ q_InvalidStep___init__ k_InvalidStep___init__
    B_InvalidStep___init__ := (fun_mk (st := s_InvalidStep___init__) l_InvalidStep___init__ q_InvalidStep___init__ k_InvalidStep___init__).binds (ps := ["self", "index"]) fun _ _ _ _ _ _ us hl => match us, hl with | [_, _], _ => rfl
    ox_InvalidStep := ⟨⟨nm_InvalidStep, qn_InvalidStep, N_InvalidStep, bs_InvalidStep, bm_InvalidStep, sn_InvalidStep, sub_InvalidStep, ab_InvalidStep, col_InvalidStep, dd_InvalidStep, m0_InvalidStep, m1_InvalidStep, m2_InvalidStep, m3_InvalidStep, m5_InvalidStep, xl_InvalidStep, rv_InvalidStep⟩, sa_InvalidStep, be_InvalidStep, ty_InvalidStep, kc_InvalidStep⟩
    iC_InvalidStep := a_InvalidStep___init__
    tI_InvalidStep := isFn_ty i_InvalidStep___init__
    nf_InvalidStep_index := nf_InvalidStep_index
    xfc_InvalidStep := ⟨xg_InvalidStep, xh_InvalidStep, be_InvalidStep, xd_InvalidStep⟩
    xic_InvalidStep := ⟨xc_InvalidStep, xg_InvalidStep, xh_InvalidStep, be_InvalidStep, xa_InvalidStep, xn_class, xt_class, xm_InvalidStep⟩
    f_InvalidValues___init__ := f_InvalidValues___init__
    d_InvalidValues___init__ := PySem.W.fnOf "__init__" "InvalidValues.__init__" (defArgs s_InvalidValues___init__) (defBody s_InvalidValues___init__) (defScope s_InvalidValues___init__) .none kV_InvalidValues___init__ dc_InvalidValues___init__ pm_InvalidValues___init__ an_InvalidValues___init__ cd_InvalidValues___init__ ct_InvalidValues___init__
    F_InvalidValues___init__ := fun_mk (st := s_InvalidValues___init__) l_InvalidValues___init__ q_InvalidValues___init__ k_InvalidValues___init__
    B_InvalidValues___init__ := (fun_mk (st := s_InvalidValues___init__) l_InvalidValues___init__ q_InvalidValues___init__ k_InvalidValues___init__).binds (ps := ["self", "index"]) fun _ _ _ _ _ _ us hl => match us, hl with | [_, _], _ => rfl
    ox_InvalidValues := ⟨⟨nm_InvalidValues, qn_InvalidValues, N_InvalidValues, bs_InvalidValues, bm_InvalidValues, sn_InvalidValues, sub_InvalidValues, ab_InvalidValues, col_InvalidValues, dd_InvalidValues, m0_InvalidValues, m1_InvalidValues, m2_InvalidValues, m3_InvalidValues, m5_InvalidValues, xl_InvalidValues, rv_InvalidValues⟩, sa_InvalidValues, be_InvalidValues, ty_InvalidValues, kc_InvalidValues⟩
    iC_InvalidValues := a_InvalidValues___init__
    tI_InvalidValues := isFn_ty i_InvalidValues___init__
    nf_InvalidValues_index := nf_InvalidValues_index
    xfc_InvalidValues := ⟨xg_InvalidValues, xh_InvalidValues, be_InvalidValues, xd_InvalidValues⟩
    xic_InvalidValues := ⟨xc_InvalidValues, xg_InvalidValues, xh_InvalidValues, be_InvalidValues, xa_InvalidValues, xn_class, xt_class, xm_InvalidValues⟩
    f_InvalidWidth___init__ := f_InvalidWidth___init__
    d_InvalidWidth___init__ := PySem.W.fnOf "__init__" "InvalidWidth.__init__" (defArgs s_InvalidWidth___init__) (defBody s_InvalidWidth___init__) (defScope s_InvalidWidth___init__) .none kV_InvalidWidth___init__ dc_InvalidWidth___init__ pm_InvalidWidth___init__ an_InvalidWidth___init__ cd_InvalidWidth___init__ ct_InvalidWidth___init__
    F_InvalidWidth___init__ := fun_mk (st := s_InvalidWidth___init__) l_InvalidWidth___init__ q_InvalidWidth___init__ k_InvalidWidth___init__
    B_InvalidWidth___init__ := (fun_mk (st := s_InvalidWidth___init__) l_InvalidWidth___init__ q_InvalidWidth___init__ k_InvalidWidth___init__).binds (ps := ["self", "value"]) fun _ _ _ _ _ _ us hl => match us, hl with | [_, _], _ => rfl
    ox_InvalidWidth := ⟨⟨nm_InvalidWidth, qn_InvalidWidth, N_InvalidWidth, bs_InvalidWidth, bm_InvalidWidth, sn_InvalidWidth, sub_InvalidWidth, ab_InvalidWidth, col_InvalidWidth, dd_InvalidWidth, m0_InvalidWidth, m1_InvalidWidth, m2_InvalidWidth, m3_InvalidWidth, m5_InvalidWidth, xl_InvalidWidth, rv_InvalidWidth⟩, sa_InvalidWidth, be_InvalidWidth, ty_InvalidWidth, kc_InvalidWidth⟩
    iC_InvalidWidth := a_InvalidWidth___init__
    tI_InvalidWidth := isFn_ty i_InvalidWidth___init__
    nf_InvalidWidth_value := nf_InvalidWidth_value
    xic_InvalidWidth := ⟨xc_InvalidWidth, xg_InvalidWidth, xh_InvalidWidth, be_InvalidWidth, xa_InvalidWidth, xn_class, xt_class, xm_InvalidWidth⟩
    em_InvalidStep_InvalidValues := PySem.W.exm_ref hb_InvalidValues hh_InvalidValues ht_InvalidValues es_InvalidStep_InvalidValues
    em_InvalidValues_InvalidValues := PySem.W.exm_ref hb_InvalidValues hh_InvalidValues ht_InvalidValues es_InvalidValues_InvalidValues
    em_InvalidWidth_InvalidValues := PySem.W.exm_ref hb_InvalidValues hh_InvalidValues ht_InvalidValues es_InvalidWidth_InvalidValues
    ko_InvalidStep_InvalidStep := kit_ref kl_InvalidStep kt_InvalidStep ks_InvalidStep_InvalidStep fun z => nomatch z
    ko_InvalidValues_InvalidStep := kit_ref kl_InvalidStep kt_InvalidStep ks_InvalidValues_InvalidStep fun _ => kn_InvalidValues_InvalidStep
    ko_InvalidWidth_InvalidStep := kit_ref kl_InvalidStep kt_InvalidStep ks_InvalidWidth_InvalidStep fun _ => kn_InvalidWidth_InvalidStep
    ko_InvalidStep_NetworkError := kit_ref kl_NetworkError kt_NetworkError ks_InvalidStep_NetworkError fun z => nomatch z
    ko_InvalidValues_NetworkError := kit_ref kl_NetworkError kt_NetworkError ks_InvalidValues_NetworkError fun z => nomatch z
    ko_InvalidWidth_NetworkError := kit_ref kl_NetworkError kt_NetworkError ks_InvalidWidth_NetworkError fun z => nomatch z
    nst_InvalidValues := nst_InvalidValues
    z_abs := PySem.W.mg_none_of X G z_abs
    z_bool := PySem.W.mg_none_of X G z_bool
    z_enumerate := PySem.W.mg_none_of X G z_enumerate
    z_int := PySem.W.mg_none_of X G z_int
    z_isinstance := PySem.W.mg_none_of X G z_isinstance
    z_len := PySem.W.mg_none_of X G z_len
    z_list := PySem.W.mg_none_of X G z_list
    z_max := PySem.W.mg_none_of X G z_max
    z_min := PySem.W.mg_none_of X G z_min
    z_range := PySem.W.mg_none_of X G z_range
    z_sum := PySem.W.mg_none_of X G z_sum
    z_tuple := PySem.W.mg_none_of X G z_tuple
    z_zip := PySem.W.mg_none_of X G z_zip }
  exact ⟨T, fun base _ _ => ok_law T⟩
theorem walk_fact {P : Program} {w : World} {K : PySem.W.Frag} {mg : Str → Option Value} {fa : Addr} (h : ∃ (T : Tx K mg), ∀ base : Heap, K.In base → base.Ns mainGlobals mg → FnG P w K mg base (L2.CX P w) 8 fa (spM T.ca K m_law)) :
    ∃ (ca : Nat → Addr), ∀ base : Heap, K.In base → base.Ns mainGlobals mg → FnG P w K mg base (L2.CX P w) 8 fa (spM ca K m_law) :=
  let ⟨T, h1⟩ := h
  ⟨T.ca, h1⟩
end Lw06

namespace Lw06
open PySem (Str)
open DL Nw
local macro_rules | `(tactic| walk_at "g") => `(tactic| first | exact rfl | (with_reducible assumption))
local macro_rules | `(tactic| walk_at "s") => `(tactic| first | (with_reducible exact set_0) | ((with_reducible apply set_s); walk_at "s") | (with_reducible assumption) | exact rfl)
local macro_rules | `(tactic| walk_at "fl") => `(tactic| first | (with_reducible exact nums_frz _) | (with_reducible exact fzL_n) | ((with_reducible apply fzL_c); walk_at "f"; walk_at "fl") | (with_reducible assumption))
local macro_rules | `(tactic| walk_at "f") => `(tactic| first | (with_reducible exact fz_i) | (with_reducible exact fz_b) | (with_reducible exact fz_n) | (with_reducible exact fz_s) | (with_reducible exact fz_l) | (with_reducible exact fz_t) | ((with_reducible apply fz_lst); walk_at "fl") | ((with_reducible apply fz_tup); walk_at "fl") | (with_reducible assumption) | exact rfl)
local macro_rules | `(tactic| walk_at "k") => `(tactic| first | (with_reducible assumption) | (with_reducible exact rfl) | omega | (intro z; omega) | decide)
local macro_rules | `(tactic| walk_at "d") => `(tactic| first | (with_reducible exact od_val) | (with_reducible exact od_newL) | (with_reducible exact od_newT) | ((with_reducible apply od_eq); first | (with_reducible exact rfl) | ((with_reducible apply nbl_n); walk_at "k") | ((with_reducible apply bl_n); walk_at "k") | ((with_reducible apply bl_y); walk_at "k") | ((with_reducible apply nbl_y); walk_at "k")))
local macro_rules | `(tactic| walk_at "h") => `(tactic| first | (with_reducible assumption) | (simp only [List.nil_append, List.cons_append]; with_reducible assumption))
local macro_rules | `(tactic| walk_at "o") => `(tactic| first | (with_reducible assumption) | (with_reducible exact add_i) | (with_reducible exact sub_i) | (with_reducible exact lt_i) | (with_reducible exact le_i) | (with_reducible exact gt_i) | (with_reducible exact ge_i) | (with_reducible exact int_i) | (with_reducible exact int_b) | (with_reducible exact abs_i) | (with_reducible exact neg_i) | (with_reducible exact oLen_l) | (with_reducible exact oLen_scr _) | (with_reducible exact len_t) | (with_reducible exact tup_t) | (with_reducible exact oSorted_l) | (with_reducible exact oSum_nums _ _) | (with_reducible exact eq_of (pEq_int _ _)) | (with_reducible exact ne_of (pNe_int _ _)) | (with_reducible exact eq_of (pEq_lst _ _ _ _)) | (with_reducible exact ne_of (pNe_lst _ _ _ _)) | (with_reducible exact eq_of (pEq_tup _ _)) | (with_reducible exact ne_of (pNe_tup _ _)) | (with_reducible exact eq_of (pEq_bl _ _)) | (with_reducible exact ne_of (pNe_bl _ _)) | ((with_reducible apply lst_o); omega) | ((with_reducible apply lst_t); omega) | ((with_reducible apply tup_l); omega) | ((with_reducible apply oMod_v); omega) | ((with_reducible apply oDiv_v); omega; omega) | ((with_reducible apply oDiv_w); omega; omega) | ((with_reducible apply oMul_v); omega) | ((with_reducible apply oMul_l); omega) | ((with_reducible apply oIx_nums); omega; omega) | ((with_reducible apply oIx_tup); omega; omega))
local macro_rules | `(tactic| walk_at "a") => `(tactic| first | (with_reducible exact xANil) | ((with_reducible apply xACons); walk_at "e"; walk_at "a"))
local macro_rules | `(tactic| walk_at "it") => `(tactic| first | (with_reducible exact lst_it) | (with_reducible exact tup_it) | exact rfl)
local macro_rules | `(tactic| walk_at "cd") => `(tactic| first | (with_reducible exact nums_colds _) | (with_reducible exact colds_range _ _) | (with_reducible assumption) | exact rfl)
local macro_rules | `(tactic| walk_at "w") => `(tactic| first | ((with_reducible apply wE); walk_at "e"; walk_at "it"; walk_at "cd") | (with_reducible assumption))
local macro_rules | `(tactic| walk_at "e") => `(tactic| first | (with_reducible assumption) | (with_reducible exact xC) | ((with_reducible apply xN); walk_at "g"; exact rfl) | ((with_reducible apply xNf); walk_at "g"; exact rfl; walk_at "f"; walk_at "s") | ((with_reducible apply xMv); walk_at "g"; walk_at "s") | ((with_reducible apply xOvv); walk_at "e"; walk_at "e"; walk_at "o"; walk_at "d") | ((with_reducible apply xOvs); walk_at "e"; walk_at "g"; walk_at "o"; walk_at "d") | ((with_reducible apply xOsv); walk_at "g"; walk_at "e"; walk_at "g"; walk_at "o"; walk_at "d") | ((with_reducible apply xOss); walk_at "g"; walk_at "g"; walk_at "o"; walk_at "d") | ((with_reducible apply xOv); walk_at "e"; walk_at "o"; walk_at "d") | ((with_reducible apply xOs); walk_at "g"; walk_at "o"; walk_at "d") | ((with_reducible apply xCall); walk_at "a"; walk_at "h") | ((with_reducible apply xCallL); walk_at "a"; walk_at "g"; walk_at "a"; walk_at "g"; exact rfl; walk_at "h"; exact rfl; walk_at "s") | ((with_reducible apply xCallLc); walk_at "a"; walk_at "g"; walk_at "a"; walk_at "g"; exact rfl; walk_at "h") | ((with_reducible apply xMake); walk_at "a"; walk_at "h") | ((with_reducible apply xFz); walk_at "e"; walk_at "f") | ((with_reducible apply xMth); walk_at "e"; walk_at "m"; walk_at "a"; walk_at "h") | ((with_reducible apply xLst); walk_at "a"; exact rfl) | ((with_reducible apply xTup); walk_at "a"; exact rfl; walk_at "fl") | ((with_reducible apply xNot); walk_at "e") | ((with_reducible apply xAndB); walk_at "e"; walk_at "e") | ((with_reducible apply xOrB); walk_at "e"; walk_at "e") | ((with_reducible apply xIfT); walk_at "c"; walk_at "e") | ((with_reducible apply xIfF); walk_at "c"; walk_at "e") | ((with_reducible apply xApp); walk_at "g"; exact rfl; walk_at "e"; walk_at "g"; walk_at "n"; walk_at "s") | ((with_reducible apply xExt); walk_at "g"; exact rfl; walk_at "e"; walk_at "g"; walk_at "n"; walk_at "s") | ((with_reducible apply xExtT); walk_at "g"; exact rfl; walk_at "e"; walk_at "g"; walk_at "n"; walk_at "s") | ((with_reducible apply xMtS); walk_at "g"; exact rfl; walk_at "g"; walk_at "o"; walk_at "d") | ((with_reducible apply xEqI); walk_at "e"; walk_at "e"; exact rfl; exact rfl; walk_at "h"; walk_at "i") | ((with_reducible apply xLenI); walk_at "e"; exact rfl; walk_at "h"; walk_at "n"))
local macro_rules | `(tactic| walk_at "i") => `(tactic| first | exact rfl | (show D.bl (decide _) = _; apply bl_y; walk_at "k") | (show D.bl (!decide _) = _; apply nbl_n; walk_at "k"))
local macro_rules | `(tactic| walk_at "n") => `(tactic| first | (simp only [nums_len, List.length_append, List.length_cons, List.length_nil]; omega) | omega | exact rfl)
local macro_rules | `(tactic| walk_at "c") => `(tactic| first | ((with_reducible apply cE); walk_at "e") | ((with_reducible apply cNotF); walk_at "c") | ((with_reducible apply cNotT); walk_at "c") | ((with_reducible apply cOrT); walk_at "c") | ((with_reducible apply cAndF); walk_at "c") | ((with_reducible apply cOrF); walk_at "c"; walk_at "c") | ((with_reducible apply cAndT); walk_at "c"; walk_at "c"))
local macro_rules | `(tactic| walk_at "t") => `(tactic| first | ((with_reducible apply gN_r); walk_at "s") | ((with_reducible apply gIx_r); exact rfl; walk_at "g"; walk_at "e"; walk_at "g"; walk_at "j"; walk_at "s"))
local macro_rules | `(tactic| walk_at "j") => `(tactic| first | exact rfl | (simp only [nums_len]; apply ixN_nat <;> omega))
local macro_rules | `(tactic| walk_at "z") => `(tactic| first | ((with_reducible apply zAsg); walk_at "e"; walk_at "t") | ((with_reducible apply zExpr); walk_at "e") | ((with_reducible apply zRet); walk_at "e") | ((with_reducible apply zPar); walk_at "a"; walk_at "s"; walk_at "s") | ((with_reducible apply zAug); walk_at "g"; exact rfl; walk_at "e"; walk_at "o"; walk_at "s") | (with_reducible exact zSkip) | ((with_reducible apply zNo); walk_at "c"; walk_at "z") | ((with_reducible apply zYes); walk_at "c"; walk_at "z") | ((with_reducible apply zSeq); walk_at "z"; walk_at "z") | ((with_reducible apply zSeqR); walk_at "z"))
local macro_rules | `(tactic| walk_at "m") => `(tactic| first | (with_reducible assumption) | exact rfl)
theorem fw_ne : (("own_width" : Str) = "own_steps") = False := eq_false (by decide +kernel)
theorem fs_ne : (("own_steps" : Str) = "own_width") = False := eq_false (by decide +kernel)
theorem fs_beq : (("own_steps" : Str) == "own_width") = false := by decide +kernel
abbrev net (o : Bool) (w : Int) (ss : List Int) : D := .ins o 0 [("own_width", .int w), ("own_steps", .tup (nums ss))]
theorem is_integer_ok (a lo hi : Int) : m_is_integer [.int a, .int lo, .int hi] = .ok (.bl (decide (lo ≤ a ∧ a ≤ hi))) [some (.int a), some (.int lo), some (.int hi)] := by
  by_cases h1 : lo ≤ a <;> by_cases h2 : a ≤ hi <;> simp [m_is_integer, b_is_integer, h1, h2, fn, sSeq, SR.thn, sAsg, sExpr, sRet, sRetN, sIf, sNext, sFail, sBrk, sCont, Res.toS, Res.toN, Res.bind, tE, tNotM, tOrM, tAndM, tYesM, eC, eN, eMv, eOp, opds, eAnd, eOr, eNot, eIf, eChain, aNil, aCons, eLst, eTup, eCall, eCallL, eFz, eLc, eLc2, eApp, isLst, wipeS, eMake, eEqI, insC, keepL, getS, gN, gIx, gT, gTupM, sPar, sFor, iR1, iR2, iRD, iE, iEn, iEnT, iEnA, iEA, oIsiB, noScr, tyName, f2, pLe, pLt, pGe, pGt, oAdd, oSub, oMul, oMod, oDiv, oPow, oNeg, oAbs, oInt, oMax2, oMin2, oLen, items, lstItems, tupItems, hot, cold, Out.d, frz, frzL, frzF, List.range, List.range.loop, isN, oIsN, oNotN, oIsB, oNotB, pEq_int, pNe_int, pEq_bl, pNe_bl, pEq_lst, pNe_lst, pEq_tup, pNe_tup, kb_NoneType_int, kb_NoneType_bool, kb_NoneType_list, kb_NoneType_tuple, kb_NoneType_str, kb_bool_int, kb_bool_bool, kb_bool_list, kb_bool_tuple, kb_bool_str, kb_int_int, kb_int_bool, kb_int_list, kb_int_tuple, kb_int_str, kb_str_int, kb_str_bool, kb_str_list, kb_str_tuple, kb_str_str, kb_list_int, kb_list_bool, kb_list_list, kb_list_tuple, kb_list_str, kb_tuple_int, kb_tuple_bool, kb_tuple_list, kb_tuple_tuple, kb_tuple_str, kb_dict_int, kb_dict_bool, kb_dict_list, kb_dict_tuple, kb_dict_str]
theorem is_any_ok (a : Int) : m_is_any_integer [.int a] = .ok (.bl true) [some (.int a)] := by
  simp [m_is_any_integer, b_is_any_integer, fn, sSeq, SR.thn, sAsg, sExpr, sRet, sRetN, sIf, sNext, sFail, sBrk, sCont, Res.toS, Res.toN, Res.bind, tE, tNotM, tOrM, tAndM, tYesM, eC, eN, eMv, eOp, opds, eAnd, eOr, eNot, eIf, eChain, aNil, aCons, eLst, eTup, eCall, eCallL, eFz, eLc, eLc2, eApp, isLst, wipeS, eMake, eEqI, insC, keepL, getS, gN, gIx, gT, gTupM, sPar, sFor, iR1, iR2, iRD, iE, iEn, iEnT, iEnA, iEA, oIsiB, noScr, tyName, f2, pLe, pLt, pGe, pGt, oAdd, oSub, oMul, oMod, oDiv, oPow, oNeg, oAbs, oInt, oMax2, oMin2, oLen, items, lstItems, tupItems, hot, cold, Out.d, frz, frzL, frzF, List.range, List.range.loop, isN, oIsN, oNotN, oIsB, oNotB, pEq_int, pNe_int, pEq_bl, pNe_bl, pEq_lst, pNe_lst, pEq_tup, pNe_tup, kb_NoneType_int, kb_NoneType_bool, kb_NoneType_list, kb_NoneType_tuple, kb_NoneType_str, kb_bool_int, kb_bool_bool, kb_bool_list, kb_bool_tuple, kb_bool_str, kb_int_int, kb_int_bool, kb_int_list, kb_int_tuple, kb_int_str, kb_str_int, kb_str_bool, kb_str_list, kb_str_tuple, kb_str_str, kb_list_int, kb_list_bool, kb_list_list, kb_list_tuple, kb_list_str, kb_tuple_int, kb_tuple_bool, kb_tuple_list, kb_tuple_tuple, kb_tuple_str, kb_dict_int, kb_dict_bool, kb_dict_list, kb_dict_tuple, kb_dict_str]
theorem check_width_ok {w : Int} (h1 : 1 ≤ w) (h2 : w ≤ 40) : m_check_width [.int w] = .ok .non [some (.int w)] := by
  simp [m_check_width, b_check_width, is_integer_ok, h1, h2, fn, sSeq, SR.thn, sAsg, sExpr, sRet, sRetN, sIf, sNext, sFail, sBrk, sCont, Res.toS, Res.toN, Res.bind, tE, tNotM, tOrM, tAndM, tYesM, eC, eN, eMv, eOp, opds, eAnd, eOr, eNot, eIf, eChain, aNil, aCons, eLst, eTup, eCall, eCallL, eFz, eLc, eLc2, eApp, isLst, wipeS, eMake, eEqI, insC, keepL, getS, gN, gIx, gT, gTupM, sPar, sFor, iR1, iR2, iRD, iE, iEn, iEnT, iEnA, iEA, oIsiB, noScr, tyName, f2, pLe, pLt, pGe, pGt, oAdd, oSub, oMul, oMod, oDiv, oPow, oNeg, oAbs, oInt, oMax2, oMin2, oLen, items, lstItems, tupItems, hot, cold, Out.d, frz, frzL, frzF, List.range, List.range.loop, isN, oIsN, oNotN, oIsB, oNotB, pEq_int, pNe_int, pEq_bl, pNe_bl, pEq_lst, pNe_lst, pEq_tup, pNe_tup, kb_NoneType_int, kb_NoneType_bool, kb_NoneType_list, kb_NoneType_tuple, kb_NoneType_str, kb_bool_int, kb_bool_bool, kb_bool_list, kb_bool_tuple, kb_bool_str, kb_int_int, kb_int_bool, kb_int_list, kb_int_tuple, kb_int_str, kb_str_int, kb_str_bool, kb_str_list, kb_str_tuple, kb_str_str, kb_list_int, kb_list_bool, kb_list_list, kb_list_tuple, kb_list_str, kb_tuple_int, kb_tuple_bool, kb_tuple_list, kb_tuple_tuple, kb_tuple_str, kb_dict_int, kb_dict_bool, kb_dict_list, kb_dict_tuple, kb_dict_str]
theorem okS_at {w : Int} {ss : List Int} {i : Nat} {s : Int} (h : okS w ss) (e : ss[i]? = some s) : 1 ≤ s ∧ s ≤ w - 1 := h s (List.mem_of_getElem? e)
theorem check_steps_ok {w : Int} {ss : List Int} (h : okS w ss) (hl : ss.length ≤ 1000) : m_check_steps [.int w, .lst false (nums ss)] = .ok .non [some (.int w), some (.lst false (nums ss))] := by
  obtain ⟨st', e, x, y, hst⟩ := forD_ok (g := fg1_check_steps) (body := fb1_check_steps) (fun _ st => ∃ x y, st = [some (.int w), some (.lst false (nums ss)), x, y]) (enumD 0 (nums ss)) 0
    [some (.int w), some (.lst false (nums ss)), none, none] ⟨none, none, rfl⟩ (fun i d st e hI => by
      obtain ⟨x, y, rfl⟩ := hI
      obtain ⟨d', e1, rfl⟩ := enumD_get e
      obtain ⟨s, e2, rfl⟩ := nums_get e1
      obtain ⟨h1, h2⟩ := okS_at h e2
      refine ⟨_, [some (.int w), some (.lst false (nums ss)), some (.int ((0 + i : Nat) : Int)), some (.int s)], rfl, .inl ?_, _, _, rfl⟩
      have h3 : s ≤ w - 1 := h2
      simp [fb1_check_steps, is_integer_ok, h1, h3, fn, sSeq, SR.thn, sAsg, sExpr, sRet, sRetN, sIf, sNext, sFail, sBrk, sCont, Res.toS, Res.toN, Res.bind, tE, tNotM, tOrM, tAndM, tYesM, eC, eN, eMv, eOp, opds, eAnd, eOr, eNot, eIf, eChain, aNil, aCons, eLst, eTup, eCall, eCallL, eFz, eLc, eLc2, eApp, isLst, wipeS, eMake, eEqI, insC, keepL, getS, gN, gIx, gT, gTupM, sPar, sFor, iR1, iR2, iRD, iE, iEn, iEnT, iEnA, iEA, oIsiB, noScr, tyName, f2, pLe, pLt, pGe, pGt, oAdd, oSub, oMul, oMod, oDiv, oPow, oNeg, oAbs, oInt, oMax2, oMin2, oLen, items, lstItems, tupItems, hot, cold, Out.d, frz, frzL, frzF, List.range, List.range.loop, isN, oIsN, oNotN, oIsB, oNotB, pEq_int, pNe_int, pEq_bl, pNe_bl, pEq_lst, pNe_lst, pEq_tup, pNe_tup, kb_NoneType_int, kb_NoneType_bool, kb_NoneType_list, kb_NoneType_tuple, kb_NoneType_str, kb_bool_int, kb_bool_bool, kb_bool_list, kb_bool_tuple, kb_bool_str, kb_int_int, kb_int_bool, kb_int_list, kb_int_tuple, kb_int_str, kb_str_int, kb_str_bool, kb_str_list, kb_str_tuple, kb_str_str, kb_list_int, kb_list_bool, kb_list_list, kb_list_tuple, kb_list_str, kb_tuple_int, kb_tuple_bool, kb_tuple_list, kb_tuple_tuple, kb_tuple_str, kb_dict_int, kb_dict_bool, kb_dict_list, kb_dict_tuple, kb_dict_str])
  subst hst
  have h4 : ¬ (1000 < (ss.length : Int)) := by omega
  simp [m_check_steps, b_check_steps, oIsi2, nums_len, nums_colds, e, h4, fn, sSeq, SR.thn, sAsg, sExpr, sRet, sRetN, sIf, sNext, sFail, sBrk, sCont, Res.toS, Res.toN, Res.bind, tE, tNotM, tOrM, tAndM, tYesM, eC, eN, eMv, eOp, opds, eAnd, eOr, eNot, eIf, eChain, aNil, aCons, eLst, eTup, eCall, eCallL, eFz, eLc, eLc2, eApp, isLst, wipeS, eMake, eEqI, insC, keepL, getS, gN, gIx, gT, gTupM, sPar, sFor, iR1, iR2, iRD, iE, iEn, iEnT, iEnA, iEA, oIsiB, noScr, tyName, f2, pLe, pLt, pGe, pGt, oAdd, oSub, oMul, oMod, oDiv, oPow, oNeg, oAbs, oInt, oMax2, oMin2, oLen, items, lstItems, tupItems, hot, cold, Out.d, frz, frzL, frzF, List.range, List.range.loop, isN, oIsN, oNotN, oIsB, oNotB, pEq_int, pNe_int, pEq_bl, pNe_bl, pEq_lst, pNe_lst, pEq_tup, pNe_tup, kb_NoneType_int, kb_NoneType_bool, kb_NoneType_list, kb_NoneType_tuple, kb_NoneType_str, kb_bool_int, kb_bool_bool, kb_bool_list, kb_bool_tuple, kb_bool_str, kb_int_int, kb_int_bool, kb_int_list, kb_int_tuple, kb_int_str, kb_str_int, kb_str_bool, kb_str_list, kb_str_tuple, kb_str_str, kb_list_int, kb_list_bool, kb_list_list, kb_list_tuple, kb_list_str, kb_tuple_int, kb_tuple_bool, kb_tuple_list, kb_tuple_tuple, kb_tuple_str, kb_dict_int, kb_dict_bool, kb_dict_list, kb_dict_tuple, kb_dict_str]
theorem init_ok {w : Int} {ss : List Int} (h1 : 1 ≤ w) (h2 : w ≤ 40) (h : okS w ss) (hl : ss.length ≤ 1000) (o : Bool) : ∃ ps, m_Network___init__ [.ins true 0 [], .int w, .lst o (nums ss)] = .ok .non (some (net true w ss) :: ps) := by
  have h3 : ss.length ≤ 16777216 := by omega
  cases o <;> simp [m_Network___init__, b_Network___init__, check_width_ok h1 h2, check_steps_ok h hl, sFldM, oTuple, putD, fw_ne, fs_ne, nums_frz, nums_len, nums_colds, h3, net, fn, sSeq, SR.thn, sAsg, sExpr, sRet, sRetN, sIf, sNext, sFail, sBrk, sCont, Res.toS, Res.toN, Res.bind, tE, tNotM, tOrM, tAndM, tYesM, eC, eN, eMv, eOp, opds, eAnd, eOr, eNot, eIf, eChain, aNil, aCons, eLst, eTup, eCall, eCallL, eFz, eLc, eLc2, eApp, isLst, wipeS, eMake, eEqI, insC, keepL, getS, gN, gIx, gT, gTupM, sPar, sFor, iR1, iR2, iRD, iE, iEn, iEnT, iEnA, iEA, oIsiB, noScr, tyName, f2, pLe, pLt, pGe, pGt, oAdd, oSub, oMul, oMod, oDiv, oPow, oNeg, oAbs, oInt, oMax2, oMin2, oLen, items, lstItems, tupItems, hot, cold, Out.d, frz, frzL, frzF, List.range, List.range.loop, isN, oIsN, oNotN, oIsB, oNotB, pEq_int, pNe_int, pEq_bl, pNe_bl, pEq_lst, pNe_lst, pEq_tup, pNe_tup, kb_NoneType_int, kb_NoneType_bool, kb_NoneType_list, kb_NoneType_tuple, kb_NoneType_str, kb_bool_int, kb_bool_bool, kb_bool_list, kb_bool_tuple, kb_bool_str, kb_int_int, kb_int_bool, kb_int_list, kb_int_tuple, kb_int_str, kb_str_int, kb_str_bool, kb_str_list, kb_str_tuple, kb_str_str, kb_list_int, kb_list_bool, kb_list_list, kb_list_tuple, kb_list_str, kb_tuple_int, kb_tuple_bool, kb_tuple_list, kb_tuple_tuple, kb_tuple_str, kb_dict_int, kb_dict_bool, kb_dict_list, kb_dict_tuple, kb_dict_str]
theorem step_on_ok {l : List Int} {s : Int} (h1 : 1 ≤ s) (h2 : s < l.length) : m_step_on [.lst true (nums l), .int s] = .ok (.bl (hit l s)) [some (.lst true (nums (stp l s))), some (.int s)] := by
  have a1 : oIx [.lst true (nums l), .int (s - 1)] = some (.val (.int (l.getD (s - 1).toNat 0))) := oIx_nums (by omega) (by omega)
  have a2 : oIx [.lst true (nums l), .int s] = some (.val (.int (l.getD s.toNat 0))) := oIx_nums (by omega) h2
  have a3 : L2.ixN (nums l).length (s - 1) = some (s - 1).toNat := by rw [nums_len]; exact ixN_nat (by omega) (by omega)
  have a4 : L2.ixN (nums (l.set (s - 1).toNat (l.getD s.toNat 0))).length s = some s.toNat := by rw [nums_len, List.length_set]; exact ixN_nat (by omega) h2
  have d1 : stp l s = if hit l s then (l.set (s - 1).toNat (l.getD s.toNat 0)).set s.toNat (l.getD (s - 1).toNat 0) else l := rfl
  have d2 : hit l s = decide (l.getD s.toNat 0 < l.getD (s - 1).toNat 0) := rfl
  rw [d1, d2]
  clear d1 d2
  generalize l.getD (s - 1).toNat 0 = p at *
  generalize l.getD s.toNat 0 = q at *
  generalize (s - 1).toNat = i at *
  generalize s.toNat = j at *
  by_cases h : q < p
  · have h5 : ¬ (p ≤ q) := by omega
    simp [m_step_on, b_step_on, a1, a2, a3, a4, h5, h, nums_set, fn, sSeq, SR.thn, sAsg, sExpr, sRet, sRetN, sIf, sNext, sFail, sBrk, sCont, Res.toS, Res.toN, Res.bind, tE, tNotM, tOrM, tAndM, tYesM, eC, eN, eMv, eOp, opds, eAnd, eOr, eNot, eIf, eChain, aNil, aCons, eLst, eTup, eCall, eCallL, eFz, eLc, eLc2, eApp, isLst, wipeS, eMake, eEqI, insC, keepL, getS, gN, gIx, gT, gTupM, sPar, sFor, iR1, iR2, iRD, iE, iEn, iEnT, iEnA, iEA, oIsiB, noScr, tyName, f2, pLe, pLt, pGe, pGt, oAdd, oSub, oMul, oMod, oDiv, oPow, oNeg, oAbs, oInt, oMax2, oMin2, oLen, items, lstItems, tupItems, hot, cold, Out.d, frz, frzL, frzF, List.range, List.range.loop, isN, oIsN, oNotN, oIsB, oNotB, pEq_int, pNe_int, pEq_bl, pNe_bl, pEq_lst, pNe_lst, pEq_tup, pNe_tup, kb_NoneType_int, kb_NoneType_bool, kb_NoneType_list, kb_NoneType_tuple, kb_NoneType_str, kb_bool_int, kb_bool_bool, kb_bool_list, kb_bool_tuple, kb_bool_str, kb_int_int, kb_int_bool, kb_int_list, kb_int_tuple, kb_int_str, kb_str_int, kb_str_bool, kb_str_list, kb_str_tuple, kb_str_str, kb_list_int, kb_list_bool, kb_list_list, kb_list_tuple, kb_list_str, kb_tuple_int, kb_tuple_bool, kb_tuple_list, kb_tuple_tuple, kb_tuple_str, kb_dict_int, kb_dict_bool, kb_dict_list, kb_dict_tuple, kb_dict_str]
  · have h5 : p ≤ q := by omega
    simp [m_step_on, b_step_on, a1, a2, h5, h, fn, sSeq, SR.thn, sAsg, sExpr, sRet, sRetN, sIf, sNext, sFail, sBrk, sCont, Res.toS, Res.toN, Res.bind, tE, tNotM, tOrM, tAndM, tYesM, eC, eN, eMv, eOp, opds, eAnd, eOr, eNot, eIf, eChain, aNil, aCons, eLst, eTup, eCall, eCallL, eFz, eLc, eLc2, eApp, isLst, wipeS, eMake, eEqI, insC, keepL, getS, gN, gIx, gT, gTupM, sPar, sFor, iR1, iR2, iRD, iE, iEn, iEnT, iEnA, iEA, oIsiB, noScr, tyName, f2, pLe, pLt, pGe, pGt, oAdd, oSub, oMul, oMod, oDiv, oPow, oNeg, oAbs, oInt, oMax2, oMin2, oLen, items, lstItems, tupItems, hot, cold, Out.d, frz, frzL, frzF, List.range, List.range.loop, isN, oIsN, oNotN, oIsB, oNotB, pEq_int, pNe_int, pEq_bl, pNe_bl, pEq_lst, pNe_lst, pEq_tup, pNe_tup, kb_NoneType_int, kb_NoneType_bool, kb_NoneType_list, kb_NoneType_tuple, kb_NoneType_str, kb_bool_int, kb_bool_bool, kb_bool_list, kb_bool_tuple, kb_bool_str, kb_int_int, kb_int_bool, kb_int_list, kb_int_tuple, kb_int_str, kb_str_int, kb_str_bool, kb_str_list, kb_str_tuple, kb_str_str, kb_list_int, kb_list_bool, kb_list_list, kb_list_tuple, kb_list_str, kb_tuple_int, kb_tuple_bool, kb_tuple_list, kb_tuple_tuple, kb_tuple_str, kb_dict_int, kb_dict_bool, kb_dict_list, kb_dict_tuple, kb_dict_str]
theorem oFld_w {o : Bool} {w : Int} {ss : List Int} : oFld 0 "own_width" [net o w ss] = some (.val (.int w)) := by
  simp [oFld, cold, hot]
theorem oFld_s {o : Bool} {w : Int} {ss : List Int} : oFld 0 "own_steps" [net o w ss] = some (.val (.tup (nums ss))) := by
  simp [oFld, List.lookup, fs_beq, cold, hot]
theorem take_snoc {ss : List Int} {i : Nat} {s : Int} (e : ss[i]? = some s) : ss.take (i + 1) = ss.take i ++ [s] := by
  rw [List.take_succ, e]; rfl
theorem result_of_ok {ss l : List Int} {o : Bool} (h : okS l.length ss) (hl : l.length ≤ 1000) : m_result_of [.tup (nums ss), .lst o (nums l)] = .ok (.lst true (nums (runL ss l))) [some (.tup (nums ss)), some (.lst o (nums l))] := by
  obtain ⟨st', e, x, hst⟩ := forD_ok (g := fg1_result_of) (body := fb1_result_of) (fun i st => ∃ x, st = [some (.tup (nums ss)), some (.lst o (nums l)), some (.lst true (nums (runL (ss.take i) l))), x]) (nums ss) 0
    [some (.tup (nums ss)), some (.lst o (nums l)), some (.lst true (nums l)), none] ⟨none, rfl⟩ (fun i d st e hI => by
      obtain ⟨x, rfl⟩ := hI
      obtain ⟨s, e2, rfl⟩ := nums_get e
      obtain ⟨h1, h2⟩ := okS_at h e2
      rw [Nat.zero_add, take_snoc e2, runL_snoc]
      have so := step_on_ok (l := runL (ss.take i) l) h1 (by rw [runL_len]; omega)
      refine ⟨_, [some (.tup (nums ss)), some (.lst o (nums l)), some (.lst true (nums (stp (runL (ss.take i) l) s))), some (.int s)], rfl, .inl ?_, _, rfl⟩
      simp [fb1_result_of, so, fn, sSeq, SR.thn, sAsg, sExpr, sRet, sRetN, sIf, sNext, sFail, sBrk, sCont, Res.toS, Res.toN, Res.bind, tE, tNotM, tOrM, tAndM, tYesM, eC, eN, eMv, eOp, opds, eAnd, eOr, eNot, eIf, eChain, aNil, aCons, eLst, eTup, eCall, eCallL, eFz, eLc, eLc2, eApp, isLst, wipeS, eMake, eEqI, insC, keepL, getS, gN, gIx, gT, gTupM, sPar, sFor, iR1, iR2, iRD, iE, iEn, iEnT, iEnA, iEA, oIsiB, noScr, tyName, f2, pLe, pLt, pGe, pGt, oAdd, oSub, oMul, oMod, oDiv, oPow, oNeg, oAbs, oInt, oMax2, oMin2, oLen, items, lstItems, tupItems, hot, cold, Out.d, frz, frzL, frzF, List.range, List.range.loop, isN, oIsN, oNotN, oIsB, oNotB, pEq_int, pNe_int, pEq_bl, pNe_bl, pEq_lst, pNe_lst, pEq_tup, pNe_tup, kb_NoneType_int, kb_NoneType_bool, kb_NoneType_list, kb_NoneType_tuple, kb_NoneType_str, kb_bool_int, kb_bool_bool, kb_bool_list, kb_bool_tuple, kb_bool_str, kb_int_int, kb_int_bool, kb_int_list, kb_int_tuple, kb_int_str, kb_str_int, kb_str_bool, kb_str_list, kb_str_tuple, kb_str_str, kb_list_int, kb_list_bool, kb_list_list, kb_list_tuple, kb_list_str, kb_tuple_int, kb_tuple_bool, kb_tuple_list, kb_tuple_tuple, kb_tuple_str, kb_dict_int, kb_dict_bool, kb_dict_list, kb_dict_tuple, kb_dict_str])
  rw [Nat.zero_add, nums_len, List.take_length] at hst
  subst hst
  have h3 : l.length ≤ 16777216 := by omega
  simp [m_result_of, b_result_of, oList, newLc, nums_colds, nums_len, h3, e, fn, sSeq, SR.thn, sAsg, sExpr, sRet, sRetN, sIf, sNext, sFail, sBrk, sCont, Res.toS, Res.toN, Res.bind, tE, tNotM, tOrM, tAndM, tYesM, eC, eN, eMv, eOp, opds, eAnd, eOr, eNot, eIf, eChain, aNil, aCons, eLst, eTup, eCall, eCallL, eFz, eLc, eLc2, eApp, isLst, wipeS, eMake, eEqI, insC, keepL, getS, gN, gIx, gT, gTupM, sPar, sFor, iR1, iR2, iRD, iE, iEn, iEnT, iEnA, iEA, oIsiB, noScr, tyName, f2, pLe, pLt, pGe, pGt, oAdd, oSub, oMul, oMod, oDiv, oPow, oNeg, oAbs, oInt, oMax2, oMin2, oLen, items, lstItems, tupItems, hot, cold, Out.d, frz, frzL, frzF, List.range, List.range.loop, isN, oIsN, oNotN, oIsB, oNotB, pEq_int, pNe_int, pEq_bl, pNe_bl, pEq_lst, pNe_lst, pEq_tup, pNe_tup, kb_NoneType_int, kb_NoneType_bool, kb_NoneType_list, kb_NoneType_tuple, kb_NoneType_str, kb_bool_int, kb_bool_bool, kb_bool_list, kb_bool_tuple, kb_bool_str, kb_int_int, kb_int_bool, kb_int_list, kb_int_tuple, kb_int_str, kb_str_int, kb_str_bool, kb_str_list, kb_str_tuple, kb_str_str, kb_list_int, kb_list_bool, kb_list_list, kb_list_tuple, kb_list_str, kb_tuple_int, kb_tuple_bool, kb_tuple_list, kb_tuple_tuple, kb_tuple_str, kb_dict_int, kb_dict_bool, kb_dict_list, kb_dict_tuple, kb_dict_str]
theorem check_integers_ok (l : List Int) : m_check_integers [.lst false (nums l)] = .ok .non [some (.lst false (nums l))] := by
  obtain ⟨st', e, x, y, hst⟩ := forD_ok (g := fg1_check_integers) (body := fb1_check_integers) (fun _ st => ∃ x y, st = [some (.lst false (nums l)), x, y]) (enumD 0 (nums l)) 0
    [some (.lst false (nums l)), none, none] ⟨none, none, rfl⟩ (fun i d st e hI => by
      obtain ⟨x, y, rfl⟩ := hI
      obtain ⟨d', e1, rfl⟩ := enumD_get e
      obtain ⟨s, e2, rfl⟩ := nums_get e1
      refine ⟨_, [some (.lst false (nums l)), some (.int ((0 + i : Nat) : Int)), some (.int s)], rfl, .inl ?_, _, _, rfl⟩
      simp [fb1_check_integers, is_any_ok, fn, sSeq, SR.thn, sAsg, sExpr, sRet, sRetN, sIf, sNext, sFail, sBrk, sCont, Res.toS, Res.toN, Res.bind, tE, tNotM, tOrM, tAndM, tYesM, eC, eN, eMv, eOp, opds, eAnd, eOr, eNot, eIf, eChain, aNil, aCons, eLst, eTup, eCall, eCallL, eFz, eLc, eLc2, eApp, isLst, wipeS, eMake, eEqI, insC, keepL, getS, gN, gIx, gT, gTupM, sPar, sFor, iR1, iR2, iRD, iE, iEn, iEnT, iEnA, iEA, oIsiB, noScr, tyName, f2, pLe, pLt, pGe, pGt, oAdd, oSub, oMul, oMod, oDiv, oPow, oNeg, oAbs, oInt, oMax2, oMin2, oLen, items, lstItems, tupItems, hot, cold, Out.d, frz, frzL, frzF, List.range, List.range.loop, isN, oIsN, oNotN, oIsB, oNotB, pEq_int, pNe_int, pEq_bl, pNe_bl, pEq_lst, pNe_lst, pEq_tup, pNe_tup, kb_NoneType_int, kb_NoneType_bool, kb_NoneType_list, kb_NoneType_tuple, kb_NoneType_str, kb_bool_int, kb_bool_bool, kb_bool_list, kb_bool_tuple, kb_bool_str, kb_int_int, kb_int_bool, kb_int_list, kb_int_tuple, kb_int_str, kb_str_int, kb_str_bool, kb_str_list, kb_str_tuple, kb_str_str, kb_list_int, kb_list_bool, kb_list_list, kb_list_tuple, kb_list_str, kb_tuple_int, kb_tuple_bool, kb_tuple_list, kb_tuple_tuple, kb_tuple_str, kb_dict_int, kb_dict_bool, kb_dict_list, kb_dict_tuple, kb_dict_str])
  subst hst
  simp [m_check_integers, b_check_integers, nums_colds, e, fn, sSeq, SR.thn, sAsg, sExpr, sRet, sRetN, sIf, sNext, sFail, sBrk, sCont, Res.toS, Res.toN, Res.bind, tE, tNotM, tOrM, tAndM, tYesM, eC, eN, eMv, eOp, opds, eAnd, eOr, eNot, eIf, eChain, aNil, aCons, eLst, eTup, eCall, eCallL, eFz, eLc, eLc2, eApp, isLst, wipeS, eMake, eEqI, insC, keepL, getS, gN, gIx, gT, gTupM, sPar, sFor, iR1, iR2, iRD, iE, iEn, iEnT, iEnA, iEA, oIsiB, noScr, tyName, f2, pLe, pLt, pGe, pGt, oAdd, oSub, oMul, oMod, oDiv, oPow, oNeg, oAbs, oInt, oMax2, oMin2, oLen, items, lstItems, tupItems, hot, cold, Out.d, frz, frzL, frzF, List.range, List.range.loop, isN, oIsN, oNotN, oIsB, oNotB, pEq_int, pNe_int, pEq_bl, pNe_bl, pEq_lst, pNe_lst, pEq_tup, pNe_tup, kb_NoneType_int, kb_NoneType_bool, kb_NoneType_list, kb_NoneType_tuple, kb_NoneType_str, kb_bool_int, kb_bool_bool, kb_bool_list, kb_bool_tuple, kb_bool_str, kb_int_int, kb_int_bool, kb_int_list, kb_int_tuple, kb_int_str, kb_str_int, kb_str_bool, kb_str_list, kb_str_tuple, kb_str_str, kb_list_int, kb_list_bool, kb_list_list, kb_list_tuple, kb_list_str, kb_tuple_int, kb_tuple_bool, kb_tuple_list, kb_tuple_tuple, kb_tuple_str, kb_dict_int, kb_dict_bool, kb_dict_list, kb_dict_tuple, kb_dict_str]
theorem check_values_ok {w : Int} {l : List Int} (h : (l.length : Int) = w) : m_check_values [.int w, .lst false (nums l)] = .ok .non [some (.int w), some (.lst false (nums l))] := by
  subst h
  simp [m_check_values, b_check_values, check_integers_ok, nums_len, fn, sSeq, SR.thn, sAsg, sExpr, sRet, sRetN, sIf, sNext, sFail, sBrk, sCont, Res.toS, Res.toN, Res.bind, tE, tNotM, tOrM, tAndM, tYesM, eC, eN, eMv, eOp, opds, eAnd, eOr, eNot, eIf, eChain, aNil, aCons, eLst, eTup, eCall, eCallL, eFz, eLc, eLc2, eApp, isLst, wipeS, eMake, eEqI, insC, keepL, getS, gN, gIx, gT, gTupM, sPar, sFor, iR1, iR2, iRD, iE, iEn, iEnT, iEnA, iEA, oIsiB, noScr, tyName, f2, pLe, pLt, pGe, pGt, oAdd, oSub, oMul, oMod, oDiv, oPow, oNeg, oAbs, oInt, oMax2, oMin2, oLen, items, lstItems, tupItems, hot, cold, Out.d, frz, frzL, frzF, List.range, List.range.loop, isN, oIsN, oNotN, oIsB, oNotB, pEq_int, pNe_int, pEq_bl, pNe_bl, pEq_lst, pNe_lst, pEq_tup, pNe_tup, kb_NoneType_int, kb_NoneType_bool, kb_NoneType_list, kb_NoneType_tuple, kb_NoneType_str, kb_bool_int, kb_bool_bool, kb_bool_list, kb_bool_tuple, kb_bool_str, kb_int_int, kb_int_bool, kb_int_list, kb_int_tuple, kb_int_str, kb_str_int, kb_str_bool, kb_str_list, kb_str_tuple, kb_str_str, kb_list_int, kb_list_bool, kb_list_list, kb_list_tuple, kb_list_str, kb_tuple_int, kb_tuple_bool, kb_tuple_list, kb_tuple_tuple, kb_tuple_str, kb_dict_int, kb_dict_bool, kb_dict_list, kb_dict_tuple, kb_dict_str]
theorem exchanges_ok {w : Int} {ss l : List Int} (h : okS w ss) (hw : (l.length : Int) = w) (hl : l.length ≤ 1000) (hs : ss.length ≤ 1000) (o : Bool) : ∃ ps, m_exchanges [net false w ss, .lst o (nums l)] = .ok (.lst true (nums (actI 0 ss l))) ps := by
  obtain ⟨st', e, x, y, hst⟩ := forD_ok (g := fg1_exchanges) (body := fb1_exchanges) (fun i st => ∃ x y, st = [some (net false w ss), some (.lst false (nums l)), some (.lst true (nums (runL (ss.take i) l))), some (.lst true (nums (actI 0 (ss.take i) l))), x, y]) (enumD 0 (nums ss)) 0
    [some (net false w ss), some (.lst false (nums l)), some (.lst true (nums l)), some (.lst true []), none, none] ⟨none, none, rfl⟩ (fun i d st e hI => by
      obtain ⟨x, y, rfl⟩ := hI
      obtain ⟨d', e1, rfl⟩ := enumD_get e
      obtain ⟨s, e2, rfl⟩ := nums_get e1
      obtain ⟨h1, h2⟩ := okS_at h e2
      have hi : i < ss.length := (List.getElem?_eq_some_iff.mp e2).1
      simp only [Nat.zero_add]
      rw [take_snoc e2, runL_snoc, actI_app]
      have so := step_on_ok (l := runL (ss.take i) l) h1 (by rw [runL_len]; omega)
      have e4 : actI (0 + (ss.take i).length) [s] (runL (ss.take i) l) = if hit (runL (ss.take i) l) s then [(i : Int)] else [] := by
        rw [Nat.zero_add, List.length_take, Nat.min_eq_left (by omega)]
        rfl
      rw [e4]
      have h5 : (actI 0 (ss.take i) l).length < 16777216 := by
        rw [actI_length]
        have := actS_length_le (ss.take i) l
        rw [List.length_take] at this
        omega
      refine ⟨_, [some (net false w ss), some (.lst false (nums l)), some (.lst true (nums (stp (runL (ss.take i) l) s))), some (.lst true (nums (actI 0 (ss.take i) l ++ if hit (runL (ss.take i) l) s then [(i : Int)] else []))), some (.int (i : Int)), some (.int s)], rfl, .inl ?_, _, _, rfl⟩
      cases hh : hit (runL (ss.take i) l) s with
      | true => simp [fb1_exchanges, so, hh, eApp, isLst, nums_len, h5, nums_app, nums_cons, nums_nil, fn, sSeq, SR.thn, sAsg, sExpr, sRet, sRetN, sIf, sNext, sFail, sBrk, sCont, Res.toS, Res.toN, Res.bind, tE, tNotM, tOrM, tAndM, tYesM, eC, eN, eMv, eOp, opds, eAnd, eOr, eNot, eIf, eChain, aNil, aCons, eLst, eTup, eCall, eCallL, eFz, eLc, eLc2, eApp, isLst, wipeS, eMake, eEqI, insC, keepL, getS, gN, gIx, gT, gTupM, sPar, sFor, iR1, iR2, iRD, iE, iEn, iEnT, iEnA, iEA, oIsiB, noScr, tyName, f2, pLe, pLt, pGe, pGt, oAdd, oSub, oMul, oMod, oDiv, oPow, oNeg, oAbs, oInt, oMax2, oMin2, oLen, items, lstItems, tupItems, hot, cold, Out.d, frz, frzL, frzF, List.range, List.range.loop, isN, oIsN, oNotN, oIsB, oNotB, pEq_int, pNe_int, pEq_bl, pNe_bl, pEq_lst, pNe_lst, pEq_tup, pNe_tup, kb_NoneType_int, kb_NoneType_bool, kb_NoneType_list, kb_NoneType_tuple, kb_NoneType_str, kb_bool_int, kb_bool_bool, kb_bool_list, kb_bool_tuple, kb_bool_str, kb_int_int, kb_int_bool, kb_int_list, kb_int_tuple, kb_int_str, kb_str_int, kb_str_bool, kb_str_list, kb_str_tuple, kb_str_str, kb_list_int, kb_list_bool, kb_list_list, kb_list_tuple, kb_list_str, kb_tuple_int, kb_tuple_bool, kb_tuple_list, kb_tuple_tuple, kb_tuple_str, kb_dict_int, kb_dict_bool, kb_dict_list, kb_dict_tuple, kb_dict_str]
      | false => simp [fb1_exchanges, so, hh, fn, sSeq, SR.thn, sAsg, sExpr, sRet, sRetN, sIf, sNext, sFail, sBrk, sCont, Res.toS, Res.toN, Res.bind, tE, tNotM, tOrM, tAndM, tYesM, eC, eN, eMv, eOp, opds, eAnd, eOr, eNot, eIf, eChain, aNil, aCons, eLst, eTup, eCall, eCallL, eFz, eLc, eLc2, eApp, isLst, wipeS, eMake, eEqI, insC, keepL, getS, gN, gIx, gT, gTupM, sPar, sFor, iR1, iR2, iRD, iE, iEn, iEnT, iEnA, iEA, oIsiB, noScr, tyName, f2, pLe, pLt, pGe, pGt, oAdd, oSub, oMul, oMod, oDiv, oPow, oNeg, oAbs, oInt, oMax2, oMin2, oLen, items, lstItems, tupItems, hot, cold, Out.d, frz, frzL, frzF, List.range, List.range.loop, isN, oIsN, oNotN, oIsB, oNotB, pEq_int, pNe_int, pEq_bl, pNe_bl, pEq_lst, pNe_lst, pEq_tup, pNe_tup, kb_NoneType_int, kb_NoneType_bool, kb_NoneType_list, kb_NoneType_tuple, kb_NoneType_str, kb_bool_int, kb_bool_bool, kb_bool_list, kb_bool_tuple, kb_bool_str, kb_int_int, kb_int_bool, kb_int_list, kb_int_tuple, kb_int_str, kb_str_int, kb_str_bool, kb_str_list, kb_str_tuple, kb_str_str, kb_list_int, kb_list_bool, kb_list_list, kb_list_tuple, kb_list_str, kb_tuple_int, kb_tuple_bool, kb_tuple_list, kb_tuple_tuple, kb_tuple_str, kb_dict_int, kb_dict_bool, kb_dict_list, kb_dict_tuple, kb_dict_str])
  rw [Nat.zero_add, enumD_length, nums_len, List.take_length] at hst
  subst hst
  have h3 : l.length ≤ 16777216 := by omega
  have cv := check_values_ok (l := l) hw
  cases o <;> simp [m_exchanges, b_exchanges, oFld_w, oFld_s, cv, oList, newLc, nums_colds, nums_frz, nums_len, h3, e, fn, sSeq, SR.thn, sAsg, sExpr, sRet, sRetN, sIf, sNext, sFail, sBrk, sCont, Res.toS, Res.toN, Res.bind, tE, tNotM, tOrM, tAndM, tYesM, eC, eN, eMv, eOp, opds, eAnd, eOr, eNot, eIf, eChain, aNil, aCons, eLst, eTup, eCall, eCallL, eFz, eLc, eLc2, eApp, isLst, wipeS, eMake, eEqI, insC, keepL, getS, gN, gIx, gT, gTupM, sPar, sFor, iR1, iR2, iRD, iE, iEn, iEnT, iEnA, iEA, oIsiB, noScr, tyName, f2, pLe, pLt, pGe, pGt, oAdd, oSub, oMul, oMod, oDiv, oPow, oNeg, oAbs, oInt, oMax2, oMin2, oLen, items, lstItems, tupItems, hot, cold, Out.d, frz, frzL, frzF, List.range, List.range.loop, isN, oIsN, oNotN, oIsB, oNotB, pEq_int, pNe_int, pEq_bl, pNe_bl, pEq_lst, pNe_lst, pEq_tup, pNe_tup, kb_NoneType_int, kb_NoneType_bool, kb_NoneType_list, kb_NoneType_tuple, kb_NoneType_str, kb_bool_int, kb_bool_bool, kb_bool_list, kb_bool_tuple, kb_bool_str, kb_int_int, kb_int_bool, kb_int_list, kb_int_tuple, kb_int_str, kb_str_int, kb_str_bool, kb_str_list, kb_str_tuple, kb_str_str, kb_list_int, kb_list_bool, kb_list_list, kb_list_tuple, kb_list_str, kb_tuple_int, kb_tuple_bool, kb_tuple_list, kb_tuple_tuple, kb_tuple_str, kb_dict_int, kb_dict_bool, kb_dict_list, kb_dict_tuple, kb_dict_str]
theorem cnt_le (x : Int) (p : List Int) : cnt x p ≤ p.length := List.length_filter_le _ _
theorem invP_le : ∀ (r p : List Int), invP p r ≤ r.length * (p.length + r.length)
  | [], _ => Nat.zero_le _
  | x :: r, p => by
    have h1 := cnt_le x p
    have h2 := invP_le r (p ++ [x])
    rw [List.length_append, List.length_singleton] at h2
    rw [invP, List.length_cons]
    have e : (r.length + 1) * (p.length + (r.length + 1)) = r.length * (p.length + 1 + r.length) + (p.length + (r.length + 1)) := by
      rw [Nat.add_mul, Nat.one_mul, show p.length + (r.length + 1) = p.length + 1 + r.length by omega]
    omega
theorem ones_sum (n : Nat) : (List.replicate n (1 : Int)).sum = n := by
  induction n with
  | zero => rfl
  | succ n ih => rw [List.replicate_succ, List.sum_cons, ih]; omega
theorem ones_snoc (n : Nat) : nums (List.replicate n 1) ++ [D.int 1] = nums (List.replicate (n + 1) 1) := by
  rw [List.replicate_succ', nums_app]; rfl
theorem small62_nat {n : Nat} (h : n ≤ 1000) : small62 (n : Int) = true := by
  unfold small62
  exact decide_eq_true (by
      omega)
theorem inner_ok {l : List Int} {i : Nat} {x : Int} (hl : l.length ≤ 40) (hx : l[i]? = some x) (base : Nat) (hb : base ≤ 10000) :
    ∃ st', compD lh1_inversions lt1_inversions le1_inversions [2] (rangeD 0 i) [some (.lst false (nums l)), some (.int (i : Int)), none] (nums (List.replicate base 1)) = .ok (nums (List.replicate (base + cnt x (l.take i)) 1)) st' ∧ st' = [some (.lst false (nums l)), some (.int (i : Int)), none] := by
  have hi : i < l.length := (List.getElem?_eq_some_iff.mp hx).1
  obtain ⟨acc, st', e, hst, hacc⟩ := compD_ok (g := lh1_inversions) (t := lt1_inversions) (e := le1_inversions) (vs := [2]) (fun j st acc => st = [some (.lst false (nums l)), some (.int (i : Int)), none] ∧ acc = nums (List.replicate (base + cnt x (l.take j)) 1)) (rangeD 0 i) 0
    [some (.lst false (nums l)), some (.int (i : Int)), none] (nums (List.replicate base 1)) ⟨rfl, rfl⟩ (fun j d st acc e hI => by
      obtain ⟨rfl, rfl⟩ := hI
      obtain ⟨hj, rfl⟩ := rangeD_get e
      rw [Int.zero_add]
      have hjl : j < l.length := by omega
      have a1 : oIx [.lst false (nums l), .int (j : Int)] = some (.val (.int (l.getD j 0))) := oIx_nums (by omega) (by omega)
      have a2 : oIx [.lst false (nums l), .int (i : Int)] = some (.val (.int x)) := by
        have := oIx_nums (o := false) (l := l) (i := (i : Int)) (by omega) (by omega)
        rw [show ((i : Nat) : Int).toNat = i from rfl, List.getD_eq_getElem?_getD, hx] at this
        exact this
      have ej : l[j]? = some (l.getD j 0) := by rw [List.getD_eq_getElem?_getD, List.getElem?_eq_getElem hjl]; rfl
      have et : cnt x (l.take (j + 1)) = cnt x (l.take j) + if x < l.getD j 0 then 1 else 0 := by
        rw [take_snoc ej, cnt_app, cnt_one]
      rw [Nat.zero_add, et]
      generalize l.getD j 0 = y at *
      refine ⟨[some (.lst false (nums l)), some (.int (i : Int)), some (.int (j : Int))], decide (x < y), [some (.lst false (nums l)), some (.int (i : Int)), some (.int (j : Int))], rfl, ?_, fun hb' => ⟨rfl, ?_⟩, fun hb' => ⟨?_, .int 1, [some (.lst false (nums l)), some (.int (i : Int)), some (.int (j : Int))], rfl, rfl, ?_⟩⟩
      · simp [lt1_inversions, a1, a2, fn, sSeq, SR.thn, sAsg, sExpr, sRet, sRetN, sIf, sNext, sFail, sBrk, sCont, Res.toS, Res.toN, Res.bind, tE, tNotM, tOrM, tAndM, tYesM, eC, eN, eMv, eOp, opds, eAnd, eOr, eNot, eIf, eChain, aNil, aCons, eLst, eTup, eCall, eCallL, eFz, eLc, eLc2, eApp, isLst, wipeS, eMake, eEqI, insC, keepL, getS, gN, gIx, gT, gTupM, sPar, sFor, iR1, iR2, iRD, iE, iEn, iEnT, iEnA, iEA, oIsiB, noScr, tyName, f2, pLe, pLt, pGe, pGt, oAdd, oSub, oMul, oMod, oDiv, oPow, oNeg, oAbs, oInt, oMax2, oMin2, oLen, items, lstItems, tupItems, hot, cold, Out.d, frz, frzL, frzF, List.range, List.range.loop, isN, oIsN, oNotN, oIsB, oNotB, pEq_int, pNe_int, pEq_bl, pNe_bl, pEq_lst, pNe_lst, pEq_tup, pNe_tup, kb_NoneType_int, kb_NoneType_bool, kb_NoneType_list, kb_NoneType_tuple, kb_NoneType_str, kb_bool_int, kb_bool_bool, kb_bool_list, kb_bool_tuple, kb_bool_str, kb_int_int, kb_int_bool, kb_int_list, kb_int_tuple, kb_int_str, kb_str_int, kb_str_bool, kb_str_list, kb_str_tuple, kb_str_str, kb_list_int, kb_list_bool, kb_list_list, kb_list_tuple, kb_list_str, kb_tuple_int, kb_tuple_bool, kb_tuple_list, kb_tuple_tuple, kb_tuple_str, kb_dict_int, kb_dict_bool, kb_dict_list, kb_dict_tuple, kb_dict_str]
      · rw [if_neg (of_decide_eq_false hb'), Nat.add_zero]
      · rw [nums_len, List.length_replicate]
        have := cnt_le x (l.take j)
        rw [List.length_take] at this
        omega
      · rw [if_pos (of_decide_eq_true hb'), ones_snoc, Nat.add_assoc])
  rw [Nat.zero_add, rangeD_len] at hacc
  subst hst
  subst hacc
  exact ⟨_, e, rfl⟩
theorem inversions_ok {l : List Int} (hl : l.length ≤ 40) (o : Bool) : ∃ ps, m_inversions [.lst o (nums l)] = .ok (.int (inv l)) ps := by
  obtain ⟨acc, st', e, hst, hacc⟩ := comp2D_ok (g := lg1_inversions) (src1 := li1_inversions) (g1 := lh1_inversions) (t := lt1_inversions) (e := le1_inversions) (vs := [1, 2]) (vs1 := [2]) (fun i st acc => st = [some (.lst false (nums l)), none, none] ∧ acc = nums (List.replicate (invP [] (l.take i)) 1)) (rangeD 0 l.length) 0
    [some (.lst false (nums l)), none, none] [] ⟨rfl, rfl⟩ (fun i d st acc e hI => by
      obtain ⟨rfl, rfl⟩ := hI
      obtain ⟨hi, rfl⟩ := rangeD_get e
      rw [Int.zero_add, Nat.zero_add]
      have ei : l[i]? = some l[i] := List.getElem?_eq_getElem hi
      have hb := invP_le (l.take i) []
      rw [List.length_take, List.length_nil, Nat.zero_add] at hb
      have hb2 : invP [] (l.take i) ≤ 10000 := Nat.le_trans hb (Nat.le_trans (Nat.mul_le_mul (Nat.le_trans (Nat.min_le_right _ _) hl) (Nat.le_trans (Nat.min_le_right _ _) hl)) (by decide))
      obtain ⟨st', e3, hst⟩ := inner_ok hl ei _ hb2
      subst hst
      refine ⟨[some (.lst false (nums l)), some (.int (i : Int)), none], rangeD 0 i, [some (.lst false (nums l)), some (.int (i : Int)), none], _, _, rfl, ?_, e3, rfl, ?_⟩
      · exact iR1_v (j := (i : Int)) rfl (eN_v rfl rfl) (small62_nat (by omega))
      · rw [take_snoc ei, invP_app, List.nil_append]
        simp only [invP, Nat.add_zero])
  rw [Nat.zero_add, rangeD_len, List.take_length] at hacc
  subst hst
  subst hacc
  have h6 := small62_nat (n := l.length) (by omega)
  have q1 : (sIf (tNotM (tE (eOp (oIsiB "list") [.s 0, .v (eC (.ty "list"))]))) sFail sNext) [some (.lst o (nums l)), none, none] = .next [some (.lst o (nums l)), none, none] := by
    simp [fn, sSeq, SR.thn, sAsg, sExpr, sRet, sRetN, sIf, sNext, sFail, sBrk, sCont, Res.toS, Res.toN, Res.bind, tE, tNotM, tOrM, tAndM, tYesM, eC, eN, eMv, eOp, opds, eAnd, eOr, eNot, eIf, eChain, aNil, aCons, eLst, eTup, eCall, eCallL, eFz, eLc, eLc2, eApp, isLst, wipeS, eMake, eEqI, insC, keepL, getS, gN, gIx, gT, gTupM, sPar, sFor, iR1, iR2, iRD, iE, iEn, iEnT, iEnA, iEA, oIsiB, noScr, tyName, f2, pLe, pLt, pGe, pGt, oAdd, oSub, oMul, oMod, oDiv, oPow, oNeg, oAbs, oInt, oMax2, oMin2, oLen, items, lstItems, tupItems, hot, cold, Out.d, frz, frzL, frzF, List.range, List.range.loop, isN, oIsN, oNotN, oIsB, oNotB, pEq_int, pNe_int, pEq_bl, pNe_bl, pEq_lst, pNe_lst, pEq_tup, pNe_tup, kb_NoneType_int, kb_NoneType_bool, kb_NoneType_list, kb_NoneType_tuple, kb_NoneType_str, kb_bool_int, kb_bool_bool, kb_bool_list, kb_bool_tuple, kb_bool_str, kb_int_int, kb_int_bool, kb_int_list, kb_int_tuple, kb_int_str, kb_str_int, kb_str_bool, kb_str_list, kb_str_tuple, kb_str_str, kb_list_int, kb_list_bool, kb_list_list, kb_list_tuple, kb_list_str, kb_tuple_int, kb_tuple_bool, kb_tuple_list, kb_tuple_tuple, kb_tuple_str, kb_dict_int, kb_dict_bool, kb_dict_list, kb_dict_tuple, kb_dict_str]
  have q2 : (sExpr (eCall m_check_integers (aCons (eN 0) aNil))) [some (.lst o (nums l)), none, none] = .next [some (.lst false (nums l)), none, none] := by
    cases o <;> simp [nums_frz, check_integers_ok, fn, sSeq, SR.thn, sAsg, sExpr, sRet, sRetN, sIf, sNext, sFail, sBrk, sCont, Res.toS, Res.toN, Res.bind, tE, tNotM, tOrM, tAndM, tYesM, eC, eN, eMv, eOp, opds, eAnd, eOr, eNot, eIf, eChain, aNil, aCons, eLst, eTup, eCall, eCallL, eFz, eLc, eLc2, eApp, isLst, wipeS, eMake, eEqI, insC, keepL, getS, gN, gIx, gT, gTupM, sPar, sFor, iR1, iR2, iRD, iE, iEn, iEnT, iEnA, iEA, oIsiB, noScr, tyName, f2, pLe, pLt, pGe, pGt, oAdd, oSub, oMul, oMod, oDiv, oPow, oNeg, oAbs, oInt, oMax2, oMin2, oLen, items, lstItems, tupItems, hot, cold, Out.d, frz, frzL, frzF, List.range, List.range.loop, isN, oIsN, oNotN, oIsB, oNotB, pEq_int, pNe_int, pEq_bl, pNe_bl, pEq_lst, pNe_lst, pEq_tup, pNe_tup, kb_NoneType_int, kb_NoneType_bool, kb_NoneType_list, kb_NoneType_tuple, kb_NoneType_str, kb_bool_int, kb_bool_bool, kb_bool_list, kb_bool_tuple, kb_bool_str, kb_int_int, kb_int_bool, kb_int_list, kb_int_tuple, kb_int_str, kb_str_int, kb_str_bool, kb_str_list, kb_str_tuple, kb_str_str, kb_list_int, kb_list_bool, kb_list_list, kb_list_tuple, kb_list_str, kb_tuple_int, kb_tuple_bool, kb_tuple_list, kb_tuple_tuple, kb_tuple_str, kb_dict_int, kb_dict_bool, kb_dict_list, kb_dict_tuple, kb_dict_str]
  have q3 : iR1 (eOp oLen [.s 0]) [some (.lst false (nums l)), none, none] = .ok (rangeD 0 l.length) [some (.lst false (nums l)), none, none] := by
    exact iR1_v (j := (l.length : Int)) rfl (eOp1_s (a := .lst false (nums l)) rfl oLen_l) h6
  have q4 : eLc2 (iR1 (eOp oLen [.s 0])) lg1_inversions li1_inversions lh1_inversions lt1_inversions le1_inversions [1, 2] [2] [some (.lst false (nums l)), none, none] = .ok (.lst true (nums (List.replicate (invP [] l) 1))) [some (.lst false (nums l)), none, none] := by
    unfold eLc2
    rw [q3]
    dsimp only [Res.bind]
    have w : wipeS [some (D.lst false (nums l)), none, none] [1, 2] = [some (.lst false (nums l)), none, none] := rfl
    rw [w, e]
  have q5 : oSum [.lst true (nums (List.replicate (invP [] l) 1))] = some (.val (.int (invP [] l))) := by
    unfold oSum lstItems
    dsimp only [Option.bind]
    rw [nums_as]
    show some (Out.val (D.int (List.replicate (invP [] l) 1).sum)) = _
    rw [ones_sum]
  exact ⟨_, fn_ret rfl (sSeq_next q1 (sSeq_next q2 (sRet_ok (eOp1_v q4 q5))))⟩
theorem draw_ok (a b m : Int) (h1 : 0 < m) (h2 : m < 9000) : ∃ r a' b', 0 ≤ r ∧ r < m ∧ m__law_draw [.lst true [.int a, .int b], .int m] = .ok (.int r) [some (.lst true [.int a', .int b']), some (.int m)] := by
  by_cases ha : 0 < a
  · refine ⟨a % m, a / m, b, Int.emod_nonneg _ (by omega), Int.emod_lt_of_pos _ h1, ?_⟩
    simp [m__law_draw, b__law_draw, ix2_0, ix2_1, ixN2_0, ixN2_1, ha, oMod_v h1, oDiv_v h1 h2, fn, sSeq, SR.thn, sAsg, sExpr, sRet, sRetN, sIf, sNext, sFail, sBrk, sCont, Res.toS, Res.toN, Res.bind, tE, tNotM, tOrM, tAndM, tYesM, eC, eN, eMv, eOp, opds, eAnd, eOr, eNot, eIf, eChain, aNil, aCons, eLst, eTup, eCall, eCallL, eFz, eLc, eLc2, eApp, isLst, wipeS, eMake, eEqI, insC, keepL, getS, gN, gIx, gT, gTupM, sPar, sFor, iR1, iR2, iRD, iE, iEn, iEnT, iEnA, iEA, oIsiB, noScr, tyName, f2, pLe, pLt, pGe, pGt, oAdd, oSub, oNeg, oAbs, oInt, oMax2, oMin2, oLen, items, lstItems, tupItems, hot, cold, Out.d, frz, frzL, frzF, List.range, List.range.loop, isN, oIsN, oNotN, oIsB, oNotB, pEq_int, pNe_int, pEq_bl, pNe_bl, pEq_lst, pNe_lst, pEq_tup, pNe_tup, kb_NoneType_int, kb_NoneType_bool, kb_NoneType_list, kb_NoneType_tuple, kb_NoneType_str, kb_bool_int, kb_bool_bool, kb_bool_list, kb_bool_tuple, kb_bool_str, kb_int_int, kb_int_bool, kb_int_list, kb_int_tuple, kb_int_str, kb_str_int, kb_str_bool, kb_str_list, kb_str_tuple, kb_str_str, kb_list_int, kb_list_bool, kb_list_list, kb_list_tuple, kb_list_str, kb_tuple_int, kb_tuple_bool, kb_tuple_list, kb_tuple_tuple, kb_tuple_str, kb_dict_int, kb_dict_bool, kb_dict_list, kb_dict_tuple, kb_dict_str]
  · have m1 := oMul_v (i := b) (j := 48271) (by omega)
    have m2 := oMod_v (i := b * 48271 + 11) (j := 2147483647) (by omega)
    have n0 : 0 ≤ (b * 48271 + 11) % 2147483647 := Int.emod_nonneg _ (by omega)
    have n1 : (b * 48271 + 11) % 2147483647 < 2147483647 := Int.emod_lt_of_pos _ (by omega)
    generalize (b * 48271 + 11) % 2147483647 = c at *
    have m3 := oMul_v (i := c) (j := c) (by omega)
    have m4 := oMod_v (i := c * c) (j := 2147483629) (by omega)
    have m5 := oDiv_v (i := c * c % 2147483629) (j := 16) (by omega) (by omega)
    have m6 := oMod_v (i := c * c % 2147483629 / 16) h1
    refine ⟨c * c % 2147483629 / 16 % m, a, c, Int.emod_nonneg _ (by omega), Int.emod_lt_of_pos _ h1, ?_⟩
    simp [m__law_draw, b__law_draw, ix2_0, ix2_1, ixN2_0, ixN2_1, ha, m1, m2, m3, m4, m5, m6, fn, sSeq, SR.thn, sAsg, sExpr, sRet, sRetN, sIf, sNext, sFail, sBrk, sCont, Res.toS, Res.toN, Res.bind, tE, tNotM, tOrM, tAndM, tYesM, eC, eN, eMv, eOp, opds, eAnd, eOr, eNot, eIf, eChain, aNil, aCons, eLst, eTup, eCall, eCallL, eFz, eLc, eLc2, eApp, isLst, wipeS, eMake, eEqI, insC, keepL, getS, gN, gIx, gT, gTupM, sPar, sFor, iR1, iR2, iRD, iE, iEn, iEnT, iEnA, iEA, oIsiB, noScr, tyName, f2, pLe, pLt, pGe, pGt, oAdd, oSub, oNeg, oAbs, oInt, oMax2, oMin2, oLen, items, lstItems, tupItems, hot, cold, Out.d, frz, frzL, frzF, List.range, List.range.loop, isN, oIsN, oNotN, oIsB, oNotB, pEq_int, pNe_int, pEq_bl, pNe_bl, pEq_lst, pNe_lst, pEq_tup, pNe_tup, kb_NoneType_int, kb_NoneType_bool, kb_NoneType_list, kb_NoneType_tuple, kb_NoneType_str, kb_bool_int, kb_bool_bool, kb_bool_list, kb_bool_tuple, kb_bool_str, kb_int_int, kb_int_bool, kb_int_list, kb_int_tuple, kb_int_str, kb_str_int, kb_str_bool, kb_str_list, kb_str_tuple, kb_str_str, kb_list_int, kb_list_bool, kb_list_list, kb_list_tuple, kb_list_str, kb_tuple_int, kb_tuple_bool, kb_tuple_list, kb_tuple_tuple, kb_tuple_str, kb_dict_int, kb_dict_bool, kb_dict_list, kb_dict_tuple, kb_dict_str]
theorem source_ok (l : List Int) (k : Int) (h0 : 0 ≤ k) (hk : k < 100) (hl : l.length ≤ 63) : ∃ a b ps, m__law_source [.scr l, .int k] = .ok (.lst true [.int a, .int b]) ps := by
  obtain ⟨kk, e1⟩ := oS01_scr l 63 hl
  have e2 := oSum_nums true kk
  generalize kk.sum = S at *
  have e3 := oMul_l (i := 7) (j := S) (by omega)
  have step : ∀ cell : Int, ∃ a b st, (sSeq (sAsg (eOp oAbs [.s 2]) (gN 3)) (sSeq (sAsg (eOp oMod [.v (eOp oMul [.v (eOp oAdd [.v (eOp oAdd [.v (eOp oAdd [.v (eOp oMod [.s 3, .v (eC (.int 2147483629))]), .v (eOp oMul [.v (eOp oMul [.v (eC (.int 7919)), .s 1]), .s 1])]), .v (eOp oMul [.v (eC (.int 31)), .s 1])]), .v (eC (.int 17))]), .v (eC (.int 48271))]), .v (eC (.int 2147483647))]) (gN 4)) (sRet (eLst (aCons (eOp oMul [.s 3, .v (eOp oInt [.v (eOp (f2 pGe) [.s 3, .v (eOp oPow [.v (eC (.int 10)), .v (eC (.int 18))])])])]) (aCons (eOp oMod [.v (eOp oMul [.s 4, .s 4]), .v (eC (.int 2147483629))]) aNil)))))) [some (.scr l), some (.int k), some (.int cell), none, none] = .ret (.lst true [.int a, .int b]) st := fun cell => by
    generalize hz : (if cell < 0 then -cell else cell) = z
    have m1 := oMod_v (i := z) (j := 2147483629) (by omega)
    have m2 := oMul_l (i := 7919) (j := k) (by omega)
    have m3 := oMul_v (i := 7919 * k) (j := k) (by omega)
    have m4 := oMul_l (i := 31) (j := k) (by omega)
    have m5 := oMul_v (i := z % 2147483629 + 7919 * k * k + 31 * k + 17) (j := 48271) (by omega)
    have m6 := oMod_v (i := (z % 2147483629 + 7919 * k * k + 31 * k + 17) * 48271) (j := 2147483647) (by omega)
    have n0 : 0 ≤ (z % 2147483629 + 7919 * k * k + 31 * k + 17) * 48271 % 2147483647 := Int.emod_nonneg _ (by omega)
    have n1 : (z % 2147483629 + 7919 * k * k + 31 * k + 17) * 48271 % 2147483647 < 2147483647 := Int.emod_lt_of_pos _ (by omega)
    generalize (z % 2147483629 + 7919 * k * k + 31 * k + 17) * 48271 % 2147483647 = c at *
    have m7 := oMul_v (i := c) (j := c) (by omega)
    have m8 := oMod_v (i := c * c) (j := 2147483629) (by omega)
    have m9 := oPow_v (i := 10) (j := 18) (by omega) (by decide)
    generalize (10 : Int) ^ (18 : Int).toNat = t at *
    have m10 := oMul_v (i := z) (j := if t ≤ z then 1 else 0) (by split <;> omega)
    refine ⟨z * (if t ≤ z then 1 else 0), c * c % 2147483629, [some (.scr l), some (.int k), some (.int cell), some (.int z), some (.int c)], ?_⟩
    simp [hz, m1, m2, m3, m4, m5, m6, m7, m8, m9, m10, fn, sSeq, SR.thn, sAsg, sExpr, sRet, sRetN, sIf, sNext, sFail, sBrk, sCont, Res.toS, Res.toN, Res.bind, tE, tNotM, tOrM, tAndM, tYesM, eC, eN, eMv, eOp, opds, eAnd, eOr, eNot, eIf, eChain, aNil, aCons, eLst, eTup, eCall, eCallL, eFz, eLc, eLc2, eApp, isLst, wipeS, eMake, eEqI, insC, keepL, getS, gN, gIx, gT, gTupM, sPar, sFor, iR1, iR2, iRD, iE, iEn, iEnT, iEnA, iEA, oIsiB, noScr, tyName, f2, pLe, pLt, pGe, pGt, oAdd, oSub, oNeg, oAbs, oInt, oMax2, oMin2, oLen, items, lstItems, tupItems, hot, cold, Out.d, frz, frzL, frzF, List.range, List.range.loop, isN, oIsN, oNotN, oIsB, oNotB, pEq_int, pNe_int, pEq_bl, pNe_bl, pEq_lst, pNe_lst, pEq_tup, pNe_tup, kb_NoneType_int, kb_NoneType_bool, kb_NoneType_list, kb_NoneType_tuple, kb_NoneType_str, kb_bool_int, kb_bool_bool, kb_bool_list, kb_bool_tuple, kb_bool_str, kb_int_int, kb_int_bool, kb_int_list, kb_int_tuple, kb_int_str, kb_str_int, kb_str_bool, kb_str_list, kb_str_tuple, kb_str_str, kb_list_int, kb_list_bool, kb_list_list, kb_list_tuple, kb_list_str, kb_tuple_int, kb_tuple_bool, kb_tuple_list, kb_tuple_tuple, kb_tuple_str, kb_dict_int, kb_dict_bool, kb_dict_list, kb_dict_tuple, kb_dict_str]
  by_cases hkl : k < (l.length : Int)
  · have e4 := oIx_scr (l := l) (i := k) h0 hkl
    obtain ⟨a, b, st, e5⟩ := step (l.getD k.toNat 0)
    generalize l.getD k.toNat 0 = cell at *
    have q1 : (sAsg (eOp oAdd [.v (eOp oMul [.v (eC (.int 7)), .v (eOp oSum [.v (eOp oS01 [.s 0, .v (eC (.int 63))])])]), .s 1]) (gN 2)) [some (.scr l), some (.int k), none, none, none] = .next [some (.scr l), some (.int k), some (.int (7 * S + k)), none, none] := by
      simp [e1, e2, e3, fn, sSeq, SR.thn, sAsg, sExpr, sRet, sRetN, sIf, sNext, sFail, sBrk, sCont, Res.toS, Res.toN, Res.bind, tE, tNotM, tOrM, tAndM, tYesM, eC, eN, eMv, eOp, opds, eAnd, eOr, eNot, eIf, eChain, aNil, aCons, eLst, eTup, eCall, eCallL, eFz, eLc, eLc2, eApp, isLst, wipeS, eMake, eEqI, insC, keepL, getS, gN, gIx, gT, gTupM, sPar, sFor, iR1, iR2, iRD, iE, iEn, iEnT, iEnA, iEA, oIsiB, noScr, tyName, f2, pLe, pLt, pGe, pGt, oAdd, oSub, oNeg, oAbs, oInt, oMax2, oMin2, oLen, items, lstItems, tupItems, hot, cold, Out.d, frz, frzL, frzF, List.range, List.range.loop, isN, oIsN, oNotN, oIsB, oNotB, pEq_int, pNe_int, pEq_bl, pNe_bl, pEq_lst, pNe_lst, pEq_tup, pNe_tup, kb_NoneType_int, kb_NoneType_bool, kb_NoneType_list, kb_NoneType_tuple, kb_NoneType_str, kb_bool_int, kb_bool_bool, kb_bool_list, kb_bool_tuple, kb_bool_str, kb_int_int, kb_int_bool, kb_int_list, kb_int_tuple, kb_int_str, kb_str_int, kb_str_bool, kb_str_list, kb_str_tuple, kb_str_str, kb_list_int, kb_list_bool, kb_list_list, kb_list_tuple, kb_list_str, kb_tuple_int, kb_tuple_bool, kb_tuple_list, kb_tuple_tuple, kb_tuple_str, kb_dict_int, kb_dict_bool, kb_dict_list, kb_dict_tuple, kb_dict_str]
    have q2 : (sIf (tE (eOp (f2 pLt) [.s 1, .v (eOp oLen [.s 0])])) (sAsg (eOp oIx [.s 0, .s 1]) (gN 2)) sNext) [some (.scr l), some (.int k), some (.int (7 * S + k)), none, none] = .next [some (.scr l), some (.int k), some (.int cell), none, none] := by
      simp [e4, hkl, fn, sSeq, SR.thn, sAsg, sExpr, sRet, sRetN, sIf, sNext, sFail, sBrk, sCont, Res.toS, Res.toN, Res.bind, tE, tNotM, tOrM, tAndM, tYesM, eC, eN, eMv, eOp, opds, eAnd, eOr, eNot, eIf, eChain, aNil, aCons, eLst, eTup, eCall, eCallL, eFz, eLc, eLc2, eApp, isLst, wipeS, eMake, eEqI, insC, keepL, getS, gN, gIx, gT, gTupM, sPar, sFor, iR1, iR2, iRD, iE, iEn, iEnT, iEnA, iEA, oIsiB, noScr, tyName, f2, pLe, pLt, pGe, pGt, oAdd, oSub, oNeg, oAbs, oInt, oMax2, oMin2, oLen, items, lstItems, tupItems, hot, cold, Out.d, frz, frzL, frzF, List.range, List.range.loop, isN, oIsN, oNotN, oIsB, oNotB, pEq_int, pNe_int, pEq_bl, pNe_bl, pEq_lst, pNe_lst, pEq_tup, pNe_tup, kb_NoneType_int, kb_NoneType_bool, kb_NoneType_list, kb_NoneType_tuple, kb_NoneType_str, kb_bool_int, kb_bool_bool, kb_bool_list, kb_bool_tuple, kb_bool_str, kb_int_int, kb_int_bool, kb_int_list, kb_int_tuple, kb_int_str, kb_str_int, kb_str_bool, kb_str_list, kb_str_tuple, kb_str_str, kb_list_int, kb_list_bool, kb_list_list, kb_list_tuple, kb_list_str, kb_tuple_int, kb_tuple_bool, kb_tuple_list, kb_tuple_tuple, kb_tuple_str, kb_dict_int, kb_dict_bool, kb_dict_list, kb_dict_tuple, kb_dict_str]
    exact ⟨a, b, _, fn_ret rfl (sSeq_next q1 (sSeq_next q2 e5))⟩
  · obtain ⟨a, b, st, e5⟩ := step (7 * S + k)
    have q1 : (sAsg (eOp oAdd [.v (eOp oMul [.v (eC (.int 7)), .v (eOp oSum [.v (eOp oS01 [.s 0, .v (eC (.int 63))])])]), .s 1]) (gN 2)) [some (.scr l), some (.int k), none, none, none] = .next [some (.scr l), some (.int k), some (.int (7 * S + k)), none, none] := by
      simp [e1, e2, e3, fn, sSeq, SR.thn, sAsg, sExpr, sRet, sRetN, sIf, sNext, sFail, sBrk, sCont, Res.toS, Res.toN, Res.bind, tE, tNotM, tOrM, tAndM, tYesM, eC, eN, eMv, eOp, opds, eAnd, eOr, eNot, eIf, eChain, aNil, aCons, eLst, eTup, eCall, eCallL, eFz, eLc, eLc2, eApp, isLst, wipeS, eMake, eEqI, insC, keepL, getS, gN, gIx, gT, gTupM, sPar, sFor, iR1, iR2, iRD, iE, iEn, iEnT, iEnA, iEA, oIsiB, noScr, tyName, f2, pLe, pLt, pGe, pGt, oAdd, oSub, oNeg, oAbs, oInt, oMax2, oMin2, oLen, items, lstItems, tupItems, hot, cold, Out.d, frz, frzL, frzF, List.range, List.range.loop, isN, oIsN, oNotN, oIsB, oNotB, pEq_int, pNe_int, pEq_bl, pNe_bl, pEq_lst, pNe_lst, pEq_tup, pNe_tup, kb_NoneType_int, kb_NoneType_bool, kb_NoneType_list, kb_NoneType_tuple, kb_NoneType_str, kb_bool_int, kb_bool_bool, kb_bool_list, kb_bool_tuple, kb_bool_str, kb_int_int, kb_int_bool, kb_int_list, kb_int_tuple, kb_int_str, kb_str_int, kb_str_bool, kb_str_list, kb_str_tuple, kb_str_str, kb_list_int, kb_list_bool, kb_list_list, kb_list_tuple, kb_list_str, kb_tuple_int, kb_tuple_bool, kb_tuple_list, kb_tuple_tuple, kb_tuple_str, kb_dict_int, kb_dict_bool, kb_dict_list, kb_dict_tuple, kb_dict_str]
    have q2 : (sIf (tE (eOp (f2 pLt) [.s 1, .v (eOp oLen [.s 0])])) (sAsg (eOp oIx [.s 0, .s 1]) (gN 2)) sNext) [some (.scr l), some (.int k), some (.int (7 * S + k)), none, none] = .next [some (.scr l), some (.int k), some (.int (7 * S + k)), none, none] := by
      simp [hkl, fn, sSeq, SR.thn, sAsg, sExpr, sRet, sRetN, sIf, sNext, sFail, sBrk, sCont, Res.toS, Res.toN, Res.bind, tE, tNotM, tOrM, tAndM, tYesM, eC, eN, eMv, eOp, opds, eAnd, eOr, eNot, eIf, eChain, aNil, aCons, eLst, eTup, eCall, eCallL, eFz, eLc, eLc2, eApp, isLst, wipeS, eMake, eEqI, insC, keepL, getS, gN, gIx, gT, gTupM, sPar, sFor, iR1, iR2, iRD, iE, iEn, iEnT, iEnA, iEA, oIsiB, noScr, tyName, f2, pLe, pLt, pGe, pGt, oAdd, oSub, oNeg, oAbs, oInt, oMax2, oMin2, oLen, items, lstItems, tupItems, hot, cold, Out.d, frz, frzL, frzF, List.range, List.range.loop, isN, oIsN, oNotN, oIsB, oNotB, pEq_int, pNe_int, pEq_bl, pNe_bl, pEq_lst, pNe_lst, pEq_tup, pNe_tup, kb_NoneType_int, kb_NoneType_bool, kb_NoneType_list, kb_NoneType_tuple, kb_NoneType_str, kb_bool_int, kb_bool_bool, kb_bool_list, kb_bool_tuple, kb_bool_str, kb_int_int, kb_int_bool, kb_int_list, kb_int_tuple, kb_int_str, kb_str_int, kb_str_bool, kb_str_list, kb_str_tuple, kb_str_str, kb_list_int, kb_list_bool, kb_list_list, kb_list_tuple, kb_list_str, kb_tuple_int, kb_tuple_bool, kb_tuple_list, kb_tuple_tuple, kb_tuple_str, kb_dict_int, kb_dict_bool, kb_dict_list, kb_dict_tuple, kb_dict_str]
    exact ⟨a, b, _, fn_ret rfl (sSeq_next q1 (sSeq_next q2 e5))⟩
theorem steps_ok (a b w n : Int) (h1 : 1 ≤ w) (h2 : w ≤ 40) (h3 : 0 ≤ n) (h4 : n ≤ 60) : ∃ ss a' b', okS w ss ∧ ss.length ≤ 60 ∧ m__law_steps [.lst true [.int a, .int b], .int w, .int n] = .ok (.lst true (nums ss)) [some (.lst true [.int a', .int b']), some (.int w), some (.int n)] := by
  have key : ∀ (N : Nat) , (N = 0 ∨ 1 < w) → N ≤ 60 → ∃ ss a' b', okS w ss ∧ ss.length = N ∧ compD lg1__law_steps tYesM le1__law_steps [3] (rangeD 0 N) [some (.lst true [.int a, .int b]), some (.int w), some (.int n), none] [] = .ok (nums ss) [some (.lst true [.int a', .int b']), some (.int w), some (.int n), none] := fun N hN hN2 => by
    obtain ⟨acc, st', e, ss, a', b', g1, g2, g3, g4⟩ := compD_ok (g := lg1__law_steps) (t := tYesM) (e := le1__law_steps) (vs := [3]) (fun i st acc => ∃ ss a' b', okS w ss ∧ ss.length = i ∧ st = [some (.lst true [.int a', .int b']), some (.int w), some (.int n), none] ∧ acc = nums ss) (rangeD 0 N) 0
      [some (.lst true [.int a, .int b]), some (.int w), some (.int n), none] [] ⟨[], a, b, (fun s hs => by cases hs), rfl, rfl, rfl⟩ (fun i d st acc e hI => by
        obtain ⟨ss, a', b', g1, g2, rfl, rfl⟩ := hI
        obtain ⟨hi, rfl⟩ := rangeD_get e
        obtain ⟨r, a2, b2, r1, r2, ed⟩ := draw_ok a' b' (w - 1) (by omega) (by omega)
        refine ⟨[some (.lst true [.int a', .int b']), some (.int w), some (.int n), some (.int (0 + (i : Int)))], true, [some (.lst true [.int a', .int b']), some (.int w), some (.int n), some (.int (0 + (i : Int)))], rfl, rfl, (fun h => by cases h), fun _ => ⟨by rw [nums_len]; omega, .int (1 + r), [some (.lst true [.int a2, .int b2]), some (.int w), some (.int n), some (.int (0 + (i : Int)))], ?_, ss ++ [1 + r], a2, b2, ?_, by rw [List.length_append, g2]; rfl, rfl, ?_⟩⟩
        · generalize (0 + (i : Int)) = z
          simp [le1__law_steps, ed, fn, sSeq, SR.thn, sAsg, sExpr, sRet, sRetN, sIf, sNext, sFail, sBrk, sCont, Res.toS, Res.toN, Res.bind, tE, tNotM, tOrM, tAndM, tYesM, eC, eN, eMv, eOp, opds, eAnd, eOr, eNot, eIf, eChain, aNil, aCons, eLst, eTup, eCall, eCallL, eFz, eLc, eLc2, eApp, isLst, wipeS, eMake, eEqI, insC, keepL, getS, gN, gIx, gT, gTupM, sPar, sFor, iR1, iR2, iRD, iE, iEn, iEnT, iEnA, iEA, oIsiB, noScr, tyName, f2, pLe, pLt, pGe, pGt, oAdd, oSub, oNeg, oAbs, oInt, oMax2, oMin2, oLen, items, lstItems, tupItems, hot, cold, Out.d, frz, frzL, frzF, List.range, List.range.loop, isN, oIsN, oNotN, oIsB, oNotB, pEq_int, pNe_int, pEq_bl, pNe_bl, pEq_lst, pNe_lst, pEq_tup, pNe_tup, kb_NoneType_int, kb_NoneType_bool, kb_NoneType_list, kb_NoneType_tuple, kb_NoneType_str, kb_bool_int, kb_bool_bool, kb_bool_list, kb_bool_tuple, kb_bool_str, kb_int_int, kb_int_bool, kb_int_list, kb_int_tuple, kb_int_str, kb_str_int, kb_str_bool, kb_str_list, kb_str_tuple, kb_str_str, kb_list_int, kb_list_bool, kb_list_list, kb_list_tuple, kb_list_str, kb_tuple_int, kb_tuple_bool, kb_tuple_list, kb_tuple_tuple, kb_tuple_str, kb_dict_int, kb_dict_bool, kb_dict_list, kb_dict_tuple, kb_dict_str]
        · intro s hs
          rcases List.mem_append.mp hs with hs | hs
          · exact g1 s hs
          · rw [List.mem_singleton] at hs
            omega
        · rw [nums_app]; rfl)
    subst g3
    subst g4
    exact ⟨ss, a', b', g1, by rw [g2, Nat.zero_add, rangeD_len], e⟩
  by_cases hw : 1 < w
  · obtain ⟨ss, a', b', g1, g2, e⟩ := key n.toNat (.inr hw) (by omega)
    have hs : small62 n = true := by unfold small62; exact decide_eq_true (by omega)
    have m1 := oMul_v (i := n) (j := 1) (by omega)
    rw [Int.mul_one] at m1
    have q1 : iR1 (eOp oMul [.s 2, .v (eOp oInt [.v (eOp (f2 pGt) [.s 1, .v (eC (.int 1))])])]) [some (.lst true [.int a, .int b]), some (.int w), some (.int n), none] = .ok (rangeD 0 n.toNat) [some (.lst true [.int a, .int b]), some (.int w), some (.int n), none] := by
      simp [hw, m1, hs, fn, sSeq, SR.thn, sAsg, sExpr, sRet, sRetN, sIf, sNext, sFail, sBrk, sCont, Res.toS, Res.toN, Res.bind, tE, tNotM, tOrM, tAndM, tYesM, eC, eN, eMv, eOp, opds, eAnd, eOr, eNot, eIf, eChain, aNil, aCons, eLst, eTup, eCall, eCallL, eFz, eLc, eLc2, eApp, isLst, wipeS, eMake, eEqI, insC, keepL, getS, gN, gIx, gT, gTupM, sPar, sFor, iR1, iR2, iRD, iE, iEn, iEnT, iEnA, iEA, oIsiB, noScr, tyName, f2, pLe, pLt, pGe, pGt, oAdd, oSub, oNeg, oAbs, oInt, oMax2, oMin2, oLen, items, lstItems, tupItems, hot, cold, Out.d, frz, frzL, frzF, List.range, List.range.loop, isN, oIsN, oNotN, oIsB, oNotB, pEq_int, pNe_int, pEq_bl, pNe_bl, pEq_lst, pNe_lst, pEq_tup, pNe_tup, kb_NoneType_int, kb_NoneType_bool, kb_NoneType_list, kb_NoneType_tuple, kb_NoneType_str, kb_bool_int, kb_bool_bool, kb_bool_list, kb_bool_tuple, kb_bool_str, kb_int_int, kb_int_bool, kb_int_list, kb_int_tuple, kb_int_str, kb_str_int, kb_str_bool, kb_str_list, kb_str_tuple, kb_str_str, kb_list_int, kb_list_bool, kb_list_list, kb_list_tuple, kb_list_str, kb_tuple_int, kb_tuple_bool, kb_tuple_list, kb_tuple_tuple, kb_tuple_str, kb_dict_int, kb_dict_bool, kb_dict_list, kb_dict_tuple, kb_dict_str]
    refine ⟨ss, a', b', g1, by omega, fn_ret rfl (sRet_ok (st1 := [some (.lst true [.int a', .int b']), some (.int w), some (.int n), none]) (eLc_v q1 e))⟩
  · obtain ⟨ss, a', b', g1, g2, e⟩ := key 0 (.inl rfl) (by omega)
    have m1 := oMul_v (i := n) (j := 0) (by omega)
    rw [Int.mul_zero] at m1
    have hs : small62 0 = true := rfl
    have q1 : iR1 (eOp oMul [.s 2, .v (eOp oInt [.v (eOp (f2 pGt) [.s 1, .v (eC (.int 1))])])]) [some (.lst true [.int a, .int b]), some (.int w), some (.int n), none] = .ok (rangeD 0 0) [some (.lst true [.int a, .int b]), some (.int w), some (.int n), none] := by
      simp [hw, m1, hs, fn, sSeq, SR.thn, sAsg, sExpr, sRet, sRetN, sIf, sNext, sFail, sBrk, sCont, Res.toS, Res.toN, Res.bind, tE, tNotM, tOrM, tAndM, tYesM, eC, eN, eMv, eOp, opds, eAnd, eOr, eNot, eIf, eChain, aNil, aCons, eLst, eTup, eCall, eCallL, eFz, eLc, eLc2, eApp, isLst, wipeS, eMake, eEqI, insC, keepL, getS, gN, gIx, gT, gTupM, sPar, sFor, iR1, iR2, iRD, iE, iEn, iEnT, iEnA, iEA, oIsiB, noScr, tyName, f2, pLe, pLt, pGe, pGt, oAdd, oSub, oNeg, oAbs, oInt, oMax2, oMin2, oLen, items, lstItems, tupItems, hot, cold, Out.d, frz, frzL, frzF, List.range, List.range.loop, isN, oIsN, oNotN, oIsB, oNotB, pEq_int, pNe_int, pEq_bl, pNe_bl, pEq_lst, pNe_lst, pEq_tup, pNe_tup, kb_NoneType_int, kb_NoneType_bool, kb_NoneType_list, kb_NoneType_tuple, kb_NoneType_str, kb_bool_int, kb_bool_bool, kb_bool_list, kb_bool_tuple, kb_bool_str, kb_int_int, kb_int_bool, kb_int_list, kb_int_tuple, kb_int_str, kb_str_int, kb_str_bool, kb_str_list, kb_str_tuple, kb_str_str, kb_list_int, kb_list_bool, kb_list_list, kb_list_tuple, kb_list_str, kb_tuple_int, kb_tuple_bool, kb_tuple_list, kb_tuple_tuple, kb_tuple_str, kb_dict_int, kb_dict_bool, kb_dict_list, kb_dict_tuple, kb_dict_str]
    refine ⟨ss, a', b', g1, by omega, fn_ret rfl (sRet_ok (st1 := [some (.lst true [.int a', .int b']), some (.int w), some (.int n), none]) (eLc_v q1 e))⟩
theorem run_ok {w : Int} {ss l : List Int} {o : Bool} (h : okS w ss) (hl : (l.length : Int) = w) (h2 : l.length ≤ 1000) : ∃ ps, m_run [net false w ss, .lst o (nums l)] = .ok (.lst true (nums (runL ss l))) ps := by
  have cv := check_values_ok (l := l) hl
  have e := result_of_ok (ss := ss) (l := l) (o := false) (by intro s hs; have := h s hs; omega) h2
  cases o <;> simp [m_run, b_run, oFld_w, oFld_s, cv, e, nums_frz, fn, sSeq, SR.thn, sAsg, sExpr, sRet, sRetN, sIf, sNext, sFail, sBrk, sCont, Res.toS, Res.toN, Res.bind, tE, tNotM, tOrM, tAndM, tYesM, eC, eN, eMv, eOp, opds, eAnd, eOr, eNot, eIf, eChain, aNil, aCons, eLst, eTup, eCall, eCallL, eFz, eLc, eLc2, eApp, isLst, wipeS, eMake, eEqI, insC, keepL, getS, gN, gIx, gT, gTupM, sPar, sFor, iR1, iR2, iRD, iE, iEn, iEnT, iEnA, iEA, oIsiB, noScr, tyName, f2, pLe, pLt, pGe, pGt, oAdd, oSub, oMul, oMod, oDiv, oPow, oNeg, oAbs, oInt, oMax2, oMin2, oLen, items, lstItems, tupItems, hot, cold, Out.d, frz, frzL, frzF, List.range, List.range.loop, isN, oIsN, oNotN, oIsB, oNotB, pEq_int, pNe_int, pEq_bl, pNe_bl, pEq_lst, pNe_lst, pEq_tup, pNe_tup, kb_NoneType_int, kb_NoneType_bool, kb_NoneType_list, kb_NoneType_tuple, kb_NoneType_str, kb_bool_int, kb_bool_bool, kb_bool_list, kb_bool_tuple, kb_bool_str, kb_int_int, kb_int_bool, kb_int_list, kb_int_tuple, kb_int_str, kb_str_int, kb_str_bool, kb_str_list, kb_str_tuple, kb_str_str, kb_list_int, kb_list_bool, kb_list_list, kb_list_tuple, kb_list_str, kb_tuple_int, kb_tuple_bool, kb_tuple_list, kb_tuple_tuple, kb_tuple_str, kb_dict_int, kb_dict_bool, kb_dict_list, kb_dict_tuple, kb_dict_str]
theorem draw_big (a b m : Int) (h1 : 0 < m) (h2 : m.natAbs < 2 ^ 80) : ∃ r a' b', 0 ≤ r ∧ r < m ∧ m__law_draw [.lst true [.int a, .int b], .int m] = .ok (.int r) [some (.lst true [.int a', .int b']), some (.int m)] := by
  by_cases ha : 0 < a
  · refine ⟨a % m, a / m, b, Int.emod_nonneg _ (by omega), Int.emod_lt_of_pos _ h1, ?_⟩
    simp [m__law_draw, b__law_draw, ix2_0, ix2_1, ixN2_0, ixN2_1, ha, oMod_v h1, oDiv_w h1 h2, fn, sSeq, SR.thn, sAsg, sExpr, sRet, sRetN, sIf, sNext, sFail, sBrk, sCont, Res.toS, Res.toN, Res.bind, tE, tNotM, tOrM, tAndM, tYesM, eC, eN, eMv, eOp, opds, eAnd, eOr, eNot, eIf, eChain, aNil, aCons, eLst, eTup, eCall, eCallL, eFz, eLc, eLc2, eApp, isLst, wipeS, eMake, eEqI, insC, keepL, getS, gN, gIx, gT, gTupM, sPar, sFor, iR1, iR2, iRD, iE, iEn, iEnT, iEnA, iEA, oIsiB, noScr, tyName, f2, pLe, pLt, pGe, pGt, oAdd, oSub, oNeg, oAbs, oInt, oMax2, oMin2, oLen, items, lstItems, tupItems, hot, cold, Out.d, frz, frzL, frzF, List.range, List.range.loop, isN, oIsN, oNotN, oIsB, oNotB, pEq_int, pNe_int, pEq_bl, pNe_bl, pEq_lst, pNe_lst, pEq_tup, pNe_tup, kb_NoneType_int, kb_NoneType_bool, kb_NoneType_list, kb_NoneType_tuple, kb_NoneType_str, kb_bool_int, kb_bool_bool, kb_bool_list, kb_bool_tuple, kb_bool_str, kb_int_int, kb_int_bool, kb_int_list, kb_int_tuple, kb_int_str, kb_str_int, kb_str_bool, kb_str_list, kb_str_tuple, kb_str_str, kb_list_int, kb_list_bool, kb_list_list, kb_list_tuple, kb_list_str, kb_tuple_int, kb_tuple_bool, kb_tuple_list, kb_tuple_tuple, kb_tuple_str, kb_dict_int, kb_dict_bool, kb_dict_list, kb_dict_tuple, kb_dict_str]
  · have m1 := oMul_v (i := b) (j := 48271) (by omega)
    have m2 := oMod_v (i := b * 48271 + 11) (j := 2147483647) (by omega)
    have n0 : 0 ≤ (b * 48271 + 11) % 2147483647 := Int.emod_nonneg _ (by omega)
    have n1 : (b * 48271 + 11) % 2147483647 < 2147483647 := Int.emod_lt_of_pos _ (by omega)
    generalize (b * 48271 + 11) % 2147483647 = c at *
    have m3 := oMul_v (i := c) (j := c) (by omega)
    have m4 := oMod_v (i := c * c) (j := 2147483629) (by omega)
    have m5 := oDiv_v (i := c * c % 2147483629) (j := 16) (by omega) (by omega)
    have m6 := oMod_v (i := c * c % 2147483629 / 16) h1
    refine ⟨c * c % 2147483629 / 16 % m, a, c, Int.emod_nonneg _ (by omega), Int.emod_lt_of_pos _ h1, ?_⟩
    simp [m__law_draw, b__law_draw, ix2_0, ix2_1, ixN2_0, ixN2_1, ha, m1, m2, m3, m4, m5, m6, fn, sSeq, SR.thn, sAsg, sExpr, sRet, sRetN, sIf, sNext, sFail, sBrk, sCont, Res.toS, Res.toN, Res.bind, tE, tNotM, tOrM, tAndM, tYesM, eC, eN, eMv, eOp, opds, eAnd, eOr, eNot, eIf, eChain, aNil, aCons, eLst, eTup, eCall, eCallL, eFz, eLc, eLc2, eApp, isLst, wipeS, eMake, eEqI, insC, keepL, getS, gN, gIx, gT, gTupM, sPar, sFor, iR1, iR2, iRD, iE, iEn, iEnT, iEnA, iEA, oIsiB, noScr, tyName, f2, pLe, pLt, pGe, pGt, oAdd, oSub, oNeg, oAbs, oInt, oMax2, oMin2, oLen, items, lstItems, tupItems, hot, cold, Out.d, frz, frzL, frzF, List.range, List.range.loop, isN, oIsN, oNotN, oIsB, oNotB, pEq_int, pNe_int, pEq_bl, pNe_bl, pEq_lst, pNe_lst, pEq_tup, pNe_tup, kb_NoneType_int, kb_NoneType_bool, kb_NoneType_list, kb_NoneType_tuple, kb_NoneType_str, kb_bool_int, kb_bool_bool, kb_bool_list, kb_bool_tuple, kb_bool_str, kb_int_int, kb_int_bool, kb_int_list, kb_int_tuple, kb_int_str, kb_str_int, kb_str_bool, kb_str_list, kb_str_tuple, kb_str_str, kb_list_int, kb_list_bool, kb_list_list, kb_list_tuple, kb_list_str, kb_tuple_int, kb_tuple_bool, kb_tuple_list, kb_tuple_tuple, kb_tuple_str, kb_dict_int, kb_dict_bool, kb_dict_list, kb_dict_tuple, kb_dict_str]
theorem law_values_ok (a b w : Int) (h1 : 1 ≤ w) (h2 : w ≤ 40) : ∃ vs a' b', (vs.length : Int) = w ∧ m__law_values [.lst true [.int a, .int b], .int w] = .ok (.lst true (nums vs)) [some (.lst true [.int a', .int b']), some (.int w)] := by
  obtain ⟨r, a1, b1, r1, r2, e1⟩ := draw_ok a b 4 (by decide) (by decide)
  obtain ⟨M, hM⟩ : ∃ M : Int, M = 10 ^ (20 : Int).toNat := ⟨_, rfl⟩
  have hMb : 0 < M ∧ M.natAbs < 2 ^ 80 := by rw [hM]; decide
  obtain ⟨m, hm, m1, m2⟩ : ∃ m : Int, oIx [.lst true (nums [2, 3, 9, M]), .int r] = some (.val (.int m)) ∧ 0 < m ∧ m.natAbs < 2 ^ 80 := by
    refine ⟨_, oIx_nums r1 (by show r < ((4 : Nat) : Int); omega), ?_⟩
    rcases (show r = 0 ∨ r = 1 ∨ r = 2 ∨ r = 3 by omega) with h | h | h | h <;> subst h
    · exact (show (0 : Int) < 2 ∧ (2 : Int).natAbs < 2 ^ 80 from by decide)
    · exact (show (0 : Int) < 3 ∧ (3 : Int).natAbs < 2 ^ 80 from by decide)
    · exact (show (0 : Int) < 9 ∧ (9 : Int).natAbs < 2 ^ 80 from by decide)
    · exact hMb
  have q0 : eOp oPow [.v (eC (.int 10)), .v (eC (.int 20))] [some (.lst true [.int a, .int b]), some (.int w), none, none] = .ok (.int M) [some (.lst true [.int a, .int b]), some (.int w), none, none] := by
    rw [hM]
    exact eOp2_v rfl rfl (oPow_v (by decide) (by decide))
  have q1 : eLst (aCons (eC (.int 2)) (aCons (eC (.int 3)) (aCons (eC (.int 9)) (aCons (eOp oPow [.v (eC (.int 10)), .v (eC (.int 20))]) aNil)))) [some (.lst true [.int a, .int b]), some (.int w), none, none] = .ok (.lst true (nums [2, 3, 9, M])) [some (.lst true [.int a, .int b]), some (.int w), none, none] := by
    simp only [eLst, aCons, aNil, eC, Res.bind, q0]
    rfl
  have q2 : eCallL m__law_draw aNil 0 (aCons (eC (.int 4)) aNil) [some (.lst true [.int a, .int b]), some (.int w), none, none] = .ok (.int r) [some (.lst true [.int a1, .int b1]), some (.int w), none, none] := eCallL1_v rfl rfl rfl rfl e1
  have s1 : (sAsg (eOp oIx [.v (eLst (aCons (eC (.int 2)) (aCons (eC (.int 3)) (aCons (eC (.int 9)) (aCons (eOp oPow [.v (eC (.int 10)), .v (eC (.int 20))]) aNil))))), .v (eCallL m__law_draw aNil 0 (aCons (eC (.int 4)) aNil))]) (gN 2)) [some (.lst true [.int a, .int b]), some (.int w), none, none] = .next [some (.lst true [.int a1, .int b1]), some (.int w), some (.int m), none] := sAsg_ok (eOp2_v q1 q2 hm) rfl
  obtain ⟨acc, st', e, ss, a', b', g2, g3, g4⟩ := compD_ok (g := lg1__law_values) (t := tYesM) (e := le1__law_values) (vs := [3]) (fun i st acc => ∃ ss a' b', ss.length = i ∧ st = [some (.lst true [.int a', .int b']), some (.int w), some (.int m), none] ∧ acc = nums ss) (rangeD 0 w.toNat) 0
    [some (.lst true [.int a1, .int b1]), some (.int w), some (.int m), none] [] ⟨[], a1, b1, rfl, rfl, rfl⟩ (fun i d st acc e hI => by
      obtain ⟨ss, a', b', g2, rfl, rfl⟩ := hI
      obtain ⟨hi, rfl⟩ := rangeD_get e
      obtain ⟨r', a2, b2, _, _, ed⟩ := draw_big a' b' m m1 m2
      obtain ⟨z, hz⟩ : ∃ z : Int, z = 0 + (i : Int) := ⟨_, rfl⟩
      rw [← hz]
      refine ⟨[some (.lst true [.int a', .int b']), some (.int w), some (.int m), some (.int z)], true, [some (.lst true [.int a', .int b']), some (.int w), some (.int m), some (.int z)], rfl, rfl, (fun h => by cases h), fun _ => ⟨by rw [nums_len]; omega, .int (r' - m / 2), [some (.lst true [.int a2, .int b2]), some (.int w), some (.int m), some (.int z)], ?_, ss ++ [r' - m / 2], a2, b2, by rw [List.length_append, g2]; rfl, rfl, ?_⟩⟩
      · have d1 : eCallL m__law_draw aNil 0 (aCons (eN 2) aNil) [some (.lst true [.int a', .int b']), some (.int w), some (.int m), some (.int z)] = .ok (.int r') [some (.lst true [.int a2, .int b2]), some (.int w), some (.int m), some (.int z)] := eCallL1_v rfl (eN_v rfl rfl) rfl rfl ed
        have d2 : eOp oDiv [.s 2, .v (eC (.int 2))] [some (.lst true [.int a2, .int b2]), some (.int w), some (.int m), some (.int z)] = .ok (.int (m / 2)) [some (.lst true [.int a2, .int b2]), some (.int w), some (.int m), some (.int z)] := eOpsv_v rfl rfl rfl (oDiv_v (by decide) (by decide))
        exact eOp2_v (f := oSub) d1 d2 rfl
      · rw [nums_app]; rfl)
  subst g3
  subst g4
  have s2 : iR1 (eN 1) [some (.lst true [.int a1, .int b1]), some (.int w), some (.int m), none] = .ok (rangeD 0 w.toNat) [some (.lst true [.int a1, .int b1]), some (.int w), some (.int m), none] := iR1_v (j := w) (by omega) (eN_v rfl rfl) (sm62 (by omega) (by omega))
  rw [Nat.zero_add, rangeD_len] at g2
  exact ⟨ss, a', b', by omega, fn_ret rfl (sSeq_next s1 (sRet_ok (eLc_v s2 e)))⟩
theorem frz_net {o : Bool} {w : Int} {ss : List Int} : frz (net o w ss) = net false w ss := by simp [frz, frzF, nums_frz]
theorem eqv {w : Nat} {a b l : List Int} (hw : 1 ≤ w) (ha : okS w a) (hb : okS w b) (h : runL a (desc w) = runL b (desc w)) (hl : l.length = w) : runL a l = runL b l := by
  obtain ⟨f, rfl, hf⟩ := up1_of ha
  obtain ⟨g, rfl, hg⟩ := up1_of hb
  rw [up1_run, up1_run] at h
  rw [up1_run, up1_run]
  exact decides hw (fun i hi => by have := hf i hi; omega) (fun i hi => by have := hg i hi; omega) h l hl
theorem count_ok (ns : List Int) (c : Int) (hc : 1 ≤ c) (hc2 : c ≤ 100) {st : Sl} (h : getS st 0 = some (.scr ns)) : ∃ N : Nat, N ≤ c ∧ iR1 (eOp oMax2 [.v (eC (.int 1)), .v (eOp oMin2 [.v (eOp oLen [.s 0]), .v (eC (.int c))])]) st = .ok (rangeD 0 N) st := by
  have q1 := eOp1_s (f := oLen) (i := 0) (st := st) h (oLen_scr ns)
  obtain ⟨z, hz⟩ : ∃ z : Int, z = ((ns.length : Nat) : Int) := ⟨_, rfl⟩
  have hz0 : 0 ≤ z := by omega
  rw [← hz] at q1
  have q2 := eOp2_v (f := oMin2) q1 (show eC (.int c) _ = .ok (.int c) _ from rfl) (show oMin2 [.int z, .int c] = some (.val (.int (if c < z then c else z))) from rfl)
  have q3 := eOp2_v (f := oMax2) (show eC (.int 1) st = .ok (.int 1) _ from rfl) q2 (show oMax2 [.int 1, .int (if c < z then c else z)] = some (.val (.int (if (if c < z then c else z) > 1 then (if c < z then c else z) else 1))) from rfl)
  generalize hy : (if (if c < z then c else z) > 1 then (if c < z then c else z) else 1) = y at q3
  have y1 : 1 ≤ y ∧ y ≤ c := by
    rw [← hy]
    split <;> split <;> omega
  exact ⟨y.toNat, by omega, iR1_v (j := y) (by omega) q3 (sm62 (by omega) (by omega))⟩
theorem tail_ok {ns : List Int} {n : Nat} {c : Int} (hc : 1 ≤ c) (hc2 : c ≤ 100) {g : MG} {B : MS} {fin : MS} (hfin : ∀ st, fin st = .ret (.bl true) st) {I : Sl → Prop} (I0 : ∀ st, I st → getS st 0 = some (.scr ns))
    (step : ∀ (st : Sl) (i : Nat), (i : Int) < c → I st → ∃ st1 st2, g (.int (i : Int)) st = .ok () st1 ∧ B st1 = .next st2 ∧ I st2) {st : Sl} (h : I st) :
    ∃ st', sSeq (sFor (iR1 (eOp oMax2 [.v (eC (.int 1)), .v (eOp oMin2 [.v (eOp oLen [.s 0]), .v (eC (.int c))])])) g B) fin st = .ret (.bl true) st' := by
  obtain ⟨N, hN, e0⟩ := count_ok ns c hc hc2 (I0 st h)
  obtain ⟨st', e, hst⟩ := forD_ok (g := g) (body := B) (fun _ st => I st) (rangeD 0 N) 0 st h (fun i d st e hI => by
    obtain ⟨hi, rfl⟩ := rangeD_get e
    rw [Int.zero_add]
    obtain ⟨s1, s2, q1, q2, q3⟩ := step st i (by omega) hI
    exact ⟨s1, s2, q1, .inl q2, q3⟩)
  exact ⟨st', zSeq (zFor e0 e) (hfin _)⟩
local macro_rules | `(tactic| walk_at "f") => `(tactic| with_reducible exact frz_net)
local macro_rules | `(tactic| walk_at "o") => `(tactic| first | (with_reducible exact oFld_w) | (with_reducible exact oFld_s))
theorem any_int_any {d : D} (h : It d) : ∃ ps, m_is_any_integer [d] = .ok (.bl (intD d)) ps := by
  have q1 := isi_int h
  have q2 := isi_bool h
  refine ⟨_, fn_go rfl (?_ : b_is_any_integer [some d] = SR.ret (.bl (intD d)) [some d])⟩
  unfold b_is_any_integer
  apply zRet
  cases h with
  | int i => exact xAndT (xOsv rfl xC rfl q1 rfl) (xNot (p := false) (xOsv rfl xC rfl q2 rfl))
  | bl b => exact xAndT (xOsv rfl xC rfl q1 rfl) (xNot (p := true) (xOsv rfl xC rfl q2 rfl))
  | _ => exact xAndF (xOsv rfl xC rfl q1 rfl)
end Lw06

namespace Lw06
open PySem (Str)
open DL Nw
local macro_rules | `(tactic| walk_at "g") => `(tactic| first | exact rfl | (with_reducible assumption))
local macro_rules | `(tactic| walk_at "s") => `(tactic| first | (with_reducible exact set_0) | ((with_reducible apply set_s); walk_at "s") | (with_reducible assumption) | exact rfl)
local macro_rules | `(tactic| walk_at "fl") => `(tactic| first | (with_reducible exact nums_frz _) | (with_reducible exact fzL_n) | ((with_reducible apply fzL_c); walk_at "f"; walk_at "fl") | (with_reducible assumption))
local macro_rules | `(tactic| walk_at "f") => `(tactic| first | (with_reducible exact fz_i) | (with_reducible exact fz_b) | (with_reducible exact fz_n) | (with_reducible exact fz_s) | (with_reducible exact fz_l) | (with_reducible exact fz_t) | ((with_reducible apply fz_lst); walk_at "fl") | ((with_reducible apply fz_tup); walk_at "fl") | (with_reducible assumption) | exact rfl)
local macro_rules | `(tactic| walk_at "k") => `(tactic| first | (with_reducible assumption) | (with_reducible exact rfl) | omega | (intro z; omega) | decide)
local macro_rules | `(tactic| walk_at "d") => `(tactic| first | (with_reducible exact od_val) | (with_reducible exact od_newL) | (with_reducible exact od_newT) | ((with_reducible apply od_eq); first | (with_reducible exact rfl) | ((with_reducible apply nbl_n); walk_at "k") | ((with_reducible apply bl_n); walk_at "k") | ((with_reducible apply bl_y); walk_at "k") | ((with_reducible apply nbl_y); walk_at "k")))
local macro_rules | `(tactic| walk_at "h") => `(tactic| first | (with_reducible assumption) | (simp only [List.nil_append, List.cons_append]; with_reducible assumption))
local macro_rules | `(tactic| walk_at "o") => `(tactic| first | (with_reducible assumption) | (with_reducible exact add_i) | (with_reducible exact sub_i) | (with_reducible exact lt_i) | (with_reducible exact le_i) | (with_reducible exact gt_i) | (with_reducible exact ge_i) | (with_reducible exact int_i) | (with_reducible exact int_b) | (with_reducible exact abs_i) | (with_reducible exact neg_i) | (with_reducible exact oLen_l) | (with_reducible exact oLen_scr _) | (with_reducible exact len_t) | (with_reducible exact tup_t) | (with_reducible exact oSorted_l) | (with_reducible exact oSum_nums _ _) | (with_reducible exact eq_of (pEq_int _ _)) | (with_reducible exact ne_of (pNe_int _ _)) | (with_reducible exact eq_of (pEq_lst _ _ _ _)) | (with_reducible exact ne_of (pNe_lst _ _ _ _)) | (with_reducible exact eq_of (pEq_tup _ _)) | (with_reducible exact ne_of (pNe_tup _ _)) | (with_reducible exact eq_of (pEq_bl _ _)) | (with_reducible exact ne_of (pNe_bl _ _)) | ((with_reducible apply lst_o); omega) | ((with_reducible apply lst_t); omega) | ((with_reducible apply tup_l); omega) | ((with_reducible apply oMod_v); omega) | ((with_reducible apply oDiv_v); omega; omega) | ((with_reducible apply oDiv_w); omega; omega) | ((with_reducible apply oMul_v); omega) | ((with_reducible apply oMul_l); omega) | ((with_reducible apply oIx_nums); omega; omega) | ((with_reducible apply oIx_tup); omega; omega))
local macro_rules | `(tactic| walk_at "a") => `(tactic| first | (with_reducible exact xANil) | ((with_reducible apply xACons); walk_at "e"; walk_at "a"))
local macro_rules | `(tactic| walk_at "it") => `(tactic| first | (with_reducible exact lst_it) | (with_reducible exact tup_it) | exact rfl)
local macro_rules | `(tactic| walk_at "cd") => `(tactic| first | (with_reducible exact nums_colds _) | (with_reducible exact colds_range _ _) | (with_reducible assumption) | exact rfl)
local macro_rules | `(tactic| walk_at "w") => `(tactic| first | ((with_reducible apply wE); walk_at "e"; walk_at "it"; walk_at "cd") | (with_reducible assumption))
local macro_rules | `(tactic| walk_at "e") => `(tactic| first | (with_reducible assumption) | (with_reducible exact xC) | ((with_reducible apply xN); walk_at "g"; exact rfl) | ((with_reducible apply xNf); walk_at "g"; exact rfl; walk_at "f"; walk_at "s") | ((with_reducible apply xMv); walk_at "g"; walk_at "s") | ((with_reducible apply xOvv); walk_at "e"; walk_at "e"; walk_at "o"; walk_at "d") | ((with_reducible apply xOvs); walk_at "e"; walk_at "g"; walk_at "o"; walk_at "d") | ((with_reducible apply xOsv); walk_at "g"; walk_at "e"; walk_at "g"; walk_at "o"; walk_at "d") | ((with_reducible apply xOss); walk_at "g"; walk_at "g"; walk_at "o"; walk_at "d") | ((with_reducible apply xOv); walk_at "e"; walk_at "o"; walk_at "d") | ((with_reducible apply xOs); walk_at "g"; walk_at "o"; walk_at "d") | ((with_reducible apply xCall); walk_at "a"; walk_at "h") | ((with_reducible apply xCallL); walk_at "a"; walk_at "g"; walk_at "a"; walk_at "g"; exact rfl; walk_at "h"; exact rfl; walk_at "s") | ((with_reducible apply xCallLc); walk_at "a"; walk_at "g"; walk_at "a"; walk_at "g"; exact rfl; walk_at "h") | ((with_reducible apply xMake); walk_at "a"; walk_at "h") | ((with_reducible apply xFz); walk_at "e"; walk_at "f") | ((with_reducible apply xMth); walk_at "e"; walk_at "m"; walk_at "a"; walk_at "h") | ((with_reducible apply xLst); walk_at "a"; exact rfl) | ((with_reducible apply xTup); walk_at "a"; exact rfl; walk_at "fl") | ((with_reducible apply xNot); walk_at "e") | ((with_reducible apply xAndB); walk_at "e"; walk_at "e") | ((with_reducible apply xOrB); walk_at "e"; walk_at "e") | ((with_reducible apply xIfT); walk_at "c"; walk_at "e") | ((with_reducible apply xIfF); walk_at "c"; walk_at "e") | ((with_reducible apply xApp); walk_at "g"; exact rfl; walk_at "e"; walk_at "g"; walk_at "n"; walk_at "s") | ((with_reducible apply xExt); walk_at "g"; exact rfl; walk_at "e"; walk_at "g"; walk_at "n"; walk_at "s") | ((with_reducible apply xExtT); walk_at "g"; exact rfl; walk_at "e"; walk_at "g"; walk_at "n"; walk_at "s") | ((with_reducible apply xMtS); walk_at "g"; exact rfl; walk_at "g"; walk_at "o"; walk_at "d") | ((with_reducible apply xEqI); walk_at "e"; walk_at "e"; exact rfl; exact rfl; walk_at "h"; walk_at "i") | ((with_reducible apply xLenI); walk_at "e"; exact rfl; walk_at "h"; walk_at "n"))
local macro_rules | `(tactic| walk_at "i") => `(tactic| first | exact rfl | (show D.bl (decide _) = _; apply bl_y; walk_at "k") | (show D.bl (!decide _) = _; apply nbl_n; walk_at "k"))
local macro_rules | `(tactic| walk_at "n") => `(tactic| first | (simp only [nums_len, List.length_append, List.length_cons, List.length_nil]; omega) | omega | exact rfl)
local macro_rules | `(tactic| walk_at "c") => `(tactic| first | ((with_reducible apply cE); walk_at "e") | ((with_reducible apply cNotF); walk_at "c") | ((with_reducible apply cNotT); walk_at "c") | ((with_reducible apply cOrT); walk_at "c") | ((with_reducible apply cAndF); walk_at "c") | ((with_reducible apply cOrF); walk_at "c"; walk_at "c") | ((with_reducible apply cAndT); walk_at "c"; walk_at "c"))
local macro_rules | `(tactic| walk_at "t") => `(tactic| first | ((with_reducible apply gN_r); walk_at "s") | ((with_reducible apply gIx_r); exact rfl; walk_at "g"; walk_at "e"; walk_at "g"; walk_at "j"; walk_at "s"))
local macro_rules | `(tactic| walk_at "j") => `(tactic| first | exact rfl | (simp only [nums_len]; apply ixN_nat <;> omega))
local macro_rules | `(tactic| walk_at "z") => `(tactic| first | ((with_reducible apply zAsg); walk_at "e"; walk_at "t") | ((with_reducible apply zExpr); walk_at "e") | ((with_reducible apply zRet); walk_at "e") | ((with_reducible apply zPar); walk_at "a"; walk_at "s"; walk_at "s") | ((with_reducible apply zAug); walk_at "g"; exact rfl; walk_at "e"; walk_at "o"; walk_at "s") | (with_reducible exact zSkip) | ((with_reducible apply zNo); walk_at "c"; walk_at "z") | ((with_reducible apply zYes); walk_at "c"; walk_at "z") | ((with_reducible apply zSeq); walk_at "z"; walk_at "z") | ((with_reducible apply zSeqR); walk_at "z"))
local macro_rules | `(tactic| walk_at "m") => `(tactic| first | (with_reducible assumption) | exact rfl)

local macro_rules | `(tactic| walk_at "f") => `(tactic| with_reducible exact frz_net)
local macro_rules | `(tactic| walk_at "o") => `(tactic| first | (with_reducible exact oFld_w) | (with_reducible exact oFld_s))
/-! ### the trace -/
theorem okDs_nums : ∀ B : List Int, okDs (nums B) = true
  | [] => rfl
  | x :: B => by
    rw [nums_cons, okDs, okDs_nums B]
    rfl
def rowsT (ss l : List Int) : List (List Int) := (List.range (ss.length + 1)).map fun i => runL (ss.take i) l
theorem trace_ok {w : Int} {ss l : List Int} (h : okS w ss) (hw : (l.length : Int) = w) (hl : l.length ≤ 1000) (hs : ss.length ≤ 1000) : m_trace [net false w ss, .lst false (nums l)] = some ((rowsT ss l).map fun r => .lst false (nums r)) := by
  have h : okS l.length ss := by rw [hw]; exact h
  obtain ⟨st', F, -⟩ := forGM_ok (g := fg1_trace) (body := gb1_trace) (fun j st => ∃ x, st = [some (net false w ss), some (.lst false (nums l)), some (.lst true (nums (runL (ss.take j) l))), x]) (fun j => [.lst false (nums (runL (ss.take (j + 1)) l))]) (nums ss) 0
    [some (net false w ss), some (.lst false (nums l)), some (.lst true (nums l)), none] ⟨none, rfl⟩ (fun j d st e hI => by
      obtain ⟨x, rfl⟩ := hI
      obtain ⟨s, e2, rfl⟩ := nums_get e
      obtain ⟨h1, h2⟩ := okS_at h e2
      simp only [Nat.zero_add]
      rw [take_snoc e2, runL_snoc]
      have so := step_on_ok (l := runL (ss.take j) l) h1 (by rw [runL_len]; omega)
      have hBl : (runL (ss.take j) l).length ≤ 1000 := by rw [runL_len]; exact hl
      generalize runL (ss.take j) l = B at *
      have hCl : (stp B s).length ≤ 1000 := by rw [stp_len]; exact hBl
      refine ⟨[some (net false w ss), some (.lst false (nums l)), some (.lst true (nums B)), some (.int s)], [some (net false w ss), some (.lst false (nums l)), some (.lst true (nums (stp B s))), some (.int s)], rfl, ?_, _, rfl⟩
      unfold gb1_trace
      refine gSeq (ds := []) (st1 := [some (net false w ss), some (.lst false (nums l)), some (.lst true (nums (stp B s))), some (.int s)]) (gP ?_) (gSeq (ds := [.lst false (nums (stp B s))]) (st1 := [some (net false w ss), some (.lst false (nums l)), some (.lst true (nums (stp B s))), some (.int s)]) (gYield ?_ ?_) rfl)
      · simp [so, fn, sSeq, SR.thn, sAsg, sExpr, sRet, sRetN, sIf, sNext, sFail, sBrk, sCont, Res.toS, Res.toN, Res.bind, tE, tNotM, tOrM, tAndM, tYesM, eC, eN, eMv, eOp, opds, eAnd, eOr, eNot, eIf, eChain, aNil, aCons, eLst, eTup, eCall, eCallL, eFz, eLc, eLc2, eApp, isLst, wipeS, eMake, eEqI, insC, keepL, getS, gN, gIx, gT, gTupM, sPar, sFor, iR1, iR2, iRD, iE, iEn, iEnT, iEnA, iEA, oIsiB, noScr, tyName, f2, pLe, pLt, pGe, pGt, oAdd, oSub, oMul, oMod, oDiv, oPow, oNeg, oAbs, oInt, oMax2, oMin2, oLen, items, lstItems, tupItems, hot, cold, Out.d, frz, frzL, frzF, List.range, List.range.loop, isN, oIsN, oNotN, oIsB, oNotB, pEq_int, pNe_int, pEq_bl, pNe_bl, pEq_lst, pNe_lst, pEq_tup, pNe_tup, kb_NoneType_int, kb_NoneType_bool, kb_NoneType_list, kb_NoneType_tuple, kb_NoneType_str, kb_bool_int, kb_bool_bool, kb_bool_list, kb_bool_tuple, kb_bool_str, kb_int_int, kb_int_bool, kb_int_list, kb_int_tuple, kb_int_str, kb_str_int, kb_str_bool, kb_str_list, kb_str_tuple, kb_str_str, kb_list_int, kb_list_bool, kb_list_list, kb_list_tuple, kb_list_str, kb_tuple_int, kb_tuple_bool, kb_tuple_list, kb_tuple_tuple, kb_tuple_str, kb_dict_int, kb_dict_bool, kb_dict_list, kb_dict_tuple, kb_dict_str]
      · walk_at "e"
      · show okSl [some (net false w ss), some (.lst false (nums l)), some (.lst true (nums (stp B s))), some (.int s)] = true
        simp only [okSl, okD, net, okDs_nums, Bool.true_and, Bool.and_true])
  rw [nums_len, ← List.range_eq_range'] at F
  have flat_one : ∀ (f : Nat → D) (l : List Nat), (l.map fun j => [f j]).flatten = l.map f := fun f l => by
    induction l with
    | nil => rfl
    | cons x l ih => rw [List.map_cons, List.flatten_cons, ih]; rfl
  rw [flat_one] at F
  have h3 : l.length ≤ 16777216 := by omega
  have cv := check_values_ok (l := l) hw
  have e : (rowsT ss l).map (fun r => D.lst false (nums r)) = [.lst false (nums l)] ++ (List.range ss.length).map fun j => .lst false (nums (runL (ss.take (j + 1)) l)) := by
    unfold rowsT
    rw [List.range_succ_eq_map, List.map_cons, List.map_cons, List.map_map, List.map_map]
    rfl
  rw [e]
  refine gnM_v (st := st') rfl ?_
  show b_trace [some (net false w ss), some (.lst false (nums l)), none, none] = _
  unfold b_trace
  refine gSeq (ds := []) (st1 := [some (net false w ss), some (.lst false (nums l)), none, none]) (gP ?_) (gSeq (ds := []) (st1 := [some (net false w ss), some (.lst false (nums l)), some (.lst true (nums l)), none]) (gP ?_) (gSeq (ds := [.lst false (nums l)]) (st1 := [some (net false w ss), some (.lst false (nums l)), some (.lst true (nums l)), none]) (gYield ?_ ?_) ?_))
  · walk_at "z"
  · walk_at "z"
  · walk_at "e"
  · show okSl [some (net false w ss), some (.lst false (nums l)), some (.lst true (nums l)), none] = true
    simp only [okSl, okD, net, okDs_nums, Bool.true_and, Bool.and_true]
  · have := gSeq (a := mFor (iE (eOp (oFld 0 "own_steps") [.s 0]) tupItems) fg1_trace gb1_trace) (b := mNil) (gFor (g := fg1_trace) (body := gb1_trace) (wE (xOs rfl oFld_s rfl) tup_it (nums_colds _)) F) (es := []) rfl
    rw [List.append_nil] at this
    exact this
/-! ### values of mixed kinds, {} too -/
inductive Vd : D → Prop where
  | it {d : D} (h : It d) : Vd d
  | dic : Vd (.dic false [])
theorem vd_frz {d : D} (h : Vd d) : frz d = d := by
  cases h with
  | it h => exact h.frz
  | dic => rfl
theorem vd_hot {d : D} (h : Vd d) : hot d = false := by
  cases h with
  | it h => exact h.hot
  | dic => rfl
theorem vd_cold {d : D} (h : Vd d) : cold d = true := by unfold cold; rw [vd_hot h]; rfl
theorem isi_intV {d : D} (h : Vd d) : oIsiB "int" [d, .ty "int"] = some (.val (.bl (isI d))) := by
  cases h with
  | it h => exact isi_int h
  | dic => simp [oIsiB, tyName, noScr, kb_dict_int, isI]
theorem isi_boolV {d : D} (h : Vd d) : oIsiB "bool" [d, .ty "bool"] = some (.val (.bl (isB d))) := by
  cases h with
  | it h => exact isi_bool h
  | dic => simp [oIsiB, tyName, noScr, kb_dict_bool, isB]
theorem isi_listV {d : D} (h : Vd d) : oIsiB "list" [d, .ty "list"] = some (.val (.bl (isL d))) := by
  cases h with
  | it h => exact isi_list h
  | dic => simp [oIsiB, tyName, noScr, kb_dict_list, isL]
theorem any_int_V {d : D} (h : Vd d) : ∃ ps, m_is_any_integer [d] = .ok (.bl (intD d)) ps := by
  cases h with
  | it h => exact any_int_any h
  | dic =>
    refine ⟨_, fn_go rfl (?_ : b_is_any_integer [some (.dic false [])] = SR.ret (.bl false) [some (.dic false [])])⟩
    unfold b_is_any_integer
    apply zRet
    exact xAndF (xOsv rfl xC rfl (isi_intV .dic) rfl)
def bad (k : Nat) (xs : List D) : Option Nat := badAt (fun _ d => intD d) k xs
theorem bad_cons {k : Nat} {d : D} {ds : List D} : bad k (d :: ds) = if intD d then bad (k + 1) ds else some k := rfl
theorem bad_none : ∀ {xs : List D} {k : Nat}, bad k xs = none → ∃ l : List Int, xs = nums l
  | [], _, _ => ⟨[], rfl⟩
  | d :: ds, k, h => by
    rw [bad_cons] at h
    cases hd : intD d with
    | false => rw [hd] at h; cases h
    | true =>
      rw [hd, if_pos rfl] at h
      obtain ⟨l, e⟩ := bad_none h
      cases d with
      | int i => exact ⟨i :: l, by rw [nums_cons, e]⟩
      | _ => cases hd
theorem ints_loop (L : D) : ∀ (xs : List D) (k : Nat) (x y : Option D), (∀ d ∈ xs, Vd d) → ∃ x' y', forD fg1_check_integers fb1_check_integers (enumD k xs) [some L, x, y] = (match bad k xs with
    | none => .next [some L, x', y']
    | some i => .exc ⟨103, [("index", .int (i : Int))]⟩ [some L, x', y'])
  | [], k, x, y, _ => ⟨x, y, rfl⟩
  | d :: ds, k, x, y, h => by
    have hd := h d List.mem_cons_self
    obtain ⟨ps, e⟩ := any_int_V hd
    rw [enumD_cons, bad_cons]
    cases hi : intD d with
    | true =>
      rw [hi] at e
      obtain ⟨x', y', q⟩ := ints_loop L ds (k + 1) (some (.int (k : Int))) (some d) fun z hz => h z (List.mem_cons_of_mem _ hz)
      rw [if_pos rfl]
      refine ⟨x', y', forD_cons (st1 := [some L, some (.int (k : Int)), some d]) (st2 := [some L, some (.int (k : Int)), some d]) rfl ?_ q⟩
      unfold fb1_check_integers
      exact zNo (cNotF (cE (xCall (xACons (xN rfl (vd_hot hd)) xANil) e))) rfl
    | false =>
      rw [hi] at e
      rw [if_neg (by decide)]
      refine ⟨some (.int (k : Int)), some d, forD_exc (st1 := [some L, some (.int (k : Int)), some d]) rfl ?_⟩
      unfold fb1_check_integers
      exact zYes (cNotT (cE (xCall (xACons (xN rfl (vd_hot hd)) xANil) e))) (zRaise (ds := [.int (k : Int)]) (xACons (xN rfl rfl) xANil) rfl)
theorem check_ints_V {xs : List D} (h : ∀ d ∈ xs, Vd d) : (bad 0 xs = none → ∃ ps, m_check_integers [.lst false xs] = .ok .non ps) ∧ ∀ i, bad 0 xs = some i → ∃ ps, m_check_integers [.lst false xs] = .exc ⟨103, [("index", .int (i : Int))]⟩ ps := by
  have hc : colds xs = true := List.all_eq_true.mpr fun d hd => vd_cold (h d hd)
  obtain ⟨x', y', q⟩ := ints_loop (.lst false xs) xs 0 none none h
  refine ⟨fun e => ?_, fun i e => ?_⟩
  · rw [e] at q
    refine ⟨_, fn_goN rfl (?_ : b_check_integers [some (.lst false xs), none, none] = SR.next [some (.lst false xs), x', y'])⟩
    unfold b_check_integers
    exact zFor (wEn0 (xN rfl rfl) hc) q
  · rw [e] at q
    refine ⟨_, fn_goX rfl (?_ : b_check_integers [some (.lst false xs), none, none] = SR.exc ⟨103, [("index", .int (i : Int))]⟩ [some (.lst false xs), x', y'])⟩
    unfold b_check_integers
    exact zFor (wEn0 (xN rfl rfl) hc) q
/-- what is wrong with the values of a list that is to have w -/
def chkI : D → Option D
  | .lst _ xs => (bad 0 xs).map fun (i : Nat) => .int (i : Int)
  | _ => some .non
def chkV (w : Int) : D → Option D
  | .lst o xs => if (xs.length : Int) = w then chkI (.lst o xs) else some .non
  | _ => some .non
/-- a value that the law hands over -/
def Vv (d : D) : Prop := Vd d ∧ ∀ o xs, d = .lst o xs → o = false ∧ xs.length ≤ 40 ∧ ∀ e ∈ xs, Vd e
theorem notL {d : D} (h : isL d = false) : chkI d = some .non := by
  cases d with
  | lst o xs => cases h
  | _ => rfl
theorem notLV {d : D} {w : Int} (h : isL d = false) : chkV w d = some .non := by
  cases d with
  | lst o xs => cases h
  | _ => rfl
theorem isL_lst {d : D} (hv : Vv d) (h : isL d = true) : ∃ xs, d = .lst false xs ∧ xs.length ≤ 40 ∧ ∀ e ∈ xs, Vd e := by
  cases d with
  | lst o xs =>
    obtain ⟨h1, h2, h3⟩ := hv.2 o xs rfl
    subst h1
    exact ⟨xs, rfl, h2, h3⟩
  | _ => cases h
def Says (f : MF) (ds : List D) : Option D → Prop
  | none => ∃ ps, f ds = .ok .non ps
  | some i => ∃ ps, f ds = .exc ⟨103, [("index", i)]⟩ ps
theorem check_V {d : D} (w : Int) (hv : Vv d) : Says m_check_values [.int w, d] (chkV w d) := by
  have q := isi_listV hv.1
  cases hL : isL d with
  | false =>
    rw [hL] at q
    rw [notLV hL]
    refine ⟨_, fn_goX rfl (?_ : b_check_values [some (.int w), some d] = SR.exc ⟨103, [("index", .non)]⟩ [some (.int w), some d])⟩
    unfold b_check_values
    exact zSeqX (zYes (cOrT (cNotT (cE (xOsv rfl xC rfl q rfl)))) (zRaise (ds := [.non]) (xACons xC xANil) rfl))
  | true =>
    rw [hL] at q
    obtain ⟨xs, rfl, h2, h3⟩ := isL_lst hv hL
    obtain ⟨c1, c2⟩ := check_ints_V h3
    by_cases hw : (xs.length : Int) = w
    · have n : f2 pNe [.int (xs.length : Int), .int w] = some (.val (.bl false)) := by rw [ne_of (pNe_int _ _), decide_eq_true hw]; rfl
      have first : ∀ (s1 : MS) (r : SR), s1 [some (.int w), some (.lst false xs)] = r → sSeq (sIf (tOrM (tNotM (tE (eOp (oIsiB "list") [.s 1, .v (eC (.ty "list"))]))) (tE (eOp (f2 pNe) [.v (eOp oLen [.s 1]), .s 0]))) (sRaise 103 ["index"] (aCons (eC .non) aNil)) sNext) s1 [some (.int w), some (.lst false xs)] = r := fun s1 r e =>
        zSeq (zNo (cOrF (cNotF (cE (xOsv rfl xC rfl q rfl))) (cE (xOvs (xOs rfl len_any rfl) rfl n rfl))) rfl) e
      show Says _ _ (if (xs.length : Int) = w then chkI (.lst false xs) else some .non)
      rw [if_pos hw]
      cases hb : bad 0 xs with
      | none =>
        obtain ⟨ps, e⟩ := c1 hb
        rw [show chkI (.lst false xs) = none by show (bad 0 xs).map _ = _; rw [hb]; rfl]
        refine ⟨_, fn_goN rfl (?_ : b_check_values [some (.int w), some (.lst false xs)] = SR.next [some (.int w), some (.lst false xs)])⟩
        unfold b_check_values
        exact first _ _ (zExpr (xCall (xACons (xN rfl rfl) xANil) e))
      | some i =>
        obtain ⟨ps, e⟩ := c2 i hb
        rw [show chkI (.lst false xs) = some (.int (i : Int)) by show (bad 0 xs).map _ = _; rw [hb]; rfl]
        refine ⟨_, fn_goX rfl (?_ : b_check_values [some (.int w), some (.lst false xs)] = SR.exc ⟨103, [("index", .int (i : Int))]⟩ [some (.int w), some (.lst false xs)])⟩
        unfold b_check_values
        exact first _ _ (zExprX (xCallX (xACons (xN rfl rfl) xANil) e))
    · have n : f2 pNe [.int (xs.length : Int), .int w] = some (.val (.bl true)) := by rw [ne_of (pNe_int _ _), decide_eq_false hw]; rfl
      show Says _ _ (if (xs.length : Int) = w then chkI (.lst false xs) else some .non)
      rw [if_neg hw]
      refine ⟨_, fn_goX rfl (?_ : b_check_values [some (.int w), some (.lst false xs)] = SR.exc ⟨103, [("index", .non)]⟩ [some (.int w), some (.lst false xs)])⟩
      unfold b_check_values
      exact zSeqX (zYes (cOrF (cNotF (cE (xOsv rfl xC rfl q rfl))) (cE (xOvs (xOs rfl len_any rfl) rfl n rfl))) (zRaise (ds := [.non]) (xACons xC xANil) rfl))
/-! ### what a choice says -/
theorem chk_numsI {d : D} (hv : Vv d) (h : chkI d = none) : ∃ l : List Int, d = .lst false (nums l) ∧ l.length ≤ 40 := by
  cases d with
  | lst o xs =>
    obtain ⟨h1, h2, _⟩ := hv.2 o xs rfl
    subst h1
    have hb : bad 0 xs = none := by
      cases e : bad 0 xs with
      | none => rfl
      | some i => rw [show chkI (.lst false xs) = some (.int (i : Int)) by show (bad 0 xs).map _ = _; rw [e]; rfl] at h; cases h
    obtain ⟨l, rfl⟩ := bad_none hb
    exact ⟨l, rfl, by rw [nums_len] at h2; exact h2⟩
  | _ => cases h
theorem chk_numsV {d : D} {w : Int} (hv : Vv d) (h : chkV w d = none) : ∃ l : List Int, d = .lst false (nums l) ∧ (l.length : Int) = w ∧ l.length ≤ 40 := by
  cases d with
  | lst o xs =>
    by_cases hw : (xs.length : Int) = w
    · rw [show chkV w (.lst o xs) = chkI (.lst o xs) from if_pos hw] at h
      obtain ⟨l, e, h2⟩ := chk_numsI hv h
      cases e
      exact ⟨l, rfl, by rw [nums_len] at hw; exact hw, h2⟩
    · rw [show chkV w (.lst o xs) = some .non from if_neg hw] at h; cases h
  | _ => cases h
def Ix (i : D) : Prop := i = .non ∨ ∃ k : Nat, i = .int (k : Int)
theorem chkI_ix {d i : D} (h : chkI d = some i) : Ix i := by
  cases d with
  | lst o xs =>
    cases e : bad 0 xs with
    | none => rw [show chkI (.lst o xs) = none by show (bad 0 xs).map _ = _; rw [e]; rfl] at h; cases h
    | some k =>
      rw [show chkI (.lst o xs) = some (.int (k : Int)) by show (bad 0 xs).map _ = _; rw [e]; rfl] at h
      cases h
      exact .inr ⟨k, rfl⟩
  | _ => cases h; exact .inl rfl
theorem chkV_ix {d i : D} {w : Int} (h : chkV w d = some i) : Ix i := by
  cases d with
  | lst o xs =>
    by_cases hw : (xs.length : Int) = w
    · rw [show chkV w (.lst o xs) = chkI (.lst o xs) from if_pos hw] at h; exact chkI_ix h
    · rw [show chkV w (.lst o xs) = some .non from if_neg hw] at h; cases h; exact .inl rfl
  | _ => cases h; exact .inl rfl
theorem inv_V {d : D} (hv : Vv d) : (chkI d = none → ∃ v ps, m_inversions [d] = .ok v ps) ∧ ∀ i, chkI d = some i → ∃ ps, m_inversions [d] = .exc ⟨103, [("index", i)]⟩ ps := by
  refine ⟨fun h => ?_, fun i h => ?_⟩
  · obtain ⟨l, rfl, hl⟩ := chk_numsI hv h
    obtain ⟨ps, e⟩ := inversions_ok hl false
    exact ⟨_, ps, e⟩
  · have q := isi_listV hv.1
    cases hL : isL d with
    | false =>
      rw [hL] at q
      rw [notL hL] at h
      cases h
      refine ⟨_, fn_goX rfl (?_ : b_inversions [some d, none, none] = SR.exc ⟨103, [("index", .non)]⟩ [some d, none, none])⟩
      unfold b_inversions
      exact zSeqX (zYes (cNotT (cE (xOsv rfl xC rfl q rfl))) (zRaise (ds := [.non]) (xACons xC xANil) rfl))
    | true =>
      rw [hL] at q
      obtain ⟨xs, rfl, h2, h3⟩ := isL_lst hv hL
      cases e : bad 0 xs with
      | none => rw [show chkI (.lst false xs) = none by show (bad 0 xs).map _ = _; rw [e]; rfl] at h; cases h
      | some k =>
        rw [show chkI (.lst false xs) = some (.int (k : Int)) by show (bad 0 xs).map _ = _; rw [e]; rfl] at h
        cases h
        obtain ⟨ps, q2⟩ := (check_ints_V h3).2 k e
        refine ⟨_, fn_goX rfl (?_ : b_inversions [some (.lst false xs), none, none] = SR.exc ⟨103, [("index", .int (k : Int))]⟩ [some (.lst false xs), none, none])⟩
        unfold b_inversions
        exact zSeq (zNo (cNotF (cE (xOsv rfl xC rfl q rfl))) rfl) (zSeqX (zExprX (xCallX (xACons (xN rfl rfl) xANil) q2)))
theorem run_X {w : Int} {ss : List Int} {d : D} {x : Xc} {ps : Sl} (hd : hot d = false) (e : m_check_values [.int w, d] = .exc x ps) : ∃ ps, m_run [net false w ss, d] = .exc x ps := by
  refine ⟨_, fn_goX rfl (?_ : b_run [some (net false w ss), some d] = SR.exc x [some (net false w ss), some d])⟩
  unfold b_run
  exact zSeqX (zExprX (xCallX (xACons (xOs rfl oFld_w rfl) (xACons (xN rfl hd) xANil)) e))
theorem exc_X {w : Int} {ss : List Int} {d : D} {x : Xc} {ps : Sl} (hd : hot d = false) (e : m_check_values [.int w, d] = .exc x ps) : ∃ ps, m_exchanges [net false w ss, d] = .exc x ps := by
  refine ⟨_, fn_goX rfl (?_ : b_exchanges [some (net false w ss), some d, none, none, none, none] = SR.exc x [some (net false w ss), some d, none, none, none, none])⟩
  unfold b_exchanges
  exact zSeqX (zExprX (xCallX (xACons (xOs rfl oFld_w rfl) (xACons (xN rfl hd) xANil)) e))
theorem trace_X {w : Int} {ss : List Int} {d : D} {i : D} {ps : Sl} (hd : hot d = false) (e : m_check_values [.int w, d] = .exc ⟨103, [("index", i)]⟩ ps) : mx_trace [net false w ss, d] = some ⟨103, [("index", i)]⟩ := by
  have q : b1_trace [some (net false w ss), some d, none, none] = SR.exc ⟨103, [("index", i)]⟩ [some (net false w ss), some d, none, none] := by
    unfold b1_trace
    exact zExprX (xCallX (xACons (xOs rfl oFld_w rfl) (xACons (xN rfl hd) xANil)) e)
  show (match b1_trace [some (net false w ss), some d, none, none] with | .exc x _ => if x.C = 103 then some x else none | _ => none) = _
  rw [q]
  rfl
theorem trace_N {w : Int} {ss : List Int} {d : D} {ps : Sl} (hd : hot d = false) (e : m_check_values [.int w, d] = .ok .non ps) : mx_trace [net false w ss, d] = none := by
  have q : b1_trace [some (net false w ss), some d, none, none] = SR.next [some (net false w ss), some d, none, none] := by
    unfold b1_trace
    exact zExpr (xCall (xACons (xOs rfl oFld_w rfl) (xACons (xN rfl hd) xANil)) e)
  show (match b1_trace [some (net false w ss), some d, none, none] with | .exc x _ => if x.C = 103 then some x else none | _ => none) = _
  rw [q]
/-- the source of a walk -/
theorem srcX {m : List D → Option (List D)} {mx : List D → Option Xc} {ms : MA} {st st1 : Sl} {ds : List D} {x : Xc} (h : ms st = .ok ds st1) (hc : colds ds = true) (e : mx ds = some x) : gSrcX m mx ms st = .exc x st1 := by
  unfold gSrcX
  rw [h]
  show (if colds ds = true then (match mx ds with | some x => Res.exc x st1 | none => _) else .fail) = _
  rw [if_pos hc, e]
theorem srcN {m : List D → Option (List D)} {mx : List D → Option Xc} {ms : MA} {st st1 : Sl} {ds ys : List D} (h : ms st = .ok ds st1) (hc : colds ds = true) (e : mx ds = none) (e2 : m ds = some ys) : gSrcX m mx ms st = .ok ys st1 := by
  unfold gSrcX
  rw [h]
  show (if colds ds = true then (match mx ds with | some x => Res.exc x st1 | none => (match m ds with | some ys => Res.ok ys st1 | none => .fail)) else .fail) = _
  rw [if_pos hc, e]
  show (match m ds with | some ys => Res.ok ys st1 | none => .fail) = _
  rw [e2]
theorem lcX_x {src : GSrc} {g : MG} {mt : MT} {me : ME} {own : List Nat} {st st1 : Sl} {x : Xc} (h : src st = .exc x st1) : eLcX src g mt me own st = .exc x st1 := by unfold eLcX; rw [h]
theorem lcX_n {src : GSrc} {g : MG} {mt : MT} {me : ME} {own : List Nat} {st st1 st2 : Sl} {ds : List D} {d : D} (h : src st = .ok ds st1) (e : eLc (noXs src) g mt me own st = .ok d st2) : eLcX src g mt me own st = .ok d st2 := by unfold eLcX; rw [h]; exact e
def rOf (c w : Int) (d : D) : Option D := if c < 3 then chkV w d else chkI d
def F0 : MS := (sIf (tE (eOp (f2 pEq) [.s 0, .v (eC (.int 0))])) (sExpr (eCall m_run (aCons (eN 1) (aCons (eN 2) aNil)))) (sIf (tE (eOp (f2 pEq) [.s 0, .v (eC (.int 1))])) (sExpr (eCall m_exchanges (aCons (eN 1) (aCons (eN 2) aNil)))) (sIf (tE (eOp (f2 pEq) [.s 0, .v (eC (.int 2))])) (sExpr (eLcX (gSrcX m_trace mx_trace (aCons (eN 1) (aCons (eN 2) aNil))) lg1__law_outcome tYesM le1__law_outcome [4])) (sExpr (eCall m_inversions (aCons (eN 2) aNil))))))
theorem eqI (a b : Int) : f2 pEq [.int a, .int b] = some (.val (.bl (decide (a = b)))) := eq_of (pEq_int _ _)
theorem F0_ok {w : Int} {ss : List Int} (h : okS w ss) (hw : 1 ≤ w) (h2 : w ≤ 40) (hs : ss.length ≤ 1000) {d : D} (hv : Vv d) (c : Int) (hc : c = 0 ∨ c = 1 ∨ c = 2 ∨ c = 3) :
    (rOf c w d = none → F0 [some (.int c), some (net false w ss), some d, none, none] = .next [some (.int c), some (net false w ss), some d, none, none]) ∧
    ∀ i, rOf c w d = some i → F0 [some (.int c), some (net false w ss), some d, none, none] = .exc ⟨103, [("index", i)]⟩ [some (.int c), some (net false w ss), some d, none, none] := by
  have hd := vd_hot hv.1
  have args : ∀ c : Int, aCons (eN 1) (aCons (eN 2) aNil) [some (.int c), some (net false w ss), some d, none, none] = .ok [net false w ss, d] [some (.int c), some (net false w ss), some d, none, none] := fun c => xACons (xN rfl rfl) (xACons (xN rfl hd) xANil)
  have cv := check_V w hv
  have hcold : colds [net false w ss, d] = true := by
    show (cold (net false w ss) && (cold d && true)) = true
    rw [vd_cold hv.1]
    rfl
  rcases hc with rfl | rfl | rfl | rfl
  · refine ⟨fun e => ?_, fun i e => ?_⟩
    · obtain ⟨l, rfl, hl, hl2⟩ := chk_numsV hv e
      obtain ⟨ps, r⟩ := run_ok (o := false) h hl (by omega)
      exact zYes (cE (xOsv rfl xC rfl (eqI _ _) rfl)) (zExpr (xCall (args 0) r))
    · rw [show chkV w d = some i from e] at cv
      obtain ⟨ps, r⟩ := cv
      obtain ⟨ps2, r2⟩ := run_X (ss := ss) hd r
      exact zYes (cE (xOsv rfl xC rfl (eqI _ _) rfl)) (zExprX (xCallX (args 0) r2))
  · refine ⟨fun e => ?_, fun i e => ?_⟩
    · obtain ⟨l, rfl, hl, hl2⟩ := chk_numsV hv e
      obtain ⟨ps, r⟩ := exchanges_ok h hl (by omega) hs false
      exact zNo (cE (xOsv rfl xC rfl (eqI _ _) rfl)) (zYes (cE (xOsv rfl xC rfl (eqI _ _) rfl)) (zExpr (xCall (args 1) r)))
    · rw [show chkV w d = some i from e] at cv
      obtain ⟨ps, r⟩ := cv
      obtain ⟨ps2, r2⟩ := exc_X (ss := ss) hd r
      exact zNo (cE (xOsv rfl xC rfl (eqI _ _) rfl)) (zYes (cE (xOsv rfl xC rfl (eqI _ _) rfl)) (zExprX (xCallX (args 1) r2)))
  · refine ⟨fun e => ?_, fun i e => ?_⟩
    · rw [show chkV w d = none from e] at cv
      obtain ⟨ps, r⟩ := cv
      obtain ⟨l, rfl, hl, hl2⟩ := chk_numsV hv e
      have s0 := srcN (m := m_trace) (args 2) hcold (trace_N hd r) (trace_ok h hl (by omega) hs)
      have c8 : eLc (noXs (gSrcX m_trace mx_trace (aCons (eN 1) (aCons (eN 2) aNil)))) lg1__law_outcome tYesM le1__law_outcome [4] [some (.int 2), some (net false w ss), some (.lst false (nums l)), none, none] = .ok (.lst true ((rowsT ss l).map fun r => .lst false (nums r))) [some (.int 2), some (net false w ss), some (.lst false (nums l)), none, none] := by
        refine xLcA (i := 4) (fun r => D.lst false (nums r)) (fun r => D.lst false (nums r)) (rowsT ss l) (wNx s0) rfl ?_ (by show 4 < 5; decide) rfl (fun r hr => rfl) (fun r hr => ?_) rfl
        · unfold rowsT
          rw [List.length_map, List.length_range]
          omega
        · exact xN rfl rfl
      exact zNo (cE (xOsv rfl xC rfl (eqI _ _) rfl)) (zNo (cE (xOsv rfl xC rfl (eqI _ _) rfl)) (zYes (cE (xOsv rfl xC rfl (eqI _ _) rfl)) (zExpr (lcX_n s0 c8))))
    · rw [show chkV w d = some i from e] at cv
      obtain ⟨ps, r⟩ := cv
      exact zNo (cE (xOsv rfl xC rfl (eqI _ _) rfl)) (zNo (cE (xOsv rfl xC rfl (eqI _ _) rfl)) (zYes (cE (xOsv rfl xC rfl (eqI _ _) rfl)) (zExprX (lcX_x (srcX (args 2) hcold (trace_X hd r))))))
  · obtain ⟨i1, i2⟩ := inv_V hv
    refine ⟨fun e => ?_, fun i e => ?_⟩
    · obtain ⟨v, ps, r⟩ := i1 e
      exact zNo (cE (xOsv rfl xC rfl (eqI _ _) rfl)) (zNo (cE (xOsv rfl xC rfl (eqI _ _) rfl)) (zNo (cE (xOsv rfl xC rfl (eqI _ _) rfl)) (zExpr (xCall (xACons (xN rfl hd) xANil) r))))
    · obtain ⟨ps, r⟩ := i2 i e
      exact zNo (cE (xOsv rfl xC rfl (eqI _ _) rfl)) (zNo (cE (xOsv rfl xC rfl (eqI _ _) rfl)) (zNo (cE (xOsv rfl xC rfl (eqI _ _) rfl)) (zExprX (xCallX (xACons (xN rfl hd) xANil) r))))
def RV : Option D → D
  | none => .lst true [.str "result", .non]
  | some i => .lst true [.str "values", i, .bl true]
theorem rOf_ix {c w : Int} {d i : D} (h : rOf c w d = some i) : Ix i := by
  unfold rOf at h
  split at h
  · exact chkV_ix h
  · exact chkI_ix h
theorem outcome_ok {w : Int} {ss : List Int} (h : okS w ss) (hw : 1 ≤ w) (h2 : w ≤ 40) (hs : ss.length ≤ 1000) {d : D} (hv : Vv d) (c : Int) (hc : c = 0 ∨ c = 1 ∨ c = 2 ∨ c = 3) : ∃ ps, m__law_outcome [.int c, net false w ss, d] = .ok (RV (rOf c w d)) ps := by
  obtain ⟨f1, f2'⟩ := F0_ok h hw h2 hs hv c hc
  cases e : rOf c w d with
  | none =>
    refine ⟨_, fn_go rfl (?_ : b__law_outcome [some (.int c), some (net false w ss), some d, none, none] = SR.ret (RV none) [some (.int c), some (net false w ss), some d, none, none])⟩
    unfold b__law_outcome tb2__law_outcome
    exact zTryR (zSeq (f1 e) (zRet (xLst (xACons xC (xACons xC xANil)) rfl)))
  | some i =>
    have xf : oXf okx_index "index" [.xc 103 [("index", i)]] = some (.val i) := by
      rcases rOf_ix e with rfl | ⟨k, rfl⟩ <;> rfl
    refine ⟨_, fn_go rfl (?_ : b__law_outcome [some (.int c), some (net false w ss), some d, none, none] = SR.ret (RV (some i)) [some (.int c), some (net false w ss), some d, none, none])⟩
    unfold b__law_outcome tb2__law_outcome
    refine zTryX (zSeqX (f2' i e)) (zHere (st1 := [some (.int c), some (net false w ss), some d, some (.xc 103 [("index", i)]), none]) rfl ?_)
    unfold hs3__law_outcome
    exact zRet (xLst (xACons xC (xACons (xOs rfl xf rfl) (xACons (xAndT (xOsv rfl xC rfl (show oIsiX isx_NetworkError 100 [.xc 103 [("index", i)], .cls 100] = some (.val (.bl true)) from rfl) rfl) (xNot (p := false) (xOsv rfl xC rfl (show oIsiX isx_InvalidStep 102 [.xc 103 [("index", i)], .cls 102] = some (.val (.bl false)) from rfl) rfl))) xANil))) rfl)
/-! ### what is expected -/
theorem intD_eq (d : D) : intD d = (isI d && !isB d) := by cases d <;> rfl
theorem exp_loop (A B L : D) : ∀ (xs : List D) (k : Nat) (x y : Option D), (∀ d ∈ xs, Vd d) → ∃ x' y', forD fg1__law_expected fb1__law_expected (enumD k xs) [some A, some B, some L, x, y] = (match bad k xs with
    | none => .next [some A, some B, some L, x', y']
    | some i => .ret (RV (some (.int (i : Int)))) [some A, some B, some L, x', y'])
  | [], k, x, y, _ => ⟨x, y, rfl⟩
  | d :: ds, k, x, y, h => by
    have hd := h d List.mem_cons_self
    have q1 := isi_intV hd
    have q2 := isi_boolV hd
    have bar : fb1__law_expected [some A, some B, some L, some (.int (k : Int)), some d] = (if intD d then .next [some A, some B, some L, some (.int (k : Int)), some d] else .ret (RV (some (.int (k : Int)))) [some A, some B, some L, some (.int (k : Int)), some d]) := by
      have ret : sRet (eLst (aCons (eC (.str "values")) (aCons (eN 3) (aCons (eC (.bl true)) aNil)))) [some A, some B, some L, some (.int (k : Int)), some d] = .ret (RV (some (.int (k : Int)))) [some A, some B, some L, some (.int (k : Int)), some d] :=
        zRet (xLst (xACons xC (xACons (xN rfl rfl) (xACons xC xANil))) rfl)
      unfold fb1__law_expected
      rw [intD_eq]
      cases hi : isI d with
      | false =>
        rw [hi] at q1
        exact zYes (cOrT (cNotT (cE (xOsv rfl xC rfl q1 rfl)))) ret
      | true =>
        rw [hi] at q1
        cases hb : isB d with
        | false =>
          rw [hb] at q2
          exact zNo (cOrF (cNotF (cE (xOsv rfl xC rfl q1 rfl))) (cE (xOsv rfl xC rfl q2 rfl))) rfl
        | true =>
          rw [hb] at q2
          exact zYes (cOrF (cNotF (cE (xOsv rfl xC rfl q1 rfl))) (cE (xOsv rfl xC rfl q2 rfl))) ret
    rw [enumD_cons, bad_cons]
    cases hi : intD d with
    | true =>
      rw [hi] at bar
      obtain ⟨x', y', q⟩ := exp_loop A B L ds (k + 1) (some (.int (k : Int))) (some d) fun z hz => h z (List.mem_cons_of_mem _ hz)
      rw [if_pos rfl]
      exact ⟨x', y', forD_cons (st1 := [some A, some B, some L, some (.int (k : Int)), some d]) rfl bar q⟩
    | false =>
      rw [hi] at bar
      rw [if_neg (by decide)]
      exact ⟨some (.int (k : Int)), some d, forD_ret (st1 := [some A, some B, some L, some (.int (k : Int)), some d]) rfl bar⟩
theorem ltI (a b : Int) : f2 pLt [.int a, .int b] = some (.val (.bl (decide (a < b)))) := lt_i
theorem expected_ok {w : Int} {d : D} (hv : Vv d) (c : Int) : ∃ ps, m__law_expected [.int c, .int w, d] = .ok (RV (rOf c w d)) ps := by
  have q := isi_listV hv.1
  cases hL : isL d with
  | false =>
    rw [hL] at q
    have e : rOf c w d = some .non := by
      unfold rOf
      rw [notLV hL, notL hL]
      split <;> rfl
    rw [e]
    refine ⟨_, fn_go rfl (?_ : b__law_expected [some (.int c), some (.int w), some d, none, none] = SR.ret (RV (some .non)) [some (.int c), some (.int w), some d, none, none])⟩
    unfold b__law_expected
    exact zSeqR (zYes (cOrT (cNotT (cE (xOsv rfl xC rfl q rfl)))) (zRet (xLst (xACons xC (xACons xC (xACons xC xANil))) rfl)))
  | true =>
    rw [hL] at q
    obtain ⟨xs, rfl, h2, h3⟩ := isL_lst hv hL
    have hcold : colds xs = true := List.all_eq_true.mpr fun d hd => vd_cold (h3 d hd)
    obtain ⟨x', y', q2⟩ := exp_loop (.int c) (.int w) (.lst false xs) xs 0 none none h3
    have n : f2 pNe [.int (xs.length : Int), .int w] = some (.val (.bl (!decide ((xs.length : Int) = w)))) := ne_of (pNe_int _ _)
    -- the loop
    have tail : tOrM (tNotM (tE (eOp (oIsiB "list") [.s 2, .v (eC (.ty "list"))]))) (tAndM (tE (eOp (f2 pLt) [.s 0, .v (eC (.int 3))])) (tE (eOp (f2 pNe) [.v (eOp oLen [.s 2]), .s 1]))) [some (.int c), some (.int w), some (.lst false xs), none, none] = .ok false [some (.int c), some (.int w), some (.lst false xs), none, none] →
        ∃ ps, m__law_expected [.int c, .int w, .lst false xs] = .ok (RV (chkI (.lst false xs))) ps := fun t => by
      cases hb : bad 0 xs with
      | none =>
        rw [hb] at q2
        rw [show chkI (.lst false xs) = none by show (bad 0 xs).map _ = _; rw [hb]; rfl]
        refine ⟨_, fn_go rfl (?_ : b__law_expected [some (.int c), some (.int w), some (.lst false xs), none, none] = SR.ret (RV none) [some (.int c), some (.int w), some (.lst false xs), x', y'])⟩
        unfold b__law_expected
        exact zSeq (zNo t rfl) (zSeq (zFor (wEn0 (xN rfl rfl) hcold) q2) (zRet (xLst (xACons xC (xACons xC xANil)) rfl)))
      | some i =>
        rw [hb] at q2
        rw [show chkI (.lst false xs) = some (.int (i : Int)) by show (bad 0 xs).map _ = _; rw [hb]; rfl]
        refine ⟨_, fn_go rfl (?_ : b__law_expected [some (.int c), some (.int w), some (.lst false xs), none, none] = SR.ret (RV (some (.int (i : Int)))) [some (.int c), some (.int w), some (.lst false xs), x', y'])⟩
        unfold b__law_expected
        exact zSeq (zNo t rfl) (zSeqR (zFor (wEn0 (xN rfl rfl) hcold) q2))
    by_cases hc : c < 3
    · have l3 := ltI c 3
      rw [decide_eq_true hc] at l3
      have e1 : rOf c w (.lst false xs) = chkV w (.lst false xs) := if_pos hc
      rw [e1]
      by_cases hw : (xs.length : Int) = w
      · rw [show chkV w (.lst false xs) = chkI (.lst false xs) from if_pos hw]
        rw [decide_eq_true hw] at n
        exact tail (cOrF (cNotF (cE (xOsv rfl xC rfl q rfl))) (cAndT (cE (xOsv rfl xC rfl l3 rfl)) (cE (xOvs (xOs rfl len_any rfl) rfl n rfl))))
      · rw [show chkV w (.lst false xs) = some .non from if_neg hw]
        rw [decide_eq_false hw] at n
        refine ⟨_, fn_go rfl (?_ : b__law_expected [some (.int c), some (.int w), some (.lst false xs), none, none] = SR.ret (RV (some .non)) [some (.int c), some (.int w), some (.lst false xs), none, none])⟩
        unfold b__law_expected
        exact zSeqR (zYes (cOrF (cNotF (cE (xOsv rfl xC rfl q rfl))) (cAndT (cE (xOsv rfl xC rfl l3 rfl)) (cE (xOvs (xOs rfl len_any rfl) rfl n rfl)))) (zRet (xLst (xACons xC (xACons xC (xACons xC xANil))) rfl)))
    · have l3 := ltI c 3
      rw [decide_eq_false hc] at l3
      rw [show rOf c w (.lst false xs) = chkI (.lst false xs) from if_neg hc]
      exact tail (cOrF (cNotF (cE (xOsv rfl xC rfl q rfl))) (cAndF (cE (xOsv rfl xC rfl l3 rfl))))
theorem rv_same {r : Option D} (h : ∀ i, r = some i → Ix i) : f2 pNe [RV r, RV r] = some (.val (.bl false)) := by
  cases r with
  | none => kernel_rfl
  | some i =>
    rcases h i rfl with rfl | ⟨k, rfl⟩
    · kernel_rfl
    · have e : pNe (RV (some (.int (k : Int)))) (RV (some (.int (k : Int)))) = some (.bl false) := by
        simp [pNe, RV, toPy, toPyL, PySem.SeqAt.shaped, PySem.PyData.eqv, PySem.PyData.eqvAll, PySem.PyData.canLay0, PySem.PyData.canLayAll0, PySem.PyData.depth, PySem.PyData.depthAll]
        kernel_rfl
      exact ne_of e
/-! ### one turn of the law -/
theorem vds_frz : ∀ {xs : List D}, (∀ d ∈ xs, Vd d) → frzL xs = xs
  | [], _ => rfl
  | d :: ds, h => by rw [frzL, vd_frz (h d List.mem_cons_self), vds_frz fun e he => h e (List.mem_cons_of_mem _ he)]
theorem vds_colds {xs : List D} (h : ∀ d ∈ xs, Vd d) : colds xs = true := List.all_eq_true.mpr fun d hd => vd_cold (h d hd)
theorem vd_list {xs : List D} (h : ∀ d ∈ xs, Vd d) : Vd (.lst false xs) := .it (.lst xs (vds_frz h))
theorem vv_list {xs : List D} (h : ∀ d ∈ xs, Vd d) (hl : xs.length ≤ 40) : Vv (.lst false xs) := ⟨vd_list h, fun o ys e => by cases e; exact ⟨rfl, hl, h⟩⟩
theorem vd_nums (l : List Int) : ∀ d ∈ nums l, Vd d := fun d hd => by
  obtain ⟨x, _, rfl⟩ := List.mem_map.mp hd
  exact .it (.int x)
theorem frz_l {xs : List D} (h : ∀ d ∈ xs, Vd d) : frz (.lst true xs) = .lst false xs := by
  show D.lst false (frzL xs) = _
  rw [vds_frz h]
abbrev T (ns : List Int) (i a b w : Int) (nt : D) (g : List Int) (q : Int) (s7 : D) (y8 y9 y10 y11 : Option D) : Sl :=
  [some (.scr ns), some (.int i), some (.lst true [.int a, .int b]), some (.int w), some nt, some (.lst false (nums g)), some (.int q), some s7, y8, y9, y10, y11]
theorem turn_ok {ns : List Int} {i a b w : Int} {nt : D} {g : List Int} {q : Int} {items : List D} {v : D} {y9 y10 y11 : Option D} (hv : Vd v) (hg : (g.length : Int) = w) (w9 : w ≤ 9) (h0 : 0 ≤ q) (h1 : q < w) (hI : ∀ d ∈ items, Vv d) (hl : items.length ≤ 100) :
    ∃ items', (∀ d ∈ items', Vv d) ∧ items'.length = items.length + 3 ∧ fb9_law (T ns i a b w nt g q (.lst true items) (some v) y9 y10 y11) = .next (T ns i a b w nt g q (.lst true items') (some v) y9 y10 y11) := by
  obtain ⟨p, hp⟩ : ∃ p : Nat, q = (p : Int) := ⟨q.toNat, by omega⟩
  obtain ⟨k, hk⟩ : ∃ k : Nat, w - q = (k : Int) := ⟨(w - q).toNat, by omega⟩
  have v1 : ∀ d ∈ [v], Vd d := fun d hd => by rw [List.mem_singleton.mp hd]; exact hv
  have vA1 : ∀ d ∈ nums (g.take p) ++ [v], Vd d := fun d hd => (List.mem_append.mp hd).elim (vd_nums _ d) (v1 d)
  have vA : ∀ d ∈ nums (g.take p) ++ [v] ++ nums (g.drop (p + 1)), Vd d := fun d hd => (List.mem_append.mp hd).elim (vA1 d) (vd_nums _ d)
  have vR : ∀ d ∈ List.replicate k v, Vd d := fun d hd => by rw [(List.mem_replicate.mp hd).2]; exact hv
  have vB : ∀ d ∈ nums (g.take p) ++ List.replicate k v, Vd d := fun d hd => (List.mem_append.mp hd).elim (vd_nums _ d) (vR d)
  have vC : ∀ d ∈ nums g ++ [v], Vd d := fun d hd => (List.mem_append.mp hd).elim (vd_nums _ d) (v1 d)
  have l1 : (nums (g.take p)).length ≤ 9 := by rw [nums_len, List.length_take]; omega
  have l2 : (nums (g.drop (p + 1))).length ≤ 9 := by rw [nums_len, List.length_drop]; omega
  have l3 : (nums g).length ≤ 9 := by rw [nums_len]; omega
  have s01 : oS01 [.lst false (nums g), .int q] = some (.newL (nums (g.take p))) := s01_n hp (by omega)
  have s10 : oS10 [.lst false (nums g), .int (q + 1)] = some (.newL (nums (g.drop (p + 1)))) := s10_n (by omega) (by omega)
  have lA1 : (nums (g.take p) ++ [v]).length ≤ 10 := by rw [List.length_append, List.length_singleton]; omega
  have a1 : oAdd [.lst true (nums (g.take p)), .lst true [v]] = some (.newL (nums (g.take p) ++ [v])) := add_any (vds_colds vA1) (by rw [List.length_singleton]; omega)
  have a2 : oAdd [.lst true (nums (g.take p) ++ [v]), .lst true (nums (g.drop (p + 1)))] = some (.newL (nums (g.take p) ++ [v] ++ nums (g.drop (p + 1)))) := add_any (vds_colds vA) (by omega)
  have rp : oMul [.lst true [v], .int (w - q)] = some (.newL (List.replicate k v)) := by rw [hk]; exact rep_d (vd_cold hv) (by omega)
  have lR : (List.replicate k v).length ≤ 9 := by rw [List.length_replicate]; omega
  have a3 : oAdd [.lst true (nums (g.take p)), .lst true (List.replicate k v)] = some (.newL (nums (g.take p) ++ List.replicate k v)) := add_any (vds_colds vB) (by omega)
  have a4 : oAdd [.lst false (nums g), .lst true [v]] = some (.newL (nums g ++ [v])) := add_any (vds_colds vC) (by rw [List.length_singleton]; omega)
  have lA : (nums (g.take p) ++ [v] ++ nums (g.drop (p + 1))).length ≤ 40 := by rw [List.length_append]; omega
  have lB : (nums (g.take p) ++ List.replicate k v).length ≤ 40 := by rw [List.length_append]; omega
  have lC : (nums g ++ [v]).length ≤ 40 := by rw [List.length_append, List.length_singleton]; omega
  generalize nums (g.take p) ++ [v] ++ nums (g.drop (p + 1)) = A at *
  generalize nums (g.take p) ++ List.replicate k v = B at *
  generalize hC : nums g ++ [v] = C at *
  have vv : ∀ d ∈ items ++ [.lst false A, .lst false B], Vv d := fun d hd => by
    rcases List.mem_append.mp hd with z | z
    · exact hI d z
    · rcases List.mem_cons.mp z with z | z
      · rw [z]; exact vv_list vA lA
      · rw [List.mem_singleton.mp z]; exact vv_list vB lB
  have a5 : oAdd [.lst true items, .lst false [.lst false A, .lst false B]] = some (.newL (items ++ [.lst false A, .lst false B])) := add_any (vds_colds fun d hd => (vv d hd).1) (by show items.length + 2 ≤ _; omega)
  refine ⟨items ++ [.lst false A, .lst false B] ++ [.lst false C], fun d hd => ?_, by simp, ?_⟩
  · rcases List.mem_append.mp hd with z | z
    · exact vv d z
    · rw [List.mem_singleton.mp z]; exact vv_list vC lC
  · unfold fb9_law
    refine zSeq (st1 := T ns i a b w nt g q (.lst true (items ++ [.lst false A, .lst false B])) (some v) y9 y10 y11) ?_ ?_
    · unfold st7_law
      have eA : eOp oAdd [.v (eOp oAdd [.v (eOp oS01 [.s 5, .s 6]), .v (eLst (aCons (eN 8) aNil))]), .v (eOp oS10 [.s 5, .v (eOp oAdd [.s 6, .v (eC (.int 1))])])] (T ns i a b w nt g q (.lst true items) (some v) y9 y10 y11) = .ok (.lst true A) (T ns i a b w nt g q (.lst true items) (some v) y9 y10 y11) :=
        xOvv (xOvv (xOss rfl rfl s01 rfl) (xLst (xACons (xN rfl (vd_hot hv)) xANil) rfl) a1 rfl) (xOsv rfl (xOsv rfl xC rfl add_i rfl) rfl s10 rfl) a2 rfl
      have eB : eOp oAdd [.v (eOp oS01 [.s 5, .s 6]), .v (eOp oMul [.v (eLst (aCons (eN 8) aNil)), .v (eOp oSub [.s 3, .s 6])])] (T ns i a b w nt g q (.lst true items) (some v) y9 y10 y11) = .ok (.lst true B) (T ns i a b w nt g q (.lst true items) (some v) y9 y10 y11) :=
        xOvv (xOss rfl rfl s01 rfl) (xOvv (xLst (xACons (xN rfl (vd_hot hv)) xANil) rfl) (xOss rfl rfl sub_i rfl) rp rfl) a3 rfl
      exact zAsg (d := .lst true (items ++ [.lst false A, .lst false B])) (xOsv rfl (xFz (d := .lst true [.lst false A, .lst false B]) (xLst (xACons (xFz eA (frz_l vA)) (xACons (xFz eB (frz_l vB)) xANil)) rfl) (frz_l fun d hd => (vv d (List.mem_append_right _ hd)).1)) rfl a5 rfl) rfl
    · unfold st8_law
      exact zExpr (xApp rfl rfl (xFz (xOsv rfl (xLst (xACons (xN rfl (vd_hot hv)) xANil) rfl) rfl a4 rfl) (frz_l vC)) rfl (by simp; omega) rfl)
theorem zip_ok {ns : List Int} {i a b w : Int} {ss g : List Int} {q : Int} {s7 : D} {y8 y9 y10 : Option D} {o : Bool} : st13_law (T ns i a b w (net o w ss) g q s7 y8 y9 y10 none) = .next (T ns i a b w (net false w ss) g q s7 y8 y9 y10 none) := by
  have cv := check_V (d := .non) w ⟨.it .non, fun _ _ e => by cases e⟩
  obtain ⟨ps, r⟩ := cv
  have tx := trace_X (ss := ss) rfl r
  have ar : aCons (eN 4) (aCons (eC .non) aNil) (T ns i a b w (net o w ss) g q s7 y8 y9 y10 none) = .ok [net false w ss, .non] (T ns i a b w (net false w ss) g q s7 y8 y9 y10 none) := by
    cases o with
    | true => exact xACons (xNf rfl rfl frz_net rfl) (xACons xC xANil)
    | false => exact xACons (xN rfl rfl) (xACons xC xANil)
  have s0 : iZ0 (gSrcX m_trace mx_trace (aCons (eN 4) (aCons (eC .non) aNil))) (T ns i a b w (net o w ss) g q s7 y8 y9 y10 none) = .ok [] (T ns i a b w (net false w ss) g q s7 y8 y9 y10 none) := by
    unfold iZ0
    rw [srcX (m := m_trace) (mx := mx_trace) ar rfl tx]
  have c : eLc (noXs (iZ0 (gSrcX m_trace mx_trace (aCons (eN 4) (aCons (eC .non) aNil))))) lg11_law tYesM le11_law [11] (T ns i a b w (net o w ss) g q s7 y8 y9 y10 none) = .ok (.lst true []) (T ns i a b w (net false w ss) g q s7 y8 y9 y10 none) :=
    xLcA (i := 11) D.int D.int ([] : List Int) (wNx s0) rfl (by decide) (by show 11 < 12; decide) rfl (fun x hx => nomatch hx) (fun x hx => nomatch hx) rfl
  unfold st13_law
  exact zNo (cE (xOvv c (xFz (d' := .lst false []) (xLst xANil rfl) rfl) (show f2 pNe [.lst true [], .lst false []] = some (.val (.bl false)) by kernel_rfl) rfl)) rfl
theorem pair_ok {ns : List Int} {i a b w : Int} {ss g : List Int} {q : Int} {s7 : D} {y8 : Option D} (h : okS w ss) (hw : 1 ≤ w) (h2 : w ≤ 40) (hs : ss.length ≤ 1000) {d : D} (hv : Vv d) (c : Int) (hc : c = 0 ∨ c = 1 ∨ c = 2 ∨ c = 3) :
    fb16_law (T ns i a b w (net false w ss) g q s7 y8 (some d) (some (.int c)) none) = .next (T ns i a b w (net false w ss) g q s7 y8 (some d) (some (.int c)) none) := by
  obtain ⟨p1, e1⟩ := outcome_ok h hw h2 hs hv c hc
  obtain ⟨p2, e2⟩ := expected_ok (w := w) hv c
  unfold fb16_law st15_law
  exact zNo (cE (xOvv (xCall (xACons (xN rfl rfl) (xACons (xN rfl rfl) (xACons (xN rfl (vd_hot hv.1)) xANil))) e1) (xCall (xACons (xN rfl rfl) (xACons (xN rfl rfl) (xACons (xN rfl (vd_hot hv.1)) xANil))) e2) (rv_same fun i e => rOf_ix e) rfl)) rfl
theorem four_ok {ns : List Int} {i a b w : Int} {ss g : List Int} {q : Int} {s7 : D} {y8 y10 : Option D} (h : okS w ss) (hw : 1 ≤ w) (h2 : w ≤ 40) (hs : ss.length ≤ 1000) {d : D} (hv : Vv d) :
    fb18_law (T ns i a b w (net false w ss) g q s7 y8 (some d) y10 none) = .next (T ns i a b w (net false w ss) g q s7 y8 (some d) (some (.int 3)) none) := by
  unfold fb18_law
  refine zFor (ds := [.int 0, .int 1, .int 2, .int 3]) (wR1 (n := 4) xC rfl rfl) ?_
  refine forD_cons rfl (pair_ok h hw h2 hs hv 0 (.inl rfl)) ?_
  refine forD_cons rfl (pair_ok h hw h2 hs hv 1 (.inr (.inl rfl))) ?_
  refine forD_cons rfl (pair_ok h hw h2 hs hv 2 (.inr (.inr (.inl rfl)))) ?_
  exact forD_cons rfl (pair_ok h hw h2 hs hv 3 (.inr (.inr (.inr rfl)))) rfl
theorem body_ok (ns : List Int) (hns : ns.length ≤ 63) (i : Int) (i0 : 0 ≤ i) (i8 : i < 100) (y2 y3 y4 y5 y6 y7 y8 y9 y10 : Option D) : ∃ z2 z3 z4 z5 z6 z7 z8 z9 z10, fb20_law [some (.scr ns), some (.int i), y2, y3, y4, y5, y6, y7, y8, y9, y10, none] = .next [some (.scr ns), some (.int i), z2, z3, z4, z5, z6, z7, z8, z9, z10, none] := by
  obtain ⟨a0, b0, p0, e0⟩ := source_ok ns i i0 i8 hns
  obtain ⟨r1, a1, b1, r10, r11, e1⟩ := draw_ok a0 b0 9 (by decide) (by decide)
  obtain ⟨w, hw⟩ : ∃ w : Int, w = 1 + r1 := ⟨_, rfl⟩
  obtain ⟨r2, a2, b2, r20, r21, e2⟩ := draw_ok a1 b1 6 (by decide) (by decide)
  obtain ⟨ss, a3, b3, hss, lss, e3⟩ := steps_ok a2 b2 w r2 (by omega) (by omega) r20 (by omega)
  obtain ⟨p4, e4⟩ := init_ok (w := w) (by omega) (by omega) hss (by omega) true
  obtain ⟨g, a4, b4, hg, e5⟩ := law_values_ok a3 b3 w (by omega) (by omega)
  obtain ⟨q, a5, b5, q0, q1, e6⟩ := draw_ok a4 b4 w (by omega) (by omega)
  have s1 : st1_law [some (.scr ns), some (.int i), y2, y3, y4, y5, y6, y7, y8, y9, y10, none] = .next [some (.scr ns), some (.int i), some (.lst true [.int a0, .int b0]), y3, y4, y5, y6, y7, y8, y9, y10, none] := by
    unfold st1_law
    exact zAsg (xCall (xACons (xN rfl rfl) (xACons (xN rfl rfl) xANil)) e0) rfl
  have s2 : st2_law [some (.scr ns), some (.int i), some (.lst true [.int a0, .int b0]), y3, y4, y5, y6, y7, y8, y9, y10, none] = .next [some (.scr ns), some (.int i), some (.lst true [.int a1, .int b1]), some (.int w), y4, y5, y6, y7, y8, y9, y10, none] := by
    unfold st2_law
    refine zAsg (xOvv xC (xCallL xANil rfl (xACons xC xANil) rfl rfl e1 rfl rfl) add_i rfl) ?_
    rw [hw]
    rfl
  have s3 : st3_law [some (.scr ns), some (.int i), some (.lst true [.int a1, .int b1]), some (.int w), y4, y5, y6, y7, y8, y9, y10, none] = .next [some (.scr ns), some (.int i), some (.lst true [.int a3, .int b3]), some (.int w), some (net true w ss), y5, y6, y7, y8, y9, y10, none] := by
    unfold st3_law
    exact zAsg (d := net true w ss) (xMake (ds := [.int w, .lst true (nums ss)]) (xACons (xN rfl rfl) (xACons (xCallL xANil rfl (xACons (xN rfl rfl) (xACons (xCallL xANil rfl (xACons xC xANil) rfl rfl e2 rfl rfl) xANil)) rfl rfl e3 rfl rfl) xANil)) e4) rfl
  have s4 : st4_law [some (.scr ns), some (.int i), some (.lst true [.int a3, .int b3]), some (.int w), some (net true w ss), y5, y6, y7, y8, y9, y10, none] = .next [some (.scr ns), some (.int i), some (.lst true [.int a4, .int b4]), some (.int w), some (net true w ss), some (.lst false (nums g)), y6, y7, y8, y9, y10, none] := by
    unfold st4_law
    exact zAsg (d := .lst false (nums g)) (xFz (xCallL xANil rfl (xACons (xN rfl rfl) xANil) rfl rfl e5 rfl rfl) (frz_l (vd_nums g))) rfl
  have s5 : st5_law [some (.scr ns), some (.int i), some (.lst true [.int a4, .int b4]), some (.int w), some (net true w ss), some (.lst false (nums g)), y6, y7, y8, y9, y10, none] = .next [some (.scr ns), some (.int i), some (.lst true [.int a5, .int b5]), some (.int w), some (net true w ss), some (.lst false (nums g)), some (.int q), y7, y8, y9, y10, none] := by
    unfold st5_law
    exact zAsg (d := .int q) (xCallL xANil rfl (xACons (xN rfl rfl) xANil) rfl rfl e6 rfl rfl) rfl
  have l3 : (nums g).length ≤ 9 := by rw [nums_len]; omega
  have v0 : ∀ d ∈ nums g ++ [.int 0], Vd d := fun d hd => (List.mem_append.mp hd).elim (vd_nums _ d) fun z => by rw [List.mem_singleton.mp z]; exact .it (.int 0)
  have ad : oAdd [.lst false (nums g), .lst true [.int 0]] = some (.newL (nums g ++ [.int 0])) := add_any (vds_colds v0) (by show (nums g).length + 1 ≤ _; omega)
  have s10 : oS10 [.lst false (nums g), .int 1] = some (.newL (nums (g.drop 1))) := s10_n rfl (by omega)
  have tp : oTuple [.lst false (nums g)] = some (.newT (nums g)) := by
    show (if colds (nums g) && decide ((nums g).length ≤ 16777216) then some (Out.newT (nums g)) else none) = _
    rw [nums_colds, decide_eq_true (by omega : (nums g).length ≤ 16777216)]
    rfl
  have s6 : st6_law [some (.scr ns), some (.int i), some (.lst true [.int a5, .int b5]), some (.int w), some (net true w ss), some (.lst false (nums g)), some (.int q), y7, y8, y9, y10, none] = .next (T ns i a5 b5 w (net true w ss) g q (.lst true [.lst false (nums g), .lst false (nums g ++ [.int 0]), .lst false (nums (g.drop 1)), .lst false [], .non, .tup (nums g), .str "", .dic false [], .int 5]) y8 y9 y10 none) := by
    unfold st6_law
    refine zAsg (xLst (xACons (xN rfl rfl) (xACons (xFz (xOsv rfl (xLst (xACons xC xANil) rfl) rfl ad rfl) (frz_l v0)) (xACons (xFz (xOsv rfl xC rfl s10 rfl) (frz_l (vd_nums _))) (xACons (xFz (d' := .lst false []) (xLst xANil rfl) rfl) (xACons xC (xACons (xOs rfl tp rfl) (xACons xC (xACons (xFz (d' := .dic false []) xDn rfl) (xACons xC xANil))))))))) rfl) rfl
  have vv0 : ∀ d ∈ [D.lst false (nums g), .lst false (nums g ++ [.int 0]), .lst false (nums (g.drop 1)), .lst false [], .non, .tup (nums g), .str "", .dic false [], .int 5], Vv d := fun d hd => by
    have ld : (nums (g.drop 1)).length ≤ 40 := by rw [nums_len, List.length_drop]; omega
    have lq : (nums g ++ [D.int 0]).length ≤ 40 := by rw [List.length_append, List.length_singleton]; omega
    simp only [List.mem_cons, List.mem_nil_iff, or_false] at hd
    rcases hd with rfl | rfl | rfl | rfl | rfl | rfl | rfl | rfl | rfl
    · exact vv_list (vd_nums g) (by omega)
    · exact vv_list v0 lq
    · exact vv_list (vd_nums _) ld
    · exact vv_list (fun d hd => nomatch hd) (by decide)
    · exact ⟨.it .non, fun _ _ e => by cases e⟩
    · exact ⟨.it (it_tup g), fun _ _ e => by cases e⟩
    · exact ⟨.it (.str _), fun _ _ e => by cases e⟩
    · exact ⟨.dic, fun _ _ e => by cases e⟩
    · exact ⟨.it (.int 5), fun _ _ e => by cases e⟩
  obtain ⟨I1, v1, n1, t1⟩ := turn_ok (ns := ns) (i := i) (a := a5) (b := b5) (nt := net true w ss) (g := g) (q := q) (y9 := y9) (y10 := y10) (y11 := none) (v := .non) (.it .non) hg (by omega) q0 q1 vv0 (Nat.le_of_ble_eq_true rfl)
  obtain ⟨I2, v2, n2, t2⟩ := turn_ok (ns := ns) (i := i) (a := a5) (b := b5) (nt := net true w ss) (g := g) (q := q) (y9 := y9) (y10 := y10) (y11 := none) (v := .bl true) (.it (.bl true)) hg (by omega) q0 q1 v1 (by rw [n1]; exact Nat.le_of_ble_eq_true rfl)
  obtain ⟨I3, v3, n3, t3⟩ := turn_ok (ns := ns) (i := i) (a := a5) (b := b5) (nt := net true w ss) (g := g) (q := q) (y9 := y9) (y10 := y10) (y11 := none) (v := .str "1") (.it (.str _)) hg (by omega) q0 q1 v2 (by rw [n2, n1]; exact Nat.le_of_ble_eq_true rfl)
  obtain ⟨I4, v4, n4, t4⟩ := turn_ok (ns := ns) (i := i) (a := a5) (b := b5) (nt := net true w ss) (g := g) (q := q) (y9 := y9) (y10 := y10) (y11 := none) (v := .lst false [.int 1]) (.it (it_nums [1])) hg (by omega) q0 q1 v3 (by rw [n3, n2, n1]; exact Nat.le_of_ble_eq_true rfl)
  obtain ⟨I5, v5, n5, t5⟩ := turn_ok (ns := ns) (i := i) (a := a5) (b := b5) (nt := net true w ss) (g := g) (q := q) (y9 := y9) (y10 := y10) (y11 := none) (v := .tup [.int 1]) (.it (it_tup [1])) hg (by omega) q0 q1 v4 (by rw [n4, n3, n2, n1]; exact Nat.le_of_ble_eq_true rfl)
  obtain ⟨I6, v6, n6, t6⟩ := turn_ok (ns := ns) (i := i) (a := a5) (b := b5) (nt := net true w ss) (g := g) (q := q) (y9 := y9) (y10 := y10) (y11 := none) (v := .dic false []) .dic hg (by omega) q0 q1 v5 (by rw [n5, n4, n3, n2, n1]; exact Nat.le_of_ble_eq_true rfl)
  have s9 : (sFor (iE (eLst (aCons (eC .non) (aCons (eC (.bl true)) (aCons (eC (.str "1")) (aCons (eFz (eFz (eLst (aCons (eC (.int 1)) aNil)))) (aCons (eFz (eTup (aCons (eC (.int 1)) aNil))) (aCons (eFz (eFz eDn)) aNil))))))) lstItems) fg9_law fb9_law) (T ns i a5 b5 w (net true w ss) g q (.lst true [.lst false (nums g), .lst false (nums g ++ [.int 0]), .lst false (nums (g.drop 1)), .lst false [], .non, .tup (nums g), .str "", .dic false [], .int 5]) y8 y9 y10 none) = .next (T ns i a5 b5 w (net true w ss) g q (.lst true I6) (some (.dic false [])) y9 y10 none) := by
    refine zFor (ds := [.non, .bl true, .str "1", .lst false [.int 1], .tup [.int 1], .dic false []]) (wE (xLst (xACons xC (xACons xC (xACons xC (xACons (xFz (xFz (d' := .lst false [.int 1]) (xLst (xACons xC xANil) rfl) rfl) rfl) (xACons (xFz (d' := .tup [.int 1]) (xTup (xACons xC xANil) rfl rfl) rfl) (xACons (xFz (xFz (d' := .dic false []) xDn rfl) rfl) xANil)))))) rfl) lst_it rfl) ?_
    refine forD_cons rfl t1 (forD_cons rfl t2 (forD_cons rfl t3 (forD_cons rfl t4 (forD_cons rfl t5 (forD_cons rfl t6 rfl)))))
  have vI : ∀ d ∈ I6, Vd d := fun d hd => (v6 d hd).1
  obtain ⟨st', F, y9', y10', rfl⟩ := forD_inv (g := fg18_law) (body := fb18_law) (fun st => ∃ y9 y10, st = T ns i a5 b5 w (net false w ss) g q (.lst false I6) (some (.dic false [])) y9 y10 none) I6 (T ns i a5 b5 w (net false w ss) g q (.lst false I6) (some (.dic false [])) y9 y10 none) ⟨y9, y10, rfl⟩ (fun d st hd hI => by
    obtain ⟨x9, x10, rfl⟩ := hI
    exact ⟨_, _, rfl, four_ok hss (by omega) (by omega) (by omega) (v6 d hd), _, _, rfl⟩)
  refine ⟨some (.lst true [.int a5, .int b5]), some (.int w), some (net false w ss), some (.lst false (nums g)), some (.int q), some (.lst false I6), some (.dic false []), y9', y10', ?_⟩
  · unfold fb20_law
    refine zSeq s1 (zSeq s2 (zSeq s3 (zSeq s4 (zSeq s5 (zSeq s6 (zSeq s9 (zSeq zip_ok (zFor (wE (d := .lst false I6) (xNf rfl rfl (frz_l vI) rfl) lst_it (vds_colds vI)) F))))))))
theorem law_ok (ns : List Int) (hns : ns.length ≤ 63) : ∃ ps, m_law [.scr ns] = .ok (.bl true) ps := by
  obtain ⟨st', e⟩ := tail_ok (ns := ns) (n := 12) (c := 8) (by decide) (by decide) (g := fg20_law) (B := fb20_law) (fin := st22_law) (fun st => zRet xC) (I := fun st => ∃ y1 y2 y3 y4 y5 y6 y7 y8 y9 y10, st = [some (.scr ns), y1, y2, y3, y4, y5, y6, y7, y8, y9, y10, none]) (fun st ⟨_, _, _, _, _, _, _, _, _, _, e⟩ => by rw [e]; rfl)
    (fun st i hi ⟨y1, y2, y3, y4, y5, y6, y7, y8, y9, y10, e⟩ => by
      subst e
      obtain ⟨z2, z3, z4, z5, z6, z7, z8, z9, z10, q⟩ := body_ok ns hns (i : Int) (by omega) (by omega) y2 y3 y4 y5 y6 y7 y8 y9 y10
      exact ⟨_, _, rfl, q, _, _, _, _, _, _, _, _, _, _, rfl⟩)
    (st := [some (.scr ns), none, none, none, none, none, none, none, none, none, none, none]) ⟨none, none, none, none, none, none, none, none, none, none, rfl⟩
  exact ⟨_, fn_go rfl e⟩
end Lw06

set_option maxRecDepth 100000 in
set_option maxHeartbeats 0 in
theorem PySem.Challenge.cw_nearswap_k06_errors_of_running_holds : PySem.Challenge.rw_nearswap_k06_errors_of_running.Holds := by
  w_on; o_law; k_head; (case hw => w_witness2)
  k_fill
  refine DL.walk_lawG (l := PySem.Challenge.rw_nearswap_k06_errors_of_running) (k := 8) (m := Lw06.m_law) rfl rfl ⟨rfl, by decide, by decide⟩ (fun w h Y => PySem.W.kIn_of Y) ?F Lw06.law_ok
  case F =>
    intro w mg fa h KX G hmg
    refine' Lw06.walk_fact (Lw06.all_mk KX G hmg ?a_Network ?a__law_source ?l__law_source ?q__law_source ?k__law_source ?a__law_draw ?l__law_draw ?q__law_draw ?k__law_draw ?a__law_steps ?l__law_steps ?q__law_steps ?k__law_steps ?a_is_integer ?l_is_integer ?q_is_integer ?k_is_integer ?a_check_width ?l_check_width ?q_check_width ?k_check_width ?a_check_steps ?l_check_steps ?q_check_steps ?k_check_steps ?a_Network___init__ ?i_Network___init__ ?l_Network___init__ ?q_Network___init__ ?k_Network___init__ ?a__law_values ?l__law_values ?q__law_values ?k__law_values ?a_is_any_integer ?l_is_any_integer ?q_is_any_integer ?k_is_any_integer ?a_check_integers ?l_check_integers ?q_check_integers ?k_check_integers ?a_check_values ?l_check_values ?q_check_values ?k_check_values ?a_step_on ?l_step_on ?q_step_on ?k_step_on ?a_trace ?l_trace ?q_trace ?k_trace ?a_result_of ?l_result_of ?q_result_of ?k_result_of ?a_run ?l_run ?q_run ?k_run ?a_exchanges ?l_exchanges ?q_exchanges ?k_exchanges ?a_inversions ?l_inversions ?q_inversions ?k_inversions ?a__law_outcome ?l__law_outcome ?q__law_outcome ?k__law_outcome ?a__law_expected ?l__law_expected ?q__law_expected ?k__law_expected ?a_law ?l_law ?q_law ?k_law ?a_Network_steps ?ge_Network_steps ?ta_Network_steps ?rc_Network_steps ?l_Network_steps ?q_Network_steps ?k_Network_steps ?a_Network_width ?ge_Network_width ?ta_Network_width ?rc_Network_width ?l_Network_width ?q_Network_width ?k_Network_width ?pg_Network ?hd_Network ?po_Network ?sa_Network ?mk_Network ?kc_Network ?na_Network_own_steps ?na_Network_own_width ?rd_Network ?ga_Network ?cv_Network_MAX_STEPS ?cv_Network_MAX_WIDTH ?a_InvalidStep ?a_InvalidValues ?a_InvalidWidth ?a_NetworkError ?rd_NetworkError ?ga_NetworkError ?vx_NetworkError ?a_InvalidStep___init__ ?i_InvalidStep___init__ ?l_InvalidStep___init__ ?q_InvalidStep___init__ ?k_InvalidStep___init__ ?xl_InvalidStep ?rv_InvalidStep ?sa_InvalidStep ?be_InvalidStep ?ty_InvalidStep ?kc_InvalidStep ?nf_InvalidStep_index ?xg_InvalidStep ?xh_InvalidStep ?xd_InvalidStep ?xc_InvalidStep ?xa_InvalidStep ?xm_InvalidStep ?a_InvalidValues___init__ ?i_InvalidValues___init__ ?l_InvalidValues___init__ ?q_InvalidValues___init__ ?k_InvalidValues___init__ ?xl_InvalidValues ?rv_InvalidValues ?sa_InvalidValues ?be_InvalidValues ?ty_InvalidValues ?kc_InvalidValues ?nf_InvalidValues_index ?xg_InvalidValues ?xh_InvalidValues ?xd_InvalidValues ?xc_InvalidValues ?xa_InvalidValues ?xm_InvalidValues ?a_InvalidWidth___init__ ?i_InvalidWidth___init__ ?l_InvalidWidth___init__ ?q_InvalidWidth___init__ ?k_InvalidWidth___init__ ?xl_InvalidWidth ?rv_InvalidWidth ?sa_InvalidWidth ?be_InvalidWidth ?ty_InvalidWidth ?kc_InvalidWidth ?nf_InvalidWidth_value ?xg_InvalidWidth ?xh_InvalidWidth ?xd_InvalidWidth ?xc_InvalidWidth ?xa_InvalidWidth ?xm_InvalidWidth ?xn_class ?xt_class ?hb_InvalidValues ?hh_InvalidValues ?ht_InvalidValues ?es_InvalidStep_InvalidValues ?es_InvalidValues_InvalidValues ?es_InvalidWidth_InvalidValues ?kl_InvalidStep ?kt_InvalidStep ?ks_InvalidStep_InvalidStep ?ks_InvalidValues_InvalidStep ?kn_InvalidValues_InvalidStep ?ks_InvalidWidth_InvalidStep ?kn_InvalidWidth_InvalidStep ?kl_NetworkError ?kt_NetworkError ?ks_InvalidStep_NetworkError ?ks_InvalidValues_NetworkError ?ks_InvalidWidth_NetworkError ?nst_InvalidValues ?z_abs ?z_bool ?z_enumerate ?z_int ?z_isinstance ?z_len ?z_list ?z_max ?z_min ?z_range ?z_sum ?z_tuple ?z_zip)
    (case a_Network => k_is)
    (case a__law_source => k_is)
    (case l__law_source => k_is)
    (case q__law_source => k_is)
    (case k__law_source => k_is)
    (case a__law_draw => k_is)
    (case l__law_draw => k_is)
    (case q__law_draw => k_is)
    (case k__law_draw => k_is)
    (case a__law_steps => k_is)
    (case l__law_steps => k_is)
    (case q__law_steps => k_is)
    (case k__law_steps => k_is)
    (case a_is_integer => k_is)
    (case l_is_integer => k_is)
    (case q_is_integer => k_is)
    (case k_is_integer => k_is)
    (case a_check_width => k_is)
    (case l_check_width => k_is)
    (case q_check_width => k_is)
    (case k_check_width => k_is)
    (case a_check_steps => k_is)
    (case l_check_steps => k_is)
    (case q_check_steps => k_is)
    (case k_check_steps => k_is)
    (case a_Network___init__ => k_is)
    (case i_Network___init__ => k_is)
    (case l_Network___init__ => k_is)
    (case q_Network___init__ => k_is)
    (case k_Network___init__ => k_is)
    (case a__law_values => k_is)
    (case l__law_values => k_is)
    (case q__law_values => k_is)
    (case k__law_values => k_is)
    (case a_is_any_integer => k_is)
    (case l_is_any_integer => k_is)
    (case q_is_any_integer => k_is)
    (case k_is_any_integer => k_is)
    (case a_check_integers => k_is)
    (case l_check_integers => k_is)
    (case q_check_integers => k_is)
    (case k_check_integers => k_is)
    (case a_check_values => k_is)
    (case l_check_values => k_is)
    (case q_check_values => k_is)
    (case k_check_values => k_is)
    (case a_step_on => k_is)
    (case l_step_on => k_is)
    (case q_step_on => k_is)
    (case k_step_on => k_is)
    (case a_trace => k_is)
    (case l_trace => k_is)
    (case q_trace => k_is)
    (case k_trace => k_is)
    (case a_result_of => k_is)
    (case l_result_of => k_is)
    (case q_result_of => k_is)
    (case k_result_of => k_is)
    (case a_run => k_is)
    (case l_run => k_is)
    (case q_run => k_is)
    (case k_run => k_is)
    (case a_exchanges => k_is)
    (case l_exchanges => k_is)
    (case q_exchanges => k_is)
    (case k_exchanges => k_is)
    (case a_inversions => k_is)
    (case l_inversions => k_is)
    (case q_inversions => k_is)
    (case k_inversions => k_is)
    (case a__law_outcome => k_is)
    (case l__law_outcome => k_is)
    (case q__law_outcome => k_is)
    (case k__law_outcome => k_is)
    (case a__law_expected => k_is)
    (case l__law_expected => k_is)
    (case q__law_expected => k_is)
    (case k__law_expected => k_is)
    (case a_law => k_is)
    (case l_law => k_is)
    (case q_law => k_is)
    (case k_law => k_is)
    (case a_Network_steps => k_is)
    (case ge_Network_steps => k_is)
    (case ta_Network_steps => k_is)
    (case rc_Network_steps => k_is)
    (case l_Network_steps => k_is)
    (case q_Network_steps => k_is)
    (case k_Network_steps => k_is)
    (case a_Network_width => k_is)
    (case ge_Network_width => k_is)
    (case ta_Network_width => k_is)
    (case rc_Network_width => k_is)
    (case l_Network_width => k_is)
    (case q_Network_width => k_is)
    (case k_Network_width => k_is)
    (case pg_Network => k_is)
    (case hd_Network => k_is)
    (case po_Network => k_is)
    (case sa_Network => k_is)
    (case mk_Network => k_is)
    (case kc_Network => k_is)
    (case na_Network_own_steps => k_is)
    (case na_Network_own_width => k_is)
    (case rd_Network => k_is)
    (case ga_Network => k_is)
    (case cv_Network_MAX_STEPS => k_is)
    (case cv_Network_MAX_WIDTH => k_is)
    (case a_InvalidStep => k_is)
    (case a_InvalidValues => k_is)
    (case a_InvalidWidth => k_is)
    (case a_NetworkError => k_is)
    (case rd_NetworkError => k_is)
    (case ga_NetworkError => k_is)
    (case vx_NetworkError => k_is)
    (case a_InvalidStep___init__ => k_is)
    (case i_InvalidStep___init__ => k_is)
    (case l_InvalidStep___init__ => k_is)
    (case q_InvalidStep___init__ => k_is)
    (case k_InvalidStep___init__ => k_is)
    (case xl_InvalidStep => k_is)
    (case rv_InvalidStep => kernel_rfl)
    (case sa_InvalidStep => k_is)
    (case be_InvalidStep => k_is)
    (case ty_InvalidStep => k_is)
    (case kc_InvalidStep => k_is)
    (case nf_InvalidStep_index => k_is)
    (case xg_InvalidStep => k_is)
    (case xh_InvalidStep => k_is)
    (case xd_InvalidStep => k_is)
    (case xc_InvalidStep => k_is)
    (case xa_InvalidStep => k_is)
    (case xm_InvalidStep => k_is)
    (case a_InvalidValues___init__ => k_is)
    (case i_InvalidValues___init__ => k_is)
    (case l_InvalidValues___init__ => k_is)
    (case q_InvalidValues___init__ => k_is)
    (case k_InvalidValues___init__ => k_is)
    (case xl_InvalidValues => k_is)
    (case rv_InvalidValues => kernel_rfl)
    (case sa_InvalidValues => k_is)
    (case be_InvalidValues => k_is)
    (case ty_InvalidValues => k_is)
    (case kc_InvalidValues => k_is)
    (case nf_InvalidValues_index => k_is)
    (case xg_InvalidValues => k_is)
    (case xh_InvalidValues => k_is)
    (case xd_InvalidValues => k_is)
    (case xc_InvalidValues => k_is)
    (case xa_InvalidValues => k_is)
    (case xm_InvalidValues => k_is)
    (case a_InvalidWidth___init__ => k_is)
    (case i_InvalidWidth___init__ => k_is)
    (case l_InvalidWidth___init__ => k_is)
    (case q_InvalidWidth___init__ => k_is)
    (case k_InvalidWidth___init__ => k_is)
    (case xl_InvalidWidth => k_is)
    (case rv_InvalidWidth => kernel_rfl)
    (case sa_InvalidWidth => k_is)
    (case be_InvalidWidth => k_is)
    (case ty_InvalidWidth => k_is)
    (case kc_InvalidWidth => k_is)
    (case nf_InvalidWidth_value => k_is)
    (case xg_InvalidWidth => k_is)
    (case xh_InvalidWidth => k_is)
    (case xd_InvalidWidth => k_is)
    (case xc_InvalidWidth => k_is)
    (case xa_InvalidWidth => k_is)
    (case xm_InvalidWidth => k_is)
    (case xn_class => k_is)
    (case xt_class => k_is)
    (case hb_InvalidValues => k_is)
    (case hh_InvalidValues => k_is)
    (case ht_InvalidValues => k_is)
    (case es_InvalidStep_InvalidValues => k_is)
    (case es_InvalidValues_InvalidValues => k_is)
    (case es_InvalidWidth_InvalidValues => k_is)
    (case kl_InvalidStep => k_is)
    (case kt_InvalidStep => k_is)
    (case ks_InvalidStep_InvalidStep => k_is)
    (case ks_InvalidValues_InvalidStep => k_is)
    (case kn_InvalidValues_InvalidStep => kernel_rfl)
    (case ks_InvalidWidth_InvalidStep => k_is)
    (case kn_InvalidWidth_InvalidStep => kernel_rfl)
    (case kl_NetworkError => k_is)
    (case kt_NetworkError => k_is)
    (case ks_InvalidStep_NetworkError => k_is)
    (case ks_InvalidValues_NetworkError => k_is)
    (case ks_InvalidWidth_NetworkError => k_is)
    (case nst_InvalidValues => k_is)
    (case z_abs => k_is)
    (case z_bool => k_is)
    (case z_enumerate => k_is)
    (case z_int => k_is)
    (case z_isinstance => k_is)
    (case z_len => k_is)
    (case z_list => k_is)
    (case z_max => k_is)
    (case z_min => k_is)
    (case z_range => k_is)
    (case z_sum => k_is)
    (case z_tuple => k_is)
    (case z_zip => k_is)
