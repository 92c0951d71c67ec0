import PyProof.Rows.All
import Wide.All
import OpenK.AllK
import Wide.FinOn
import HandS.ForMost
import HandS.IsInst
import PyProof.EqLayable
import HandS.ForExc
import HandS.CallSlots
import HandS.Wide
import HandS.Iter
import HandS.Comp
import HandS.Conv
import HandS.Style
import HandS.Property
import HandS.ClsMeth
import PyProof.InstNe
import PyProof.InstSpecial
import KE.GoesMore
import HandS.SortInts
import HandS.Star
import HandS.TupAny
import HandS.TupMul
import HandS.CallLocal
import HandS.RaiseMore
import PyProof.ReprRoads
import KE.GoesEnum
import HandS.ExcInit
import HandS.TryMany
import HandS.ExcField
import KE.KExcIs
import PySem.Challenge.RW_nearswap_k30_hardest_lists
set_option Elab.async false
set_option linter.all false
set_option maxRecDepth 100000
/-! DL1: data, states, and the pure meanings of expressions and statements (own work: a data layer over HandS). -/
namespace DL
open PySem (Str)

/-- deep data; the Bool of a list, an instance, a dict: it is owned (nobody else has it) -/
inductive D where
  | non | bl (b : Bool) | int (i : Int) | str (x : Str)
  | lst (o : Bool) (xs : List D)
  | tup (xs : List D)
  | ins (o : Bool) (C : Nat) (fs : List (Str × D))
  | dic (o : Bool) (kvs : List (L2.Key × D))
  | scr (xs : List Int)
  | cls (C : Nat)
  | ty (n : String)
  | xc (C : Nat) (fs : List (Str × D))
  deriving Inhabited

/-- an exception: its class, its fields -/
structure Xc where
  C : Nat
  fs : List (Str × D)

abbrev Sl := List (Option D)

inductive Res (α : Type) where
  | ok (a : α) (st : Sl) | exc (x : Xc) (st : Sl) | fail

inductive SR where
  | next (st : Sl) | ret (d : D) (st : Sl) | brk (st : Sl) | cont (st : Sl) | exc (x : Xc) (st : Sl) | fail

inductive CR where
  | ok (d : D) (ps : Sl) | exc (x : Xc) (ps : Sl) | fail

abbrev ME := Sl → Res D
abbrev MA := Sl → Res (List D)
abbrev MT := Sl → Res Bool
abbrev MS := Sl → SR
abbrev MF := List D → CR
/-- an assignment's target -/
abbrev MG := D → Sl → Res Unit

mutual
def frz : D → D
  | .lst _ xs => .lst false (frzL xs)
  | .ins _ C fs => .ins false C (frzF fs)
  | .dic _ kvs => .dic false (frzK kvs)
  | .tup xs => .tup (frzL xs)
  | .non => .non
  | .bl b => .bl b
  | .int i => .int i
  | .str x => .str x
  | .scr xs => .scr xs
  | .cls C => .cls C
  | .ty n => .ty n
  | .xc C fs => .xc C fs
def frzL : List D → List D
  | [] => []
  | d :: ds => frz d :: frzL ds
def frzF : List (Str × D) → List (Str × D)
  | [] => []
  | (f, d) :: fs => (f, frz d) :: frzF fs
def frzK : List (L2.Key × D) → List (L2.Key × D)
  | [] => []
  | (f, d) :: fs => (f, frz d) :: frzK fs
end

/-- owned at the top -/
def hot : D → Bool
  | .lst o _ => o
  | .ins o _ _ => o
  | .dic o _ => o
  | _ => false

/-- what is read out of an owned thing must not be owned itself -/
def cold : D → Bool := fun d => !hot d

/-- the answer of an operation: a value without owned parts, a new list, a new tuple (of values without owned parts) -/
inductive Out where
  | val (d : D) | newL (ds : List D) | newT (ds : List D)
def Out.d : Out → D
  | .val d => d
  | .newL ds => .lst true ds
  | .newT ds => .tup ds

/-- an operand: any expression, or a slot that is only looked at (late) -/
inductive Opd where
  | v (m : ME) | s (i : Nat)

def Res.bind {α β : Type} (r : Res α) (k : α → Sl → Res β) : Res β :=
  match r with
  | .ok a st => k a st
  | .exc x st => .exc x st
  | .fail => .fail

def getS (st : Sl) (i : Nat) : Option D := (st[i]?).join

/-- operands from the left; k gets how their data is read at the end -/
def opds {β : Type} : List Opd → Sl → ((Sl → Option (List D)) → Sl → Res β) → Res β
  | [], st, k => k (fun _ => some []) st
  | .v m :: os, st, k => (m st).bind fun d st1 => opds os st1 fun gs st2 => k (fun s => (gs s).map (d :: ·)) st2
  | .s i :: os, st, k => if (getS st i).isSome then opds os st fun gs st2 => k (fun s => (getS s i).bind fun d => (gs s).map (d :: ·)) st2 else .fail

/-! ### expressions -/
def eC (d : D) : ME := fun st => .ok d st
/-- a name, its value handed on (frozen where it is owned) -/
def eN (i : Nat) : ME := fun st => match getS st i with
  | some d => if hot d then .ok (frz d) (st.set i (some (frz d))) else .ok d st
  | none => .fail
/-- a name for the last time -/
def eMv (i : Nat) : ME := fun st => match getS st i with
  | some d => .ok d (st.set i none)
  | none => .fail
/-- an operation that only looks at its operands -/
def eOp (f : List D → Option Out) (ks : List Opd) : ME := fun st => opds ks st fun gs st2 =>
  match (gs st2).bind f with
  | some o => .ok o.d st2
  | none => .fail
def eAnd (a b : ME) : ME := fun st => (a st).bind fun d st1 => match d with
  | .bl true => b st1
  | .bl false => .ok (.bl false) st1
  | _ => .fail
def eOr (a b : ME) : ME := fun st => (a st).bind fun d st1 => match d with
  | .bl true => .ok (.bl true) st1
  | .bl false => b st1
  | _ => .fail
def eNot (a : ME) : ME := fun st => (a st).bind fun d st1 => match d with
  | .bl b => .ok (.bl (!b)) st1
  | _ => .fail
def eIf (c : MT) (a b : ME) : ME := fun st => (c st).bind fun k st1 => if k then a st1 else b st1
/-- a op1 b op2 c -/
def eChain (f g : D → D → Option D) (a b c : ME) : ME := fun st => (a st).bind fun x st1 => (b st1).bind fun y st2 =>
  match f x y with
  | some (.bl true) => (c st2).bind fun z st3 => match g y z with
    | some r => .ok r st3
    | none => .fail
  | some (.bl false) => .ok (.bl false) st2
  | _ => .fail
/-- arguments whose values are handed over -/
def aNil : MA := fun st => .ok [] st
def aCons (m : ME) (ms : MA) : MA := fun st => (m st).bind fun d st1 => (ms st1).bind fun ds st2 => .ok (d :: ds) st2
/-- a list's display: its items may be owned -/
def eLst (ms : MA) : ME := fun st => (ms st).bind fun ds st1 => if ds.length ≤ 16777216 then .ok (.lst true ds) st1 else .fail
/-- a tuple's display: its items are frozen -/
def eTup (ms : MA) : ME := fun st => (ms st).bind fun ds st1 => if ds.length ≤ 16777216 then .ok (.tup (frzL ds)) st1 else .fail

/-! ### tests -/
def tE (m : ME) : MT := fun st => (m st).bind fun d st1 => match d with
  | .bl b => .ok b st1
  | _ => .fail
def tAndM (a b : MT) : MT := fun st => (a st).bind fun k st1 => if k then b st1 else .ok false st1
def tOrM (a b : MT) : MT := fun st => (a st).bind fun k st1 => if k then .ok true st1 else b st1
def tNotM (a : MT) : MT := fun st => (a st).bind fun k st1 => .ok (!k) st1

/-! ### calls of the text's defs -/
/-- a call; its arguments are handed over -/
def eCall (f : MF) (ms : MA) : ME := fun st => (ms st).bind fun ds st1 => match f ds with
  | .ok d _ => .ok d st1
  | .exc x _ => .exc x st1
  | .fail => .fail
/-- a call with a slot lent: ms the arguments ahead of it, ns behind it -/
def eCallL (f : MF) (ms : MA) (i : Nat) (ns : MA) : ME := fun st => (ms st).bind fun ds st1 => if (getS st1 i).isSome then (ns st1).bind fun es st2 =>
  (match getS st2 i with
  | some d => if hot d then (match f (ds ++ d :: es) with
      | .ok r ps => .ok r (st2.set i (getS ps ds.length))
      | .exc x ps => .exc x (st2.set i (getS ps ds.length))
      | .fail => .fail) else (match f (ds ++ d :: es) with
      | .ok r _ => .ok r st2
      | .exc x _ => .exc x st2
      | .fail => .fail)
  | none => .fail) else .fail

/-! ### statements -/
def Res.toS {α : Type} (r : Res α) (k : α → Sl → SR) : SR :=
  match r with
  | .ok a st => k a st
  | .exc x st => .exc x st
  | .fail => .fail
/-- a store's end: what a store raises is not followed -/
def Res.toN (r : Res Unit) (k : Sl → SR) : SR :=
  match r with
  | .ok _ st => k st
  | _ => .fail
def sNext : MS := fun st => .next st
def SR.thn (r : SR) (k : MS) : SR :=
  match r with
  | .next st => k st
  | r => r
def sSeq (a b : MS) : MS := fun st => (a st).thn b
def gN (i : Nat) : MG := fun d st => .ok () (st.set i (some d))
def sAsg (m : ME) (g : MG) : MS := fun st => (m st).toS fun d st1 => (g d st1).toN fun st2 => .next st2
def sExpr (m : ME) : MS := fun st => (m st).toS fun _ st1 => .next st1
def sRet (m : ME) : MS := fun st => (m st).toS fun d st1 => .ret d st1
def sRetN : MS := fun st => .ret .non st
def sIf (c : MT) (a b : MS) : MS := fun st => (c st).toS fun k st1 => if k then a st1 else b st1
def sBrk : MS := fun st => .brk st
def sCont : MS := fun st => .cont st
/-- a loop's turns -/
def forD (g : MG) (body : MS) : List D → Sl → SR
  | [], st => .next st
  | d :: ds, st => (g d st).toN fun st1 => match body st1 with
    | .next st2 => forD g body ds st2
    | .cont st2 => forD g body ds st2
    | .brk st2 => .next st2
    | r => r
def whileD (c : MT) (body : MS) : Nat → Sl → SR
  | 0, _ => .fail
  | n + 1, st => (c st).toS fun k st1 => if k then (match body st1 with
    | .next st2 => whileD c body n st2
    | .cont st2 => whileD c body n st2
    | .brk st2 => .next st2
    | r => r) else .next st1

/-! ### a def -/
/-- n parameters, w slots in all; L: the parameters that are never stored to -/
def keepL (L : List Nat) (n : Nat) (st : Sl) : Sl := (List.range n).map fun j => if j ∈ L then getS st j else none
def fn (n w : Nat) (L : List Nat) (body : MS) : MF := fun ds =>
  if ds.length = n then match body (ds.map some ++ List.replicate (w - n) none) with
    | .next st => .ok .non (keepL L n st)
    | .ret d st => .ok d (keepL L n st)
    | .exc x st => .exc x (keepL L n st)
    | _ => .fail
  else .fail
end DL

/-! DLO: the operations by data. -/
namespace DL
open PySem (Str)
/-- the items of a list or tuple that is read -/
def items : D → Option (List D)
  | .lst _ xs => some xs
  | .tup xs => some xs
  | .scr xs => some (xs.map .int)
  | _ => none
def colds (xs : List D) : Bool := xs.all cold
def SZ : Nat := 16777216
def newLc (xs : List D) : Option Out := if colds xs && decide (xs.length ≤ 16777216) then some (.newL xs) else none

def oAdd : List D → Option Out
  | [.int i, .int j] => some (.val (.int (i + j)))
  | [.lst _ xs, .lst _ ys] => newLc (xs ++ ys)
  | [.str x, .str y] => if x.length + y.length ≤ 16777216 then some (.val (.str (x ++ y))) else none
  | _ => none
def oSub : List D → Option Out
  | [.int i, .int j] => some (.val (.int (i - j)))
  | _ => none
def oMul : List D → Option Out
  | [.int i, .int j] => if (-(2 ^ 64) < i ∧ i < 2 ^ 64) ∨ (-(2 ^ 64) < j ∧ j < 2 ^ 64) then some (.val (.int (i * j))) else none
  | [.lst _ xs, .int k] => if colds xs && decide (-(2 ^ 63) ≤ k ∧ k < 2 ^ 63 ∧ xs.length * k.toNat ≤ 16777216) then some (.newL (List.replicate k.toNat xs).flatten) else none
  | _ => none
def oDiv : List D → Option Out
  | [.int i, .int j] => if 0 < j ∧ j.natAbs.log2 < 9000 then some (.val (.int (i / j))) else none
  | _ => none
def oMod : List D → Option Out
  | [.int i, .int j] => if 0 < j then some (.val (.int (i % j))) else none
  | _ => none
def oPow : List D → Option Out
  | [.int i, .int j] => if 0 ≤ j ∧ j ≤ 1000000 ∧ i.natAbs < 2 ^ 64 then some (.val (.int (i ^ j.toNat))) else none
  | _ => none
def oNeg : List D → Option Out
  | [.int i] => some (.val (.int (-i)))
  | _ => none
def pLt : D → D → Option D
  | .int i, .int j => some (.bl (decide (i < j)))
  | _, _ => none
def pLe : D → D → Option D
  | .int i, .int j => some (.bl (decide (i ≤ j)))
  | _, _ => none
def pGt : D → D → Option D
  | .int i, .int j => some (.bl (decide (j < i)))
  | _, _ => none
def pGe : D → D → Option D
  | .int i, .int j => some (.bl (decide (j ≤ i)))
  | _, _ => none
def o2 (p : D → D → Option D) : List D → Option Out
  | [x, y] => (p x y).map .val
  | _ => none

mutual
def toPy : D → PySem.PyData
  | .non => .none
  | .bl b => .bool b
  | .int i => .int i
  | .str x => .str x
  | .lst _ xs => .list (toPyL xs)
  | .tup xs => .tuple (toPyL xs)
  | .scr xs => .list (xs.map .int)
  | .ins _ _ _ => .dict []
  | .dic _ _ => .dict []
  | .cls _ => .dict []
  | .ty _ => .dict []
  | .xc _ _ => .dict []
def toPyL : List D → List PySem.PyData
  | [] => []
  | d :: ds => toPy d :: toPyL ds
end
def pEq (x y : D) : Option D := if PySem.SeqAt.shaped (toPy x) && PySem.SeqAt.shaped (toPy y) then some (.bl (PySem.PyData.eqv (toPy x) (toPy y))) else none
def pNe (x y : D) : Option D := if PySem.SeqAt.shaped (toPy x) && PySem.SeqAt.shaped (toPy y) then some (.bl (!PySem.PyData.eqv (toPy x) (toPy y))) else none
def isN : D → Bool
  | .non => true
  | _ => false
def oIsN : List D → Option Out
  | [x, .non] => some (.val (.bl (isN x)))
  | _ => none
def oNotN : List D → Option Out
  | [x, .non] => some (.val (.bl (!isN x)))
  | _ => none
/-- flat data, for in -/
def flat : D → Bool
  | .non => true
  | .bl _ => true
  | .int _ => true
  | .str _ => true
  | _ => false
def eqF : D → D → Bool
  | .non, .non => true
  | .bl a, .bl b => a == b
  | .bl a, .int b => (if
      a then 1 else 0) == b
  | .int a, .bl b => a == (if
      b then 1 else 0)
  | .int a, .int b => a == b
  | .str a, .str b => a == b
  | _, _ => false
def oIn (neg : Bool) : List D → Option Out
  | [x, y] => match items y with
    | some ys => if flat x && ys.all flat then some (.val (.bl (if neg then !(ys.any fun z => eqF z x) else ys.any fun z => eqF z x))) else none
    | none => none
  | _ => none
/-- xs[i] -/
def oIx : List D → Option Out
  | [x, .int i] => match items x with
    | some xs => match L2.atI xs i with
      | some d => if cold d then some (.val d) else none
      | none => none
    | none => none
  | _ => none
def oLen : List D → Option Out
  | [x] => (items x).map fun xs => .val (.int xs.length)
  | _ => none
def oAbs : List D → Option Out
  | [.int i] => some (.val (.int (if i < 0 then -i else i)))
  | _ => none
def oMax2 : List D → Option Out
  | [.int i, .int j] => some (.val (.int (if j > i then j else i)))
  | _ => none
def oMin2 : List D → Option Out
  | [.int i, .int j] => some (.val (.int (if j < i then j else i)))
  | _ => none
def oInt : List D → Option Out
  | [.int i] => some (.val (.int i))
  | [.bl b] => some (.val (.int (if b then 1 else 0)))
  | _ => none
def asInts : List D → Option (List Int)
  | [] => some []
  | .int i :: r => (asInts r).map (i :: ·)
  | _ => none
def asBls : List D → Option (List Bool)
  | [] => some []
  | .bl i :: r => (asBls r).map (i :: ·)
  | _ => none
def lstItems : D → Option (List D)
  | .lst _ xs => some xs
  | .scr xs => some (xs.map .int)
  | _ => none
def oSum : List D → Option Out
  | [x] => ((lstItems x).bind asInts).map fun ns => .val (.int ns.sum)
  | _ => none
def oAll : List D → Option Out
  | [x] => ((lstItems x).bind asBls).map fun bs => .val (.bl (bs.all id))
  | _ => none
def oAny : List D → Option Out
  | [x] => ((lstItems x).bind asBls).map fun bs => .val (.bl (bs.any id))
  | _ => none
def oList : List D → Option Out
  | [x] => match items x with
    | some xs => newLc xs
    | none => none
  | _ => none
def oTuple : List D → Option Out
  | [.lst _ xs] => if colds xs && decide (xs.length ≤ 16777216) then some (.newT xs) else none
  | [.tup xs] => some (.val (.tup xs))
  | _ => none
/-- xs[lo:hi] of a list -/
def cutD (xs : List D) (lo hi : Option Int) : List D := (xs.drop (HT.sIx xs.length 0 lo)).take (HT.sIx xs.length xs.length hi - HT.sIx xs.length 0 lo)
def tyName : D → Option String
  | .non => some "NoneType"
  | .bl _ => some "bool"
  | .int _ => some "int"
  | .str _ => some "str"
  | .lst _ _ => some "list"
  | .scr _ => some "list"
  | .tup _ => some "tuple"
  | .dic _ _ => some "dict"
  | _ => none
/-- isinstance with a built-in type -/
def oIsi : List D → Option Out
  | [x, .ty t] => ((tyName x).bind fun n => L2.kitB n t).map fun b => .val (.bl b)
  | _ => none
end DL

/-! DL2: how data lie in the heap; the judgements. -/
namespace DL
open PySem L2

/-- all that was tracked is as it
    was -/
abbrev Ex (H H' : Hp) : Prop := ∀ a o, H a = some o → H' a = some o
/-- a region of addresses -/
abbrev Rg := Addr → Prop
abbrev Em : Rg := fun _ => False

/-- a caught exception: its class, its dict -/
def XcO (a : Addr) (cls : Value) (d : Option Addr) : HO := .ext fun h => ∃ (o : Obj) (vs : Array Value), h.get? a = some o ∧ Zc cls d o ∧ o.data = .fields vs
section
variable (ca : Nat → Addr) (K : PySem.W.Frag)
mutual
/-- v is the datum d; what of it is owned lies in the region S -/
inductive Rep (Hf H : Hp) : Rg → V → D → Prop where
  | non {S} : Rep Hf H S .non .non
  | bl {S b} : Rep Hf H S (.bl b) (.bl b)
  | int {S i} : Rep Hf H S (.int i) (.int i)
  | str {S x} : Rep Hf H S (.str x) (.str x)
  | scr {S a xs} : SqL K Hf a (xs.map V.int) → Rep Hf H S (.ref a) (.scr xs)
  | cls {S C} : Rep Hf H S (.ref (ca C)) (.cls C)
  | ty {S n} : Rep Hf H S (.ty n) (.ty n)
  | lstF {S a vs ds} : Hf a = some (.lst vs) → RepL Hf H Em vs ds → Rep Hf H S (.ref a) (.lst false ds)
  | lstO {S a vs ds} : S a → H a = some (.lst vs) → RepL Hf H (fun b => S b ∧ b ≠ a) vs ds → Rep Hf H S (.ref a) (.lst true ds)
  | tup {S a vs ds} : Hf a = some (.tup vs) → RepL Hf H Em vs ds → Rep Hf H S (.ref a) (.tup ds)
  | insF {S a C dx fs gs} : Hf a = some (.ins (ca C) dx fs) → fs.map (·.1) = gs.map (·.1) → RepL Hf H Em (fs.map (·.2)) (gs.map (·.2)) → Rep Hf H S (.ref a) (.ins false C gs)
  | insO {S a C dx fs gs} : S a → H a = some (.ins (ca C) dx fs) → fs.map (·.1) = gs.map (·.1) → RepL Hf H (fun b => S b ∧ b ≠ a) (fs.map (·.2)) (gs.map (·.2)) → Rep Hf H S (.ref a) (.ins true C gs)
  | dicF {S a kvs ds} : Hf a = some (.dK kvs) → kvs.map (·.1) = ds.map (·.1) → RepL Hf H Em (kvs.map (·.2)) (ds.map (·.2)) → Rep Hf H S (.ref a) (.dic false ds)
  | dicO {S a kvs ds} : S a → H a = some (.dK kvs) → kvs.map (·.1) = ds.map (·.1) → RepL Hf H (fun b => S b ∧ b ≠ a) (kvs.map (·.2)) (ds.map (·.2)) → Rep Hf H S (.ref a) (.dic true ds)
  | xc {S a dd C fs gs} : Hf a = some (XcO a (.ref (ca C)) (some dd)) → Hf dd = some (.xd fs) → fs.map (·.1) = gs.map (·.1) → RepL Hf H Em (fs.map (·.2)) (gs.map (·.2)) → Rep Hf H S (.ref a) (.xc C gs)
inductive RepL (Hf H : Hp) : Rg → List V → List D → Prop where
  | nil {S} : RepL Hf H S [] []
  | cons {S S1 S2 v d vs ds} : Rep Hf H S1 v d → RepL Hf H S2 vs ds → (∀ b, S1 b → S b) → (∀ b, S2 b → S b) → (∀ b, S1 b → S2 b → False) → RepL Hf H S (v :: vs) (d :: ds)
end
end

section
variable {ca : Nat → Addr} {K : PySem.W.Frag} {Hf H Hf' H' : Hp} {S S' : Rg} {v : V} {d : D} {vs : List V} {ds : List D}

theorem RepL.mono (r : RepL ca K Hf H S vs ds) (h : ∀ b, S b → S' b) : RepL ca K Hf H S' vs ds := by
  cases r with
  | nil => exact .nil
  | cons r1 r2 h1 h2 h3 => exact .cons r1 r2 (fun b q => h b (h1 b q)) (fun b q => h b (h2 b q)) h3
theorem Rep.mono (r : Rep ca K Hf H S v d) (h : ∀ b, S b → S' b) : Rep ca K Hf H S' v d := by
  cases r with
  | non => exact .non
  | bl => exact .bl
  | int => exact .int
  | str => exact .str
  | scr h => exact .scr h
  | cls => exact .cls
  | ty => exact .ty
  | lstF e r => exact .lstF e r
  | lstO s e r => exact .lstO (h _ s) e (r.mono fun b q => ⟨h b q.1, q.2⟩)
  | tup e r => exact .tup e r
  | insF e k r => exact .insF e k r
  | insO s e k r => exact .insO (h _ s) e k (r.mono fun b q => ⟨h b q.1, q.2⟩)
  | dicF e k r => exact .dicF e k r
  | dicO s e k r => exact .dicO (h _ s) e k (r.mono fun b q => ⟨h b q.1, q.2⟩)
  | xc e e2 k r => exact .xc e e2 k r
/-- what is not owned lies nowhere -/
theorem Rep.cold (r : Rep ca K Hf H S v d) (h : hot d = false) : Rep ca K Hf H S' v d := by
  cases r with
  | non => exact .non
  | bl => exact .bl
  | int => exact .int
  | str => exact .str
  | scr h' => exact .scr h'
  | cls => exact .cls
  | ty => exact .ty
  | lstF e r => exact .lstF e r
  | lstO s e r => exact absurd h (by simp [hot])
  | tup e r => exact .tup e r
  | insF e k r => exact .insF e k r
  | insO s e k r => exact absurd h (by simp [hot])
  | dicF e k r => exact .dicF e k r
  | dicO s e k r => exact absurd h (by simp [hot])
  | xc e e2 k r => exact .xc e e2 k r

mutual
theorem Rep.keep (ef : Ex Hf Hf') : ∀ {S : Rg} {v : V} {d : D}, Rep ca K Hf H S v d → (∀ b, S b → ∀ o, H b = some o → H' b = some o) → Rep ca K Hf' H' S v d
  | _, _, _, .non, _ => .non
  | _, _, _, .bl, _ => .bl
  | _, _, _, .int, _ => .int
  | _, _, _, .str, _ => .str
  | _, _, _, .scr h, _ => .scr (by
      rcases h with h | h
      · refine Or.inl ?_
        rcases h with h | ⟨o, h⟩
        · exact Or.inl (ef _ _ h)
        · exact Or.inr ⟨o, ef _ _ h⟩
      · exact Or.inr h)
  | _, _, _, .cls, _ => .cls
  | _, _, _, .ty, _ => .ty
  | _, _, _, .lstF e r, _ => .lstF (ef _ _ e) (RepL.keep ef r fun _ q => q.elim)
  | _, _, _, .lstO s e r, k => .lstO s (k _ s _ e) (RepL.keep ef r fun b q => k b q.1)
  | _, _, _, .tup e r, _ => .tup (ef _ _ e) (RepL.keep ef r fun _ q => q.elim)
  | _, _, _, .insF e kk r, _ => .insF (ef _ _ e) kk (RepL.keep ef r fun _ q => q.elim)
  | _, _, _, .insO s e kk r, k => .insO s (k _ s _ e) kk (RepL.keep ef r fun b q => k b q.1)
  | _, _, _, .dicF e kk r, _ => .dicF (ef _ _ e) kk (RepL.keep ef r fun _ q => q.elim)
  | _, _, _, .dicO s e kk r, k => .dicO s (k _ s _ e) kk (RepL.keep ef r fun b q => k b q.1)
  | _, _, _, .xc e e2 kk r, _ => .xc (ef _ _ e) (ef _ _ e2) kk (RepL.keep ef r fun _ q => q.elim)
theorem RepL.keep (ef : Ex Hf Hf') : ∀ {S : Rg} {vs : List V} {ds : List D}, RepL ca K Hf H S vs ds → (∀ b, S b → ∀ o, H b = some o → H' b = some o) → RepL ca K Hf' H' S vs ds
  | _, _, _, .nil, _ => .nil
  | _, _, _, .cons r1 r2 h1 h2 h3, k => .cons (Rep.keep ef r1 fun b q => k b (h1 b q)) (RepL.keep ef r2 fun b q => k b (h2 b q)) h1 h2 h3
end

theorem frzF_keys : ∀ gs : List (Str × D), (frzF gs).map (·.1) = gs.map (·.1)
  | [] => rfl
  | (f, d) :: r => by simp [frzF, frzF_keys r]
theorem frzK_keys : ∀ gs : List (Key × D), (frzK gs).map (·.1) = gs.map (·.1)
  | [] => rfl
  | (f, d) :: r => by simp [frzK, frzK_keys r]
theorem frzF_vals : ∀ gs : List (Str × D), (frzF gs).map (·.2) = frzL (gs.map (·.2))
  | [] => rfl
  | (f, d) :: r => by simp [frzF, frzL, frzF_vals r]
theorem frzK_vals : ∀ gs : List (Key × D), (frzK gs).map (·.2) = frzL (gs.map (·.2))
  | [] => rfl
  | (f, d) :: r => by simp [frzK, frzL, frzK_vals r]
theorem frzL_length : ∀ ds : List D, (frzL ds).length = ds.length
  | [] => rfl
  | d :: r => by simp [frzL, frzL_length r]

mutual
/-- the owned parts are let stand: Hf' holds them from now on -/
theorem Rep.frz (ef : Ex Hf Hf') : ∀ {S S' : Rg} {v : V} {d : D}, Rep ca K Hf H S v d → (∀ b, S b → ∀ o, H b = some o → Hf' b = some o) → Rep ca K Hf' H' S' v (DL.frz d)
  | _, _, _, _, .non, _ => by rw [DL.frz]; exact .non
  | _, _, _, _, .bl, _ => by rw [DL.frz]; exact .bl
  | _, _, _, _, .int, _ => by rw [DL.frz]; exact .int
  | _, _, _, _, .str, _ => by rw [DL.frz]; exact .str
  | _, _, _, _, .scr h, _ => by
      rw [DL.frz]
      refine .scr ?_
      rcases h with h | h
      · refine Or.inl ?_
        rcases h with h | ⟨o, h⟩
        · exact Or.inl (ef _ _ h)
        · exact Or.inr ⟨o, ef _ _ h⟩
      · exact Or.inr h
  | _, _, _, _, .cls, _ => by rw [DL.frz]; exact .cls
  | _, _, _, _, .ty, _ => by rw [DL.frz]; exact .ty
  | _, _, _, _, .lstF e r, _ => by rw [DL.frz]; exact .lstF (ef _ _ e) (RepL.frz ef r fun _ q => q.elim)
  | _, _, _, _, .lstO s e r, k => by rw [DL.frz]; exact .lstF (k _ s _ e) (RepL.frz ef r fun b q => k b q.1)
  | _, _, _, _, .tup e r, _ => by rw [DL.frz]; exact .tup (ef _ _ e) (RepL.frz ef r fun _ q => q.elim)
  | _, _, _, _, .insF e kk r, _ => by
      rw [DL.frz]
      exact .insF (ef _ _ e) (kk.trans (frzF_keys _).symm) (by rw [frzF_vals]; exact RepL.frz ef r fun _ q => q.elim)
  | _, _, _, _, .insO s e kk r, k => by
      rw [DL.frz]
      exact .insF (k _ s _ e) (kk.trans (frzF_keys _).symm) (by rw [frzF_vals]; exact RepL.frz ef r fun b q => k b q.1)
  | _, _, _, _, .dicF e kk r, _ => by
      rw [DL.frz]
      exact .dicF (ef _ _ e) (kk.trans (frzK_keys _).symm) (by rw [frzK_vals]; exact RepL.frz ef r fun _ q => q.elim)
  | _, _, _, _, .dicO s e kk r, k => by
      rw [DL.frz]
      exact .dicF (k _ s _ e) (kk.trans (frzK_keys _).symm) (by rw [frzK_vals]; exact RepL.frz ef r fun b q => k b q.1)
  | _, _, _, _, .xc e e2 kk r, _ => by
      rw [DL.frz]
      exact .xc (ef _ _ e) (ef _ _ e2) kk (RepL.keep ef r fun _ q => q.elim)
theorem RepL.frz (ef : Ex Hf Hf') : ∀ {S S' : Rg} {vs : List V} {ds : List D}, RepL ca K Hf H S vs ds → (∀ b, S b → ∀ o, H b = some o → Hf' b = some o) → RepL ca K Hf' H' S' vs (frzL ds)
  | _, _, _, _, .nil, _ => by rw [frzL]; exact .nil
  | _, _, _, _, .cons r1 r2 h1 h2 h3, k => by
      rw [frzL]
      exact .cons (S1 := Em) (S2 := Em) (Rep.frz ef r1 fun b q => k b (h1 b q)) (RepL.frz ef r2 fun b q => k b (h2 b q)) (fun _ q => q.elim) (fun _ q => q.elim) (fun _ q => q.elim)
end
theorem RepL.length : ∀ {S : Rg} {vs : List V} {ds : List D}, RepL ca K Hf H S vs ds → vs.length = ds.length
  | _, _, _, .nil => rfl
  | _, _, _, .cons _ r _ _ _ => by simp [RepL.length r]
theorem RepL.one (r : Rep ca K Hf H S v d) : RepL ca K Hf H S [v] [d] := .cons r (S2 := Em) .nil (fun _ q => q) (fun _ q => q.elim) (fun _ _ q => q)
end

/-! ### the state -/
/-- tracked, not let stand -/
structure Wl (Hf H : Hp) (S : Rg) : Prop where
  ex : Ex Hf H
  dm : ∀ b, S b → ∃ o, H b = some o
  nf : ∀ b, S b → Hf b = none
theorem Wl.mono {Hf H : Hp} {S S' : Rg} (w : Wl Hf H S) (h : ∀ b, S' b → S b) : Wl Hf H S' := ⟨w.ex, fun b q => w.dm b (h b q), fun b q => w.nf b (h b q)⟩

/-- all slots' regions -/
abbrev tot (R : Nat → Rg) : Rg := fun b => ∃ i, R i b
abbrev jn (P : Rg) (R : Nat → Rg) : Rg := fun b => P b ∨ tot R b

/-- the slots hold the data; a pending thing (pp) lies in P -/
structure PR (ca : Nat → Addr) (K : PySem.W.Frag) (Hf H : Hp) (P : Rg) (pp : Prop) (R : Nat → Rg) (σ : L2.St) (st : Sl) : Prop where
  pend : pp
  len : st.length = σ.length
  at_ : ∀ i d, getS st i = some d → ∃ v, σ[i]? = some (some v) ∧ Rep ca K Hf H (R i) v d
  dj : ∀ i j b, R i b → R j b → i = j
  dp : ∀ i b, P b → R i b → False
  w : Wl Hf H (jn P R)

/-- what a step may do: S the region it had, S' the region it leaves -/
structure Tr (S : Rg) (Hf H : Hp) (S' : Rg) (Hf' H' : Hp) : Prop where
  fx : Ex Hf Hf'
  keep : ∀ b o, H b = some o → ¬ S b → H' b = some o
  nw : ∀ b, S' b → S b ∨ H b = none
  fz : ∀ b o, Hf' b = some o → Hf b = some o ∨ S b ∨ H b = none

section
variable {ca : Nat → Addr} {K : PySem.W.Frag} {Hf H Hf1 H1 Hf2 H2 : Hp} {S S1 S2 P : Rg} {R R1 R2 : Nat → Rg} {pp qq : Prop} {σ : L2.St} {st : Sl} {v : V} {d : D}
theorem Tr.refl (h : ∀ b, S1 b → S b) : Tr S Hf H S1 Hf H := ⟨fun _ _ e => e, fun _ _ e _ => e, fun b q => .inl (h b q), fun _ _ e => .inl e⟩
theorem Tr.trans (a : Tr S Hf H S1 Hf1 H1) (b : Tr S1 Hf1 H1 S2 Hf2 H2) : Tr S Hf H S2 Hf2 H2 where
  fx := fun x o e => b.fx x o (a.fx x o e)
  keep := fun x o e n => b.keep x o (a.keep x o e n) fun q => by
    rcases a.nw x q with q | q
    · exact n q
    · rw [e] at q; cases q
  nw := fun x q => by
    rcases b.nw x q with q | q
    · exact a.nw x q
    · cases e : H x with
      | none => exact .inr rfl
      | some o =>
        refine .inl (Classical.byContradiction fun n => ?_)
        rw [a.keep x o e n] at q; cases q
  fz := fun x o q => by
    rcases b.fz x o q with q | q | q
    · exact a.fz x o q
    · rcases a.nw x q with q | q
      · exact .inr (.inl q)
      · exact .inr (.inr q)
    · cases e : H x with
      | none => exact .inr (.inr rfl)
      | some o =>
        refine .inr (.inl (Classical.byContradiction fun n => ?_))
        rw [a.keep x o e n] at q; cases q
/-- a smaller region behind -/
theorem Tr.less (a : Tr S Hf H S1 Hf1 H1) (h : ∀ b, S2 b → S1 b) : Tr S Hf H S2 Hf1 H1 := ⟨a.fx, a.keep, fun b q => a.nw b (h b q), a.fz⟩
theorem Tr.more (a : Tr S Hf H S1 Hf1 H1) (h : ∀ b, S b → S2 b) : Tr S2 Hf H S1 Hf1 H1 :=
  ⟨a.fx, fun b o e n => a.keep b o e fun q => n (h b q), fun b q => (a.nw b q).imp_left (h b), fun b o q => (a.fz b o q).imp_right fun q => q.imp_left (h b)⟩
/-- what lies beside the region stays -/
theorem Tr.beside (a : Tr S Hf H S1 Hf1 H1) (w1 : Wl Hf H P) (dj : ∀ b, P b → S b → False) : (∀ b, P b → ∀ o, H b = some o → H1 b = some o) ∧ (∀ b, P b → S1 b → False) ∧ (∀ b, P b → (∃ o, H1 b = some o) ∧ Hf1 b = none) := by
  refine ⟨fun b q o e => a.keep b o e (dj b q), fun b q r => ?_, fun b q => ⟨?_, ?_⟩⟩
  · rcases a.nw b r with r | r
    · exact dj b q r
    · obtain ⟨o, e⟩ := w1.dm b q
      rw [e] at r; cases r
  · obtain ⟨o, e⟩ := w1.dm b q
    exact ⟨o, a.keep b o e (dj b q)⟩
  · cases e : Hf1 b with
    | none => rfl
    | some o =>
      rcases a.fz b o e with r | r | r
      · rw [w1.nf b q] at r; cases r
      · exact (dj b q r).elim
      · obtain ⟨o, e⟩ := w1.dm b q
        rw [e] at r; cases r
/-- with what lies beside, the step is one of the whole -/
theorem Tr.with (a : Tr S Hf H S1 Hf1 H1) (P : Rg) : Tr (fun b => P b ∨ S b) Hf H (fun b => P b ∨ S1 b) Hf1 H1 :=
  ⟨a.fx, fun b o e n => a.keep b o e fun q => n (.inr q), fun b q => by
    rcases q with q | q
    · exact .inl (.inl q)
    · exact (a.nw b q).imp_left .inr, fun b o q => (a.fz b o q).imp_right fun q => q.imp_left .inr⟩
theorem PR.drop (p : PR ca K Hf H P pp R σ st) : PR ca K Hf H Em True R σ st :=
  ⟨trivial, p.len, p.at_, p.dj, fun _ _ q => q.elim, p.w.mono fun b q => q.elim (fun q => q.elim) .inr⟩
theorem PR.imp (p : PR ca K Hf H P pp R σ st) (h : pp → qq) : PR ca K Hf H P qq R σ st := ⟨h p.pend, p.len, p.at_, p.dj, p.dp, p.w⟩
/-- the pending thing's region may be taken smaller -/
theorem PR.toP {P' : Rg} (p : PR ca K Hf H P pp R σ st) (h : ∀ b, P' b → P b) (q : qq) : PR ca K Hf H P' qq R σ st :=
  ⟨q, p.len, p.at_, p.dj, fun i b x y => p.dp i b (h b x) y, p.w.mono fun b q => q.imp_left (h b)⟩
theorem PR.put (p : PR ca K Hf H Em True R σ st) (q : Rep ca K Hf H Em v d) : PR ca K Hf H Em (Rep ca K Hf H Em v d) R σ st := p.toP (fun _ q => q) q
end

/-! ### the judgements -/
/-- the exception's wish in any context: what it wants is exactly so -/
def wX (X : Cx) : WX := fun cls d σ H => ∀ u s', XE X (fun c' d' σ' H' => c' = cls ∧ d' = d ∧ σ' = σ ∧ H' = H) u s' → X.xe u s'
theorem takes_wX (X : Cx) : Takes X (wX X) := fun u s' ⟨a, B, sI, pins, σ, H, cls, d, h1, h2, h3, h4, h5, h6, h7, h8, h9⟩ =>
  h9 u s' ⟨a, B, sI, pins, σ, H, cls, d, h1, h2, h3, h4, h5, h6, h7, h8, rfl, rfl, rfl, rfl⟩
theorem wX_of {X : Cx} {W : WX} (t : Takes X W) {cls : Value} {d : Option Addr} {σ : L2.St} {H : Hp} (w : W cls d σ H) : wX X cls d σ H := fun u s' ⟨a, B, sI, pins, σ1, H1, cls1, d1, h1, h2, h3, h4, h5, h6, h7, h8, e1, e2, e3, e4⟩ => by
  subst e1; subst e2; subst e3; subst e4
  exact t u s' ⟨a, B, sI, pins, _, _, _, _, h1, h2, h3, h4, h5, h6, h7, h8, w⟩

def We (X : Cx) (e : Expr) : TE := fun σ H Q => ∀ (pins : List (Addr × Obj)) (s : Shared), Inv X pins σ H s → wpAny (model X.prog X.w) X.A (eval e X.env) (EP X pins σ Q) X.xe s
def Wt (X : Cx) (e : Expr) : TT := fun σ H Q => ∀ (pins : List (Addr × Obj)) (s : Shared), Inv X pins σ H s → wpAny (model X.prog X.w) X.A (isTrue e X.env (eval e X.env)) (TP X pins σ Q) X.xe s
def Wa (X : Cx) (es : List Expr) : TA := fun σ H Q => ∀ (pos : Pos) (pins : List (Addr × Obj)) (s : Shared), Inv X pins σ H s → wpAny (model X.prog X.w) X.A (spliced (backTo pos (starEach es X.env))) (AP X pins σ Q) X.xe s
def Ws (X : Cx) (st : Stmt) : TS := fun D σ H => ∀ (pins : List (Addr × Obj)) (s : Shared), Inv X pins σ H s → wpAny (model X.prog X.w) X.A (exec st X.env) (SP X pins D) X.xe s
def Wss (X : Cx) (st : List Stmt) : TS := fun D σ H => ∀ (pins : List (Addr × Obj)) (s : Shared), Inv X pins σ H s → wpAny (model X.prog X.w) X.A (execs st X.env) (SP X pins D) X.xe s
theorem we_pe (X : Cx) (e : Expr) : PE X e (We X e) := ⟨fun pins s _ _ _ I h => h pins s I⟩
theorem we_of {X : Cx} {e : Expr} {t : TE} (p : PE X e t) {σ : L2.St} {H : Hp} {Q : VK} (h : t σ H Q) : We X e σ H Q := fun pins s I => p.run pins s σ H Q I h
theorem wt_pt (X : Cx) (e : Expr) : PT X e (Wt X e) := ⟨fun pins s _ _ _ I h => h pins s I⟩
theorem wt_of {X : Cx} {e : Expr} {t : TT} (p : PT X e t) {σ : L2.St} {H : Hp} {Q : Bool → Hp → Prop} (h : t σ H Q) : Wt X e σ H Q := fun pins s I => p.run pins s σ H Q I h
theorem wa_pa (X : Cx) (es : List Expr) : PA X es (Wa X es) := ⟨fun pos pins s _ _ _ I h => h pos pins s I⟩
theorem wa_of {X : Cx} {es : List Expr} {t : TA} (p : PA X es t) {σ : L2.St} {H : Hp} {Q : List V → Hp → Prop} (h : t σ H Q) : Wa X es σ H Q := fun pos pins s I => p.run pos pins s σ H Q I h
theorem ws_ps (X : Cx) (st : Stmt) : PS X st (Ws X st) := ⟨fun pins s _ _ _ I h => h pins s I⟩
theorem ws_of {X : Cx} {st : Stmt} {t : TS} (p : PS X st t) {D : Ends} {σ : L2.St} {H : Hp} (h : t D σ H) : Ws X st D σ H := fun pins s I => p.run pins s σ H D I h
theorem wss_pss (X : Cx) (st : List Stmt) : PSs X st (Wss X st) := ⟨fun pins s _ _ _ I h => h pins s I⟩
theorem wss_of {X : Cx} {st : List Stmt} {t : TS} (p : PSs X st t) {D : Ends} {σ : L2.St} {H : Hp} (h : t D σ H) : Wss X st D σ H := fun pins s I => p.run pins s σ H D I h

/-- an exception's own dict holds the fields -/
def XcR (ca : Nat → Addr) (K : PySem.W.Frag) (Hf H : Hp) (cls : Value) (dd : Option Addr) (x : Xc) : Prop :=
  cls = .ref (ca x.C) ∧ ∃ (a : Addr) (fs : List (Str × V)), dd = some a ∧ H a = some (.xd fs) ∧ Hf a = some (.xd fs) ∧ fs.map (·.1) = x.fs.map (·.1) ∧ RepL ca K Hf H Em (fs.map (·.2)) (x.fs.map (·.2))

section
variable (ca : Nat → Addr) (X : Cx)
/-- what is wanted of a step's answer, a value: R the slots' regions ahead -/
def Post (Hf H : Hp) (S : Rg) (σ : L2.St) (r : Res D) (Q : VK) : Prop :=
  match r with
  | .ok d st => ∀ Hf' H' P R' v, Tr S Hf H (jn P R') Hf' H' → PR ca X.K Hf' H' P (Rep ca X.K Hf' H' P v d) R' σ st → Q v H'
  | .exc x st => ∀ Hf' H' R' cls dd, Tr S Hf H (jn Em R') Hf' H' → PR ca X.K Hf' H' Em (XcR ca X.K Hf' H' cls dd x) R' σ st → wX X cls dd σ H'
  | .fail => False
def PostL (Hf H : Hp) (S : Rg) (σ : L2.St) (r : Res (List D)) (Q : List V → Hp → Prop) : Prop :=
  match r with
  | .ok ds st => ∀ Hf' H' P R' vs, Tr S Hf H (jn P R') Hf' H' → PR ca X.K Hf' H' P (RepL ca X.K Hf' H' P vs ds) R' σ st → Q vs H'
  | .exc x st => ∀ Hf' H' R' cls dd, Tr S Hf H (jn Em R') Hf' H' → PR ca X.K Hf' H' Em (XcR ca X.K Hf' H' cls dd x) R' σ st → wX X cls dd σ H'
  | .fail => False
def PostB (Hf H : Hp) (S : Rg) (σ : L2.St) (r : Res Bool) (Q : Bool → Hp → Prop) : Prop :=
  match r with
  | .ok k st => ∀ Hf' H' R', Tr S Hf H (jn Em R') Hf' H' → PR ca X.K Hf' H' Em True R' σ st → Q k H'
  | .exc x st => ∀ Hf' H' R' cls dd, Tr S Hf H (jn Em R') Hf' H' → PR ca X.K Hf' H' Em (XcR ca X.K Hf' H' cls dd x) R' σ st → wX X cls dd σ H'
  | .fail => False
/-- the parameters that are never stored to keep their values -/
def Lk (L : List Nat) (σ σ' : L2.St) : Prop := σ'.length = σ.length ∧ ∀ i ∈ L, σ'[i]? = σ[i]?
theorem Lk.refl {L : List Nat} {σ : L2.St} : Lk L σ σ := ⟨rfl, fun _ _ => rfl⟩
theorem Lk.trans {L : List Nat} {σ σ' σ2 : L2.St} (a : Lk L σ σ') (b : Lk L σ' σ2) : Lk L σ σ2 := ⟨b.1.trans a.1, fun j hj => (b.2 j hj).trans (a.2 j hj)⟩
def PostS (L : List Nat) (Hf H : Hp) (S : Rg) (σ : L2.St) (r : SR) (E : Ends) : Prop :=
  match r with
  | .next st => ∀ Hf' H' R' σ', Tr S Hf H (jn Em R') Hf' H' → PR ca X.K Hf' H' Em True R' σ' st → Lk L σ σ' → E.nx σ' H'
  | .brk st => ∀ Hf' H' R' σ', Tr S Hf H (jn Em R') Hf' H' → PR ca X.K Hf' H' Em True R' σ' st → Lk L σ σ' → E.bk σ' H'
  | .cont st => ∀ Hf' H' R' σ', Tr S Hf H (jn Em R') Hf' H' → PR ca X.K Hf' H' Em True R' σ' st → Lk L σ σ' → E.ct σ' H'
  | .ret d st => ∀ Hf' H' P R' σ' v, Tr S Hf H (jn P R') Hf' H' → PR ca X.K Hf' H' P (Rep ca X.K Hf' H' P v d) R' σ' st → Lk L σ σ' → E.rt v H'
  | .exc x st => ∀ Hf' H' R' σ' cls dd, Tr S Hf H (jn Em R') Hf' H' → PR ca X.K Hf' H' Em (XcR ca X.K Hf' H' cls dd x) R' σ' st → Lk L σ σ' → wX X cls dd σ' H'
  | .fail => False

/-- the expression's meaning -/
def CE (e : Expr) (m : ME) : Prop := ∀ (Hf H : Hp) (R : Nat → Rg) (σ : L2.St) (st : Sl) (Q : VK), PR ca X.K Hf H Em True R σ st → Post ca X Hf H (jn Em R) σ (m st) Q → We X e σ H Q
def CT (e : Expr) (m : MT) : Prop := ∀ (Hf H : Hp) (R : Nat → Rg) (σ : L2.St) (st : Sl) (Q : Bool → Hp → Prop), PR ca X.K Hf H Em True R σ st → PostB ca X Hf H (jn Em R) σ (m st) Q → Wt X e σ H Q
def CA (es : List Expr) (m : MA) : Prop := ∀ (Hf H : Hp) (R : Nat → Rg) (σ : L2.St) (st : Sl) (Q : List V → Hp → Prop), PR ca X.K Hf H Em True R σ st → PostL ca X Hf H (jn Em R) σ (m st) Q → Wa X es σ H Q
def CS (L : List Nat) (s : Stmt) (m : MS) : Prop := ∀ (Hf H : Hp) (R : Nat → Rg) (σ : L2.St) (st : Sl) (E : Ends), PR ca X.K Hf H Em True R σ st → PostS ca X L Hf H (jn Em R) σ (m st) E → Ws X s E σ H
def CSs (L : List Nat) (s : List Stmt) (m : MS) : Prop := ∀ (Hf H : Hp) (R : Nat → Rg) (σ : L2.St) (st : Sl) (E : Ends), PR ca X.K Hf H Em True R σ st → PostS ca X L Hf H (jn Em R) σ (m st) E → Wss X s E σ H
/-- a target's store: the value v of the datum d, lying in P, goes to the slots -/
def CG (L : List Nat) (e : Expr) (t : TG) (m : MG) : Prop := PG X e t ∧ ∀ (Hf H : Hp) (P : Rg) (R : Nat → Rg) (σ : L2.St) (st : Sl) (v : V) (d : D) (Q : L2.St → Hp → Prop), PR ca X.K Hf H P (Rep ca X.K Hf H P v d) R σ st →
  (match m d st with
    | .ok _ st' => ∀ Hf' H' R' σ', Tr (jn P R) Hf H (jn Em R') Hf' H' → PR ca X.K Hf' H' Em True R' σ' st' → Lk L σ σ' → Q σ' H'
    | _ => False) → t v σ H Q
end
end DL

/-! DL3: the rules for expressions: names, constants, operations that look at their operands. -/
namespace DL
open PySem L2 PyProof.Rows
/-- what is only looked at -/
inductive RdL (ca : Nat → Addr) (K : PySem.W.Frag) (Hf H : Hp) : List V → List D → Prop where
  | nil : RdL ca K Hf H [] []
  | cons {S v d vs ds} : Rep ca K Hf H S v d → RdL ca K Hf H vs ds → RdL ca K Hf H (v :: vs) (d :: ds)
def CO (ca : Nat → Addr) (X : Cx) (e : Expr) : Opd → Prop
  | .v m => CE ca X e m
  | .s i => PE X e (tVar i)
inductive COs (ca : Nat → Addr) (X : Cx) : List Expr → List Opd → Prop where
  | nil : COs ca X [] []
  | cons {e o es os} : CO ca X e o → COs ca X es os → COs ca X (e :: es) (o :: os)

section
variable {ca : Nat → Addr} {K : PySem.W.Frag} {Hf H Hf1 H1 Hf2 H2 : Hp} {S S1 S2 P : Rg} {R R1 R2 : Nat → Rg} {pp qq : Prop} {σ σ' : L2.St} {st st' : Sl} {v : V} {d : D} {vs : List V} {ds : List D} {X : Cx} {L : List Nat}

theorem getS_set {st : Sl} {i j : Nat} {o : Option D} : getS (st.set i o) j = if i = j then (if j < st.length then o else none) else getS st j := by
  unfold getS
  rw [List.getElem?_set]
  by_cases h : i = j
  · subst h
    rw [if_pos rfl, if_pos rfl]
    split <;> rfl
  · rw [if_neg h, if_neg h]
theorem getS_lt {st : Sl} {i : Nat} {d : D} (h : getS st i = some d) : i < st.length := by
  unfold getS at h
  cases e : st[i]? with
  | none =>
    rw [e] at h
    cases h
  | some o => exact (List.getElem?_eq_some_iff.mp e).1

/-! ### carrying a wish along a step -/
theorem Post.from {r : Res D} {Q : VK} (t : Tr S Hf H S1 Hf1 H1) (h : Post ca X Hf H S σ r Q) : Post ca X Hf1 H1 S1 σ r Q := by
  cases r with
  | ok d st => exact fun Hf' H' P R' v t' p => h Hf' H' P R' v (t.trans t') p
  | exc x st => exact fun Hf' H' R' cls dd t' p => h Hf' H' R' cls dd (t.trans t') p
  | fail => exact h
theorem PostL.from {r : Res (List D)} {Q : List V → Hp → Prop} (t : Tr S Hf H S1 Hf1 H1) (h : PostL ca X Hf H S σ r Q) : PostL ca X Hf1 H1 S1 σ r Q := by
  cases r with
  | ok d st => exact fun Hf' H' P R' v t' p => h Hf' H' P R' v (t.trans t') p
  | exc x st => exact fun Hf' H' R' cls dd t' p => h Hf' H' R' cls dd (t.trans t') p
  | fail => exact h
theorem PostB.from {r : Res Bool} {Q : Bool → Hp → Prop} (t : Tr S Hf H S1 Hf1 H1) (h : PostB ca X Hf H S σ r Q) : PostB ca X Hf1 H1 S1 σ r Q := by
  cases r with
  | ok d st => exact fun Hf' H' R' t' p => h Hf' H' R' (t.trans t') p
  | exc x st => exact fun Hf' H' R' cls dd t' p => h Hf' H' R' cls dd (t.trans t') p
  | fail => exact h
theorem PostS.from {r : SR} {E : Ends} (t : Tr S Hf H S1 Hf1 H1) (k : Lk L σ σ') (h : PostS ca X L Hf H S σ r E) : PostS ca X L Hf1 H1 S1 σ' r E := by
  have kk : ∀ σ'' : L2.St, Lk L σ' σ'' → Lk L σ σ'' := fun σ'' q => Lk.trans k q
  cases r with
  | next st => exact fun Hf' H' R' s2 t' p q => h Hf' H' R' s2 (t.trans t') p (kk _ q)
  | brk st => exact fun Hf' H' R' s2 t' p q => h Hf' H' R' s2 (t.trans t') p (kk _ q)
  | cont st => exact fun Hf' H' R' s2 t' p q => h Hf' H' R' s2 (t.trans t') p (kk _ q)
  | ret d st => exact fun Hf' H' P R' s2 v t' p q => h Hf' H' P R' s2 v (t.trans t') p (kk _ q)
  | exc x st => exact fun Hf' H' R' s2 cls dd t' p q => h Hf' H' R' s2 cls dd (t.trans t') p (kk _ q)
  | fail => exact h
theorem jn_em (b : Addr) (R : Nat → Rg) : jn Em R b ↔ tot R b := ⟨fun q => q.elim (fun q => q.elim) id, .inr⟩

/-! ### ends of an expression -/
/-- a value without owned parts; nothing changed -/
theorem post_val {Q : VK} (p : PR ca X.K Hf H P pp R σ st) (h : Post ca X Hf H S σ (.ok d st) Q) (hS : ∀ b, tot R b → S b) (r : Rep ca X.K Hf H Em v d) : Q v H :=
  h Hf H Em R v (Tr.refl fun b q => q.elim (fun q => q.elim) (hS b)) (p.drop.put r)
theorem wl_new {a : Addr} {o : HO} (w : Wl Hf H S) (hn : H a = none) : Wl Hf (upd H a o) S ∧ Hf a = none := by
  have h0 : Hf a = none := by
    cases e : Hf a with
    | none => rfl
    | some o => rw [w.ex a o e] at hn; cases hn
  refine ⟨⟨fun b u e => ?_, fun b q => ?_, w.nf⟩, h0⟩
  · by_cases hb : b = a
    · subst hb; rw [h0] at e; cases e
    · rw [upd_ne hb]; exact w.ex b u e
  · obtain ⟨u, e⟩ := w.dm b q
    exact ⟨u, by rw [upd_ne (fun z => by subst z; rw [hn] at e; cases e)]; exact e⟩
theorem upd_keep {a : Addr} {o : HO} (hn : H a = none) : ∀ b u, H b = some u → upd H a o b = some u := fun b u e => by
  rw [upd_ne (fun z => by subst z; rw [hn] at e; cases e)]; exact e
/-- the slots over a heap with one object more -/
theorem PR.grow {a : Addr} {o : HO} (p : PR ca K Hf H Em True R σ st) (hn : H a = none) {P' : Rg} (q : qq) (hP : ∀ b, P' b → b = a) : PR ca K Hf (upd H a o) P' qq R σ st where
  pend := q
  len := p.len
  at_ := fun i d e => by
    obtain ⟨v, e1, r⟩ := p.at_ i d e
    exact ⟨v, e1, r.keep (fun _ _ e => e) fun b _ o e => upd_keep hn b o e⟩
  dj := p.dj
  dp := fun i b h1 h2 => by
    have := hP b h1
    subst this
    obtain ⟨o, e⟩ := p.w.dm b (.inr ⟨i, h2⟩)
    rw [hn] at e; cases e
  w := by
    obtain ⟨w1, w2⟩ := wl_new (o := o) p.w hn
    refine ⟨w1.ex, fun b h => ?_, fun b h => ?_⟩
    · rcases h with h | h
      · have := hP b h
        subst this
        exact ⟨o, upd_same⟩
      · exact w1.dm b (.inr h)
    · rcases h with h | h
      · have := hP b h
        subst this
        exact w2
      · exact w1.nf b (.inr h)
/-- a new owned list -/
theorem post_newL {Q : VK} {a : Addr} (p : PR ca X.K Hf H P pp R σ st) (h : Post ca X Hf H S σ (.ok (.lst true ds) st) Q) (hS : ∀ b, tot R b → S b) (hn : H a = none) (r : RepL ca X.K Hf H Em vs ds) : Q (.ref a) (upd H a (.lst vs)) := by
  refine h Hf (upd H a (.lst vs)) (fun b => b = a) R (.ref a) ⟨fun _ _ e => e, fun b o e _ => upd_keep hn b o e, fun b q => ?_, fun _ _ e => .inl e⟩ (p.drop.grow hn (.lstO rfl upd_same ((r.keep (fun _ _ e => e) fun _ q => q.elim).mono fun _ q => q.elim)) fun _ q => q)
  rcases q with q | q
  · subst q; exact .inr hn
  · exact .inl (hS b q)
/-- an object let stand at once -/
theorem PR.stand {a : Addr} {o : HO} (p : PR ca K Hf H Em True R σ st) (hn : H a = none) : PR ca K (upd Hf a o) (upd H a o) Em True R σ st := by
  have h0 := (wl_new (o := o) p.w hn).2
  have hx : Ex Hf (upd Hf a o) := fun b u e => upd_keep h0 b u e
  refine ⟨trivial, p.len, fun i d e => ?_, p.dj, fun _ _ q => q.elim, ?_⟩
  · obtain ⟨v, e1, r⟩ := p.at_ i d e
    exact ⟨v, e1, r.keep hx fun b _ o e => upd_keep hn b o e⟩
  · refine ⟨fun b u e => ?_, fun b q => ?_, fun b q => ?_⟩
    · by_cases hb : b = a
      · subst hb; rw [upd_same] at e ⊢; exact e
      · rw [upd_ne hb] at e ⊢; exact p.w.ex b u e
    · obtain ⟨u, e⟩ := p.w.dm b q
      exact ⟨u, upd_keep hn b u e⟩
    · have : b ≠ a := fun z => by
        subst z
        obtain ⟨u, e⟩ := p.w.dm b q
        rw [hn] at e; cases e
      rw [upd_ne this]; exact p.w.nf b q
theorem tr_stand {a : Addr} {o : HO} (hn : H a = none) (hS : ∀ b, S1 b → S b) : Tr S Hf H S1 (upd Hf a o) (upd H a o) ∨ True := .inr trivial
theorem post_newT {Q : VK} {a : Addr} (p : PR ca X.K Hf H P pp R σ st) (h : Post ca X Hf H S σ (.ok (.tup ds) st) Q) (hS : ∀ b, tot R b → S b) (hn : H a = none) (r : RepL ca X.K Hf H Em vs ds) : Q (.ref a) (upd H a (.tup vs)) := by
  have h0 := (wl_new (o := .tup vs) p.w hn).2
  have p1 := p.drop.stand (o := .tup vs) hn
  refine h (upd Hf a (.tup vs)) (upd H a (.tup vs)) Em R (.ref a) ⟨fun b u e => upd_keep h0 b u e, fun b o e _ => upd_keep hn b o e, fun b q => ?_, fun b o e => ?_⟩ (p1.put (.tup upd_same (r.keep (fun b u e => upd_keep h0 b u e) fun _ q => q.elim)))
  · rcases q with q | q
    · exact q.elim
    · exact .inl (hS b q)
  · by_cases hb : b = a
    · subst hb; exact .inr (.inr hn)
    · rw [upd_ne hb] at e; exact .inl e

/-! ### constants and names -/
theorem ce_c {e : Expr} (p : PE X e (tC v)) (r : ∀ Hf H, Rep ca X.K Hf H Em v d) : CE ca X e (eC d) := fun Hf H R σ st Q pr h =>
  we_of p (post_val (v := v) pr h (fun b q => .inr q) (r Hf H))
theorem ce_int {i j pos} : CE ca X (.Constant (.int i) j pos) (eC (.int i)) := ce_c pe_int fun _ _ => .int
theorem ce_bl {b j pos} : CE ca X (.Constant (.bool b) j pos) (eC (.bl b)) := ce_c pe_bl fun _ _ => .bl
theorem ce_non {j pos} : CE ca X (.Constant .none j pos) (eC .non) := ce_c pe_non fun _ _ => .non
theorem ce_str {x j pos} : CE ca X (.Constant (.str x) j pos) (eC (.str x)) := ce_c pe_str fun _ _ => .str

theorem set_get {st : Sl} {i j : Nat} {o : Option D} {d : D} (h : getS (st.set i o) j = some d) : (i = j ∧ o = some d) ∨ (i ≠ j ∧ getS st j = some d) := by
  rw [getS_set] at h
  by_cases e : i = j
  · rw [if_pos e] at h
    split at h
    · exact .inl ⟨e, h⟩
    · cases h
  · rw [if_neg e] at h
    exact .inr ⟨e, h⟩
/-- a slot's data let stand -/
theorem PR.freeze {i : Nat} (p : PR ca K Hf H Em True R σ st) (h : getS st i = some d) :
    ∃ Hf' v, σ[i]? = some (some v) ∧ Rep ca K Hf' H Em v (frz d) ∧ Tr (jn Em R) Hf H (jn Em fun j b => j ≠ i ∧ R j b) Hf' H ∧ PR ca K Hf' H Em True (fun j b => j ≠ i ∧ R j b) σ (st.set i (some (frz d))) := by
  obtain ⟨v, e1, r⟩ := p.at_ i d h
  let Hf' : Hp := fun b => if Classical.propDecidable (R i b) |>.decide then H b else Hf b
  have hy : ∀ b, R i b → Hf' b = H b := fun b q => by
    show (if _ then _ else _) = _
    rw [if_pos (by simpa using q)]
  have hno : ∀ b, ¬ R i b → Hf' b = Hf b := fun b q => by
    show (if _ then _ else _) = _
    rw [if_neg (by simpa using q)]
  have hx : Ex Hf Hf' := fun b o e => by
    by_cases q : R i b
    · rw [hy b q]; exact p.w.ex b o e
    · rw [hno b q]; exact e
  have hfz : Rep ca K Hf' H Em v (frz d) := r.frz hx fun b q o e => by rw [hy b q]; exact e
  refine ⟨Hf', v, e1, hfz, ⟨hx, fun _ _ e _ => e, fun b q => .inl ?_, fun b o e => ?_⟩, ⟨trivial, ?_, fun j d' e => ?_, fun j k b q1 q2 => p.dj j k b q1.2 q2.2, fun _ _ q => q.elim, ?_⟩⟩
  · rcases q with q | ⟨j, q⟩
    · exact q.elim
    · exact .inr ⟨j, q.2⟩
  · by_cases q : R i b
    · exact .inr (.inl (.inr ⟨i, q⟩))
    · rw [hno b q] at e; exact .inl e
  · rw [List.length_set]; exact p.len
  · rcases set_get e with ⟨q1, q2⟩ | ⟨q1, q2⟩
    · subst q1
      cases q2
      exact ⟨v, e1, hfz.mono fun _ q => q.elim⟩
    · obtain ⟨v', e2, r2⟩ := p.at_ j d' q2
      exact ⟨v', e2, (r2.keep hx fun _ _ _ e => e).mono fun b q => ⟨Ne.symm q1, q⟩⟩
  · refine ⟨fun b o e => ?_, fun b q => ?_, fun b q => ?_⟩
    · by_cases z : R i b
      · rw [hy b z] at e; exact e
      · rw [hno b z] at e; exact p.w.ex b o e
    · rcases q with q | ⟨j, q⟩
      · exact q.elim
      · exact p.w.dm b (.inr ⟨j, q.2⟩)
    · rcases q with q | ⟨j, q⟩
      · exact q.elim
      · rw [hno b fun z => q.1 (p.dj j i b q.2 z)]; exact p.w.nf b (.inr ⟨j, q.2⟩)
theorem ce_n {e : Expr} {i : Nat} (hp : PE X e (tVar i)) : CE ca X e (eN i) := fun Hf H R σ st Q p h => by
  refine we_of hp ?_
  unfold eN at h
  cases g : getS st i with
  | none => rw [g] at h; exact h.elim
  | some d =>
    rw [g] at h
    by_cases hh : hot d
    · simp only [hh, if_true] at h
      obtain ⟨Hf', v, e1, r, t, p1⟩ := p.freeze g
      exact ⟨v, e1, h Hf' H Em _ v (t.less fun b q => q) (p1.put r)⟩
    · simp only [Bool.not_eq_true] at hh
      simp only [hh, Bool.false_eq_true, if_false] at h
      obtain ⟨v, e1, r⟩ := p.at_ i d g
      exact ⟨v, e1, post_val p h (fun b q => .inr q) (r.cold hh)⟩
/-- a slot's data taken out -/
theorem PR.take {i : Nat} (p : PR ca K Hf H Em True R σ st) (h : getS st i = some d) :
    ∃ v, σ[i]? = some (some v) ∧ PR ca K Hf H (R i) (Rep ca K Hf H (R i) v d) (fun j b => j ≠ i ∧ R j b) σ (st.set i none) := by
  obtain ⟨v, e1, r⟩ := p.at_ i d h
  refine ⟨v, e1, r, ?_, fun j d' e => ?_, fun j k b q1 q2 => p.dj j k b q1.2 q2.2, fun j b q1 q2 => q2.1 (p.dj j i b q2.2 q1), ?_⟩
  · rw [List.length_set]; exact p.len
  · rcases set_get e with ⟨q1, q2⟩ | ⟨q1, q2⟩
    · cases q2
    · obtain ⟨v', e2, r2⟩ := p.at_ j d' q2
      exact ⟨v', e2, r2.mono fun b q => ⟨Ne.symm q1, q⟩⟩
  · exact p.w.mono fun b q => q.elim (fun q => .inr ⟨i, q⟩) fun ⟨j, q⟩ => .inr ⟨j, q.2⟩
theorem ce_mv {e : Expr} {i : Nat} (hp : PE X e (tVar i)) : CE ca X e (eMv i) := fun Hf H R σ st Q p h => by
  refine we_of hp ?_
  unfold eMv at h
  cases g : getS st i with
  | none => rw [g] at h; exact h.elim
  | some d =>
    rw [g] at h
    obtain ⟨v, e1, p1⟩ := p.take g
    refine ⟨v, e1, h Hf H (R i) _ v (Tr.refl fun b q => ?_) p1⟩
    rcases q with q | ⟨j, q⟩
    · exact .inr ⟨i, q⟩
    · exact .inr ⟨j, q.2⟩

/-! ### operands -/
theorem RdL.keep (r : RdL ca K Hf H vs ds) (hx : Ex Hf Hf1) (hk : Ex H H1) : RdL ca K Hf1 H1 vs ds := by
  induction r with
  | nil => exact .nil
  | cons r1 _ ih => exact .cons (r1.keep hx fun b _ o e => hk b o e) ih

theorem co_v {e : Expr} {m : ME} (h : CE ca X e m) : CO ca X e (.v m) := h
theorem co_s {e : Expr} {i : Nat} (h : PE X e (tVar i)) : CO ca X e (.s i) := h
/-- expressions from the left -/
def WL (X : Cx) : List Expr → L2.St → Hp → (List V → Hp → Prop) → Prop
  | [], _, H, Q => Q [] H
  | e :: es, σ, H, Q => We X e σ H fun x H1 => WL X es σ H1 fun xs H2 => Q (x :: xs) H2

/-- the wish for exceptions alone -/
theorem ops_sound : ∀ {es : List Expr} {os : List Opd}, COs ca X es os → ∀ {Hf H : Hp} {R : Nat → Rg} {σ : L2.St} {st : Sl} {k : (Sl → Option (List D)) → Sl → Res D} {Q' : VK} {Q : List V → Hp → Prop},
    PR ca X.K Hf H Em True R σ st → Post ca X Hf H (jn Em R) σ (opds os st k) Q' →
    (∀ gs st2 Hf2 H2 R2 vs, Tr (jn Em R) Hf H (jn Em R2) Hf2 H2 → PR ca X.K Hf2 H2 Em True R2 σ st2 → (∀ ds, gs st2 = some ds → RdL ca X.K Hf2 H2 vs ds) → Post ca X Hf2 H2 (jn Em R2) σ (k gs st2) Q' → Q vs H2) → WL X es σ H Q
  | _, _, .nil, Hf, H, R, σ, st, k, Q', Q, p, h, c => c _ st Hf H R [] (Tr.refl fun _ q => q) p (fun ds e => by cases e; exact .nil) h
  | _, _, .cons (o := .v m) (os := os) hc hcs, Hf, H, R, σ, st, k, Q', Q, p, h, c => by
    refine hc Hf H R σ st _ p ?_
    rw [opds] at h
    cases e : m st with
    | fail => rw [e] at h; exact h
    | exc x st1 => rw [e] at h; exact h
    | ok d st1 =>
      rw [e] at h
      intro Hf1 H1 P R1 v t1 p1
      have h1 : Post ca X Hf1 H1 (jn Em R1) σ (opds os st1 fun gs st2 => k (fun s => (gs s).map (d :: ·)) st2) Q' := Post.from (t1.less fun b q => q.elim (fun q => q.elim) .inr) h
      refine ops_sound hcs p1.drop h1 fun gs st2 Hf2 H2 R2 vs t2 p2 hr hk => ?_
      have t1' := t1.less (S2 := jn Em R1) fun b q => q.elim (fun q => q.elim) .inr
      refine c _ st2 Hf2 H2 R2 (v :: vs) (t1'.trans t2) p2 (fun ds e => ?_) hk
      cases g : gs st2 with
      | none => rw [g] at e; cases e
      | some ds' =>
        rw [g] at e
        cases e
        have wP : Wl Hf1 H1 P := p1.w.mono fun b q => .inl q
        have bs := t2.beside wP fun b q1 q2 => q2.elim (fun q => q.elim) fun ⟨i, q⟩ => p1.dp i b q1 q
        exact .cons (p1.pend.keep t2.fx bs.1) (hr _ g)
  | _, _, .cons (e := ex) (o := .s i) (es := es) (os := os) hc hcs, Hf, H, R, σ, st, k, Q', Q, p, h, c => by
    rw [opds] at h
    cases gi : getS st i with
    | none =>
      rw [gi] at h
      exact h.elim
    | some d0 =>
      rw [gi] at h
      obtain ⟨v, ev, _⟩ := p.at_ i d0 gi
      refine we_of hc ⟨v, ev, ?_⟩
      refine ops_sound hcs p h fun gs st2 Hf2 H2 R2 vs t2 p2 hr hk => c _ st2 Hf2 H2 R2 (v :: vs) t2 p2 (fun ds e => ?_) hk
      cases g0 : getS st2 i with
      | none => rw [g0] at e; cases e
      | some d =>
        rw [g0] at e
        cases g : gs st2 with
        | none =>
          rw [g] at e
          cases e
        | some ds' =>
          rw [g] at e
          cases e
          obtain ⟨v', e2, r⟩ := p2.at_ i d g0
          rw [ev] at e2
          cases e2
          exact .cons r (hr _ g)
end
end DL

/-! DL4: operations by data; and, or, not, if; displays; tests. -/
namespace DL
open PySem L2 PyProof.Rows

/-- what an operation that only looks hands on -/
def OutQ (ca : Nat → Addr) (K : PySem.W.Frag) (Hf H : Hp) (o : Out) (Q : VK) : Prop :=
  match o with
  | .val d => ∀ v, Rep ca K Hf H Em v d → Q v H
  | .newL ds => ∀ p vs, H p = none → RepL ca K Hf H Em vs ds → Q (.ref p) (upd H p (.lst vs))
  | .newT ds => ∀ p vs, H p = none → RepL ca K Hf H Em vs ds → Q (.ref p) (upd H p (.tup vs))
def rl1 (r : V → Hp → VK → Prop) : List V → Hp → VK → Prop
  | [x], H, Q => r x H Q
  | _, _, _ => False
def rl2 (r : L2.R2) : List V → Hp → VK → Prop
  | [x, y], H, Q => r x y H Q
  | _, _, _ => False
def f2 (f : D → D → Option D) : List D → Option Out
  | [x, y] => (f x y).map .val
  | _ => none
/-- an operation by values (rl) is what f says of the data -/
def OpS (ca : Nat → Addr) (K : PySem.W.Frag) (rl : List V → Hp → VK → Prop) (f : List D → Option Out) : Prop :=
  ∀ (Hf H : Hp) (vs : List V) (ds : List D) (o : Out) (Q : VK), Ex Hf H → RdL ca K Hf H vs ds → f ds = some o → OutQ ca K Hf H o Q → rl vs H Q

section
variable {ca : Nat → Addr} {K : PySem.W.Frag} {Hf H Hf1 H1 Hf2 H2 : Hp} {S S1 S2 P : Rg} {R R1 R2 : Nat → Rg} {pp qq : Prop} {σ σ' : L2.St} {st st' : Sl} {v : V} {d : D} {vs : List V} {ds : List D} {X : Cx} {L : List Nat}

theorem outQ_of {o : Out} {Q : VK} (p : PR ca X.K Hf H P pp R σ st) (h : Post ca X Hf H S σ (.ok o.d st) Q) (hS : ∀ b, tot R b → S b) : OutQ ca X.K Hf H o Q := by
  cases o with
  | val d => exact fun v r => post_val p h hS r
  | newL ds => exact fun a vs hn r => post_newL p h hS hn r
  | newT ds => exact fun a vs hn r => post_newT p h hS hn r
/-- THE RULE for an operation that only looks at its operands -/
theorem ce_op {e : Expr} {es : List Expr} {os : List Opd} {rl : List V → Hp → VK → Prop} {f : List D → Option Out} (hw : ∀ σ H Q, WL X es σ H (fun vs H2 => rl vs H2 Q) → We X e σ H Q) (hc : COs ca X es os) (ho : OpS ca X.K rl f) : CE ca X e (eOp f os) :=
  fun Hf H R σ st Q p h => by
    refine hw σ H Q (ops_sound hc p h fun gs st2 Hf2 H2 R2 vs t2 p2 hr hk => ?_)
    cases g : gs st2 with
    | none => rw [g] at hk; exact hk.elim
    | some ds =>
      rw [g] at hk
      cases g2 : f ds with
      | none =>
        have hk' : Post ca X Hf2 H2 (jn Em R2) σ (match f ds with | some o => .ok o.d st2 | none => .fail) Q := hk
        rw [g2] at hk'; exact hk'.elim
      | some o =>
        have hk' : Post ca X Hf2 H2 (jn Em R2) σ (match f ds with | some o => .ok o.d st2 | none => .fail) Q := hk
        rw [g2] at hk'
        exact ho Hf2 H2 vs ds o Q p2.w.ex (hr ds g) g2 (outQ_of p2 hk' fun b q => .inr q)
/-! ### the forms -/
theorem ce_bin {a b : Expr} {oa ob : Opd} {op : Operator} {pos : Pos} {r : L2.R2} {f : List D → Option Out} (ho : OpR X (binaryOp op) r) (hs : OpS ca X.K (rl2 r) f) (ha : CO ca X a oa) (hb : CO ca X b ob) :
    CE ca X (.BinOp a op b pos) (eOp f [oa, ob]) := ce_op (es := [a, b]) (rl := rl2 r) (fun σ H Q h => we_of (pe_op ho (we_pe X a) (we_pe X b)) h) (.cons ha (.cons hb .nil)) hs
theorem ce_cmp {a b : Expr} {oa ob : Opd} {op : CmpOp} {pos : Pos} {r : L2.R2} {f : List D → Option Out} (ho : OpR X (compareOp op) r) (hs : OpS ca X.K (rl2 r) f) (ha : CO ca X a oa) (hb : CO ca X b ob) (hm : behindInMarks op b = false) :
    CE ca X (.Compare a [op] [b] pos) (eOp f [oa, ob]) := ce_op (es := [a, b]) (rl := rl2 r) (fun σ H Q h => we_of (pe_cmpR ho (we_pe X a) (we_pe X b) hm) h) (.cons ha (.cons hb .nil)) hs
theorem ce_un {a : Expr} {oa : Opd} {op : UnaryOp} {pos : Pos} {r : V → Hp → VK → Prop} {f : List D → Option Out} (ho : UnR X (unaryOp op) r) (hs : OpS ca X.K (rl1 r) f) (ha : CO ca X a oa) :
    CE ca X (.UnaryOp op a pos) (eOp f [oa]) := ce_op (es := [a]) (rl := rl1 r) (fun σ H Q h => we_of (pe_un ho (we_pe X a)) h) (.cons ha .nil) hs
theorem ce_ix {a b : Expr} {oa ob : Opd} {pos : Pos} {r : L2.R2} {f : List D → Option Out} (hr : IxR X r) (hs : OpS ca X.K (rl2 r) f) (ha : CO ca X a oa) (hb : CO ca X b ob) (hp : PlainIx b) :
    CE ca X (.Subscript a b pos) (eOp f [oa, ob]) := ce_op (es := [a, b]) (rl := rl2 r) (fun σ H Q h => we_of (pe_ix hr (we_pe X a) (we_pe X b) hp) h) (.cons ha (.cons hb .nil)) hs
/-- the arguments of a call of a built-in, by values -/
theorem wa_wl : ∀ {es : List Expr}, (∀ e r, (e :: r) <:+ es → starEach (e :: r) X.env = (false, eval e X.env) :: starEach r X.env) → ∀ {σ : L2.St} {H : Hp} {Q : List V → Hp → Prop}, WL X es σ H Q → Wa X es σ H Q
  | [], _, _, _, _, h => wa_of pa_nil h
  | e :: es, hs, _, _, _, h => wa_of (pa_cons (we_pe X e) (wa_pa X es) (hs e es (List.suffix_refl _))) (fun pins s I => thn (h pins s I) fun u s1 ⟨v, H1, I1, r1, q1⟩ => ⟨v, H1, I1, r1, wa_wl (fun e' r' q => hs e' r' (q.trans (List.suffix_cons _ _))) q1⟩)
end
/-- no star among the arguments -/
def NoStar : List Expr → Prop
  | [] => True
  | e :: es => (∀ env, starEach (e :: es) env = (false, eval e env) :: starEach es env) ∧ NoStar es
theorem noStar_suf : ∀ {es : List Expr}, NoStar es → ∀ e r, (e :: r) <:+ es → ∀ env, starEach (e :: r) env = (false, eval e env) :: starEach r env
  | [], _, e, r, q, _ => by simp at q
  | x :: es, h, e, r, q, env => by
    rcases List.suffix_cons_iff.mp q with q | q
    · cases q; exact h.1 env
    · exact noStar_suf h.2 e r q env
section
variable {ca : Nat → Addr} {K : PySem.W.Frag} {X : Cx} {L : List Nat}
/-- f(e, ..), f a built-in function; T(e, ..), T a built-in type -/
theorem ce_callB {x : Str} {p pos : Pos} {e : Expr} {es : List Expr} {os : List Opd} {id : String} {r : List V → Hp → VK → Prop} {f : List D → Option Out} (hc : CallR X (.builtin id) r) (hg : Gl X x) (hm : X.mg x = none) (hv : bootBuiltins x = some (.builtin id)) (hs : OpS ca X.K r f)
    (ha : COs ca X (e :: es) os) (hn : x ≠ "__name__" := by decide) (hdb : (x == ("__debug__" : Str)) = false := by decide) (hst : NoStar (e :: es) := by exact ⟨fun _ => rfl, trivial⟩)
    (hpl : (backTo pos (starEach es X.env)).any (·.1) = false := by rfl) : CE ca X (.Call (.Name x p) (e :: es) [] pos) (eOp f os) :=
  ce_op (es := e :: es) (fun σ H Q h => we_of (pe_callB hc hg hm hv (wa_pa X (e :: es)) hn hdb (hst.1 _) hpl) (wa_wl (fun e' r' q => noStar_suf hst e' r' q _) h)) ha hs
theorem ce_callTy {x : Str} {p pos : Pos} {e : Expr} {es : List Expr} {os : List Opd} {T : String} {r : List V → Hp → VK → Prop} {f : List D → Option Out} (hc : CallR X (.type T) r) (hg : Gl X x) (hm : X.mg x = none) (hv : bootBuiltins x = some (.type T)) (hs : OpS ca X.K r f)
    (ha : COs ca X (e :: es) os) (hn : x ≠ "__name__" := by decide) (hdb : (x == ("__debug__" : Str)) = false := by decide) (hst : NoStar (e :: es) := by exact ⟨fun _ => rfl, trivial⟩)
    (hpl : (backTo pos (starEach es X.env)).any (·.1) = false := by rfl) : CE ca X (.Call (.Name x p) (e :: es) [] pos) (eOp f os) :=
  ce_op (es := e :: es) (fun σ H Q h => we_of (pe_callTy hc hg hm hv (wa_pa X (e :: es)) hn hdb (hst.1 _) hpl) (wa_wl (fun e' r' q => noStar_suf hst e' r' q _) h)) ha hs
end

section
variable {ca : Nat → Addr} {K : PySem.W.Frag} {Hf H Hf1 H1 Hf2 H2 : Hp} {S S1 S2 P : Rg} {R R1 R2 : Nat → Rg} {pp qq : Prop} {σ σ' : L2.St} {st st' : Sl} {v : V} {d : D} {vs : List V} {ds : List D} {X : Cx} {L : List Nat}
/-! ### and, or, not, if -/
theorem less0 {P' : Rg} (t : Tr S Hf H (jn P' R1) Hf1 H1) : Tr S Hf H (jn Em R1) Hf1 H1 := t.less fun _ q => q.elim (fun q => q.elim) .inr
theorem rep_bl (r : Rep ca K Hf H S v (.bl b)) : v = .bl b := by cases r; rfl
theorem rep_int (r : Rep ca K Hf H S v (.int i)) : v = .int i := by cases r; rfl
theorem rep_str (r : Rep ca K Hf H S v (.str x)) : v = .str x := by cases r; rfl
theorem rep_non (r : Rep ca K Hf H S v .non) : v = .non := by cases r; rfl
theorem ce_and {a b : Expr} {ma mb : ME} {pos : Pos} (ha : CE ca X a ma) (hb : CE ca X b mb) : CE ca X (.BoolOp .And [a, b] pos) (eAnd ma mb) := fun Hf H R σ st Q p h => by
  refine we_of (pe_and (we_pe X a) (pe_one (we_pe X b))) ?_
  refine ha Hf H R σ st _ p ?_
  unfold eAnd at h
  cases e : ma st with
  | fail => rw [e] at h; exact h
  | exc x st1 => rw [e] at h; exact h
  | ok d st1 =>
    rw [e] at h
    intro Hf1 H1 P R1 v t1 p1
    cases d with
    | bl k =>
      cases k with
      | true => exact ⟨true, rep_bl p1.pend, hb Hf1 H1 R1 σ st1 Q p1.drop (Post.from (less0 t1) h)⟩
      | false => exact ⟨false, rep_bl p1.pend, h Hf1 H1 Em R1 (.bl false) (less0 t1) (p1.drop.put .bl)⟩
    | _ => exact h.elim
theorem ce_or {a b : Expr} {ma mb : ME} {pos : Pos} (ha : CE ca X a ma) (hb : CE ca X b mb) : CE ca X (.BoolOp .Or [a, b] pos) (eOr ma mb) := fun Hf H R σ st Q p h => by
  refine we_of (pe_or (we_pe X a) (pe_one (we_pe X b))) ?_
  refine ha Hf H R σ st _ p ?_
  unfold eOr at h
  cases e : ma st with
  | fail => rw [e] at h; exact h
  | exc x st1 => rw [e] at h; exact h
  | ok d st1 =>
    rw [e] at h
    intro Hf1 H1 P R1 v t1 p1
    cases d with
    | bl k =>
      cases k with
      | true => exact ⟨true, rep_bl p1.pend, h Hf1 H1 Em R1 (.bl true) (less0 t1) (p1.drop.put .bl)⟩
      | false => exact ⟨false, rep_bl p1.pend, hb Hf1 H1 R1 σ st1 Q p1.drop (Post.from (less0 t1) h)⟩
    | _ => exact h.elim
/-- the tail of an and, an or of more than two -/
theorem ce_one {a : Expr} {op : BoolOp} {ma : ME} {pos : Pos} (ha : CE ca X a ma) : CE ca X (.BoolOp op [a] pos) ma := fun Hf H R σ st Q p h => we_of (pe_one (we_pe X a)) (ha Hf H R σ st Q p h)
theorem ce_and' {a b c : Expr} {r : List Expr} {ma mb : ME} {pos : Pos} (ha : CE ca X a ma) (hb : CE ca X (.BoolOp .And (b :: c :: r) pos) mb) : CE ca X (.BoolOp .And (a :: b :: c :: r) pos) (eAnd ma mb) := fun Hf H R σ st Q p h => by
  refine we_of (pe_and (we_pe X a) (we_pe X _)) ?_
  refine ha Hf H R σ st _ p ?_
  unfold eAnd at h
  cases e : ma st with
  | fail => rw [e] at h; exact h
  | exc x st1 => rw [e] at h; exact h
  | ok d st1 =>
    rw [e] at h
    intro Hf1 H1 P R1 v t1 p1
    cases d with
    | bl k =>
      cases k with
      | true => exact ⟨true, rep_bl p1.pend, hb Hf1 H1 R1 σ st1 Q p1.drop (Post.from (less0 t1) h)⟩
      | false => exact ⟨false, rep_bl p1.pend, h Hf1 H1 Em R1 (.bl false) (less0 t1) (p1.drop.put .bl)⟩
    | _ => exact h.elim
theorem ce_or' {a b c : Expr} {r : List Expr} {ma mb : ME} {pos : Pos} (ha : CE ca X a ma) (hb : CE ca X (.BoolOp .Or (b :: c :: r) pos) mb) : CE ca X (.BoolOp .Or (a :: b :: c :: r) pos) (eOr ma mb) := fun Hf H R σ st Q p h => by
  refine we_of (pe_or (we_pe X a) (we_pe X _)) ?_
  refine ha Hf H R σ st _ p ?_
  unfold eOr at h
  cases e : ma st with
  | fail => rw [e] at h; exact h
  | exc x st1 => rw [e] at h; exact h
  | ok d st1 =>
    rw [e] at h
    intro Hf1 H1 P R1 v t1 p1
    cases d with
    | bl k =>
      cases k with
      | true => exact ⟨true, rep_bl p1.pend, h Hf1 H1 Em R1 (.bl true) (less0 t1) (p1.drop.put .bl)⟩
      | false => exact ⟨false, rep_bl p1.pend, hb Hf1 H1 R1 σ st1 Q p1.drop (Post.from (less0 t1) h)⟩
    | _ => exact h.elim
theorem ce_not {a : Expr} {ma : ME} {pos : Pos} (ha : CE ca X a ma) : CE ca X (.UnaryOp .Not a pos) (eNot ma) := fun Hf H R σ st Q p h => by
  refine we_of (pe_not (we_pe X a)) ?_
  refine ha Hf H R σ st _ p ?_
  unfold eNot at h
  cases e : ma st with
  | fail => rw [e] at h; exact h
  | exc x st1 => rw [e] at h; exact h
  | ok d st1 =>
    rw [e] at h
    intro Hf1 H1 P R1 v t1 p1
    cases d with
    | bl k => exact ⟨k, rep_bl p1.pend, h Hf1 H1 Em R1 (.bl !k) (less0 t1) (p1.drop.put .bl)⟩
    | _ => exact h.elim
/-! ### tests -/
theorem ct_e {e : Expr} {m : ME} (hp : PT X e (tB (We X e))) (h : CE ca X e m) : CT ca X e (tE m) := fun Hf H R σ st Q p hq => by
  refine wt_of hp ?_
  refine h Hf H R σ st _ p ?_
  unfold tE at hq
  cases e : m st with
  | fail => rw [e] at hq; exact hq
  | exc x st1 => rw [e] at hq; exact hq
  | ok d st1 =>
    rw [e] at hq
    intro Hf1 H1 P R1 v t1 p1
    cases d with
    | bl k => exact ⟨k, rep_bl p1.pend, hq Hf1 H1 R1 (less0 t1) p1.drop⟩
    | _ => exact hq.elim
theorem ce_if {c a b : Expr} {mc : MT} {ma mb : ME} {pos : Pos} (hc : CT ca X c mc) (ha : CE ca X a ma) (hb : CE ca X b mb) : CE ca X (.IfExp c a b pos) (eIf mc ma mb) := fun Hf H R σ st Q p h => by
  refine we_of (pe_ifExp (wt_pt X c) (we_pe X a) (we_pe X b)) ?_
  refine hc Hf H R σ st _ p ?_
  unfold eIf at h
  cases e : mc st with
  | fail => rw [e] at h; exact h
  | exc x st1 => rw [e] at h; exact h
  | ok k st1 =>
    rw [e] at h
    intro Hf1 H1 R1 t1 p1
    cases k with
    | true => exact ha Hf1 H1 R1 σ st1 Q p1 (Post.from t1 h)
    | false => exact hb Hf1 H1 R1 σ st1 Q p1 (Post.from t1 h)

/-! ### a op1 b op2 c, of values without owned parts -/
theorem ce_chain {a b c : Expr} {ma mb mc : ME} {op op' : CmpOp} {r r' : L2.R2} {f g : D → D → Option D} {pos : Pos} (ho : OpR X (compareOp op) r) (ho' : OpR X (compareOp op') r')
    (hf : OpS ca X.K (rl2 r) (f2 f))
    (hg : OpS ca X.K (rl2 r') (f2 g))
    (ha : CE ca X a ma) (hb : CE ca X b mb) (hc : CE ca X c mc) (hm : lastMarks [op, op'] [b, c] = false := by with_unfolding_all rfl) :
    CE ca X (.Compare a [op, op'] [b, c] pos) (eChain f g ma mb mc) := fun Hf H R σ st Q p h => by
  refine we_of (pe_chain ho ho' (we_pe X a) (we_pe X b) (we_pe X c) hm) ?_
  refine ha Hf H R σ st _ p ?_
  unfold eChain at h
  cases e : ma st with
  | fail => rw [e] at h; exact h
  | exc x st1 => rw [e] at h; exact h
  | ok d st1 =>
    rw [e] at h
    intro Hf1 H1 P1 R1 v1 t1 p1
    refine hb Hf1 H1 R1 σ st1 _ p1.drop ?_
    have h1 := Post.from (less0 t1) h
    cases e2 : mb st1 with
    | fail => simp only [Res.bind, e2] at h1; exact h1
    | exc x st2 => simp only [Res.bind, e2] at h1; exact h1
    | ok d2 st2 =>
      simp only [Res.bind, e2] at h1
      intro Hf2 H2 P2 R2 v2 t2 p2
      have wP : Wl Hf1 H1 P1 := p1.w.mono fun b q => .inl q
      have bs := t2.beside wP fun b q1 q2 => q2.elim (fun q => q.elim) fun ⟨i, q⟩ => p1.dp i b q1 q
      have r1 := p1.pend.keep t2.fx bs.1
      cases e3 : f d d2 with
      | none => rw [e3] at h1; exact h1.elim
      | some k =>
        rw [e3] at h1
        refine hf Hf2 H2 [v1, v2] [d, d2] (.val k) _ p2.w.ex (.cons r1 (.cons p2.pend .nil)) (by simp [f2, e3]) ?_
        intro vk rk
        cases k with
        | bl kb =>
          refine ⟨kb, rep_bl rk, ?_⟩
          cases kb with
          | true =>
            show We X c σ H2 fun w' H4 => r' v2 w' H4 Q
            refine hc Hf2 H2 R2 σ st2 _ p2.drop ?_
            have h2 := Post.from (less0 t2) h1
            cases e4 : mc st2 with
            | fail => simp only [e4] at h2; exact h2
            | exc x st3 => simp only [e4] at h2; exact h2
            | ok d3 st3 =>
              simp only [e4] at h2
              intro Hf3 H3 P3 R3 v3 t3 p3
              have wP2 : Wl Hf2 H2 P2 := p2.w.mono fun b q => .inl q
              have bs2 := t3.beside wP2 fun b q1 q2 => q2.elim (fun q => q.elim) fun ⟨i, q⟩ => p2.dp i b q1 q
              have r2 := p2.pend.keep t3.fx bs2.1
              cases e5 : g d2 d3 with
              | none => rw [e5] at h2; exact h2.elim
              | some w3 =>
                rw [e5] at h2
                have h3 := Post.from (less0 t3) h2
                exact hg Hf3 H3 [v2, v3] [d2, d3] (.val w3) _ p3.w.ex (.cons r2 (.cons p3.pend .nil)) (by simp [f2, e5]) fun vk rk => post_val p3 h3 (fun b q => .inr q) rk
          | false =>
            show Q (.bl false) H2
            exact post_val p2 (Post.from (less0 t2) h1) (fun b q => .inr q) .bl
        | _ => exact h1.elim
end
end DL

/-! DL5: each operation by data is what the layer's rule says of the values. -/
namespace DL
open PySem L2 PyProof.Rows
section
variable {ca : Nat → Addr} {K : PySem.W.Frag} {Hf H Hf1 H1 Hf2 H2 : Hp} {S S1 S2 P : Rg} {v : V} {d : D} {vs : List V} {ds xs ys : List D} {X : Cx}

theorem rdl1 {ds : List D} (r : RdL ca K Hf H vs ds) : ∀ {d}, ds = [d] → ∃ v S, vs = [v] ∧ Rep ca K Hf H S v d := by
  intro d e; subst e
  cases r with
  | cons r1 r2 => cases r2; exact ⟨_, _, rfl, r1⟩
theorem rdl2 {ds : List D} (r : RdL ca K Hf H vs ds) : ∀ {d e}, ds = [d, e] → ∃ v w S S', vs = [v, w] ∧ Rep ca K Hf H S v d ∧ Rep ca K Hf H S' w e := by
  intro d e q; subst q
  cases r with
  | cons r1 r2 => cases r2 with
    | cons r3 r4 => cases r4; exact ⟨_, _, _, _, rfl, r1, r3⟩
theorem rdl3 {ds : List D} (r : RdL ca K Hf H vs ds) : ∀ {d e f}, ds = [d, e, f] → ∃ v w u S S' S'', vs = [v, w, u] ∧ Rep ca K Hf H S v d ∧ Rep ca K Hf H S' w e ∧ Rep ca K Hf H S'' u f := by
  intro d e f q; subst q
  cases r with
  | cons r1 r2 => cases r2 with
    | cons r3 r4 => cases r4 with
      | cons r5 r6 => cases r6; exact ⟨_, _, _, _, _, _, rfl, r1, r3, r5⟩
/-- the items of what is read -/
theorem rep_items (hx : Ex Hf H) (r : Rep ca K Hf H S v d) (h : items d = some xs) : ∃ a vs T, v = .ref a ∧ (SqL K H a vs ∨ SqT K H a vs) ∧ RepL ca K Hf H T vs xs := by
  cases r with
  | lstF e r => cases h; exact ⟨_, _, Em, rfl, .inl (.inl (.inl (hx _ _ e))), r⟩
  | lstO s e r => cases h; exact ⟨_, _, _, rfl, .inl (.inl (.inl e)), r⟩
  | tup e r => cases h; exact ⟨_, _, Em, rfl, .inr (.inl (.inl (hx _ _ e))), r⟩
  | scr e =>
    cases h
    rename_i a0 ns0
    refine ⟨_, ns0.map V.int, Em, rfl, .inl ?_, ?_⟩
    · rcases e with e | e
      · refine .inl ?_
        rcases e with e | ⟨o, e⟩
        · exact .inl (hx _ _ e)
        · exact .inr ⟨o, hx _ _ e⟩
      · exact .inr e
    · clear e
      induction ns0 with
      | nil => exact .nil
      | cons n ns ih => exact .cons (S1 := Em) (S2 := Em) .int ih (fun _ q => q) (fun _ q => q) fun _ q _ => q
  | _ => cases h
theorem rep_lst {o : Bool} (hx : Ex Hf H) (r : Rep ca K Hf H S v (.lst o xs)) : ∃ a vs T, v = .ref a ∧ H a = some (.lst vs) ∧ RepL ca K Hf H T vs xs := by
  cases r with
  | lstF e r => exact ⟨_, _, Em, rfl, hx _ _ e, r⟩
  | lstO s e r => exact ⟨_, _, _, rfl, e, r⟩
theorem rep_tup (hx : Ex Hf H) (r : Rep ca K Hf H S v (.tup xs)) : ∃ a vs, v = .ref a ∧ H a = some (.tup vs) ∧ RepL ca K Hf H Em vs xs := by
  cases r with
  | tup e r => exact ⟨_, _, rfl, hx _ _ e, r⟩
theorem repL_mapInt : ∀ {S : Rg} (ns : List Int), RepL ca K Hf H S (ns.map V.int) (ns.map D.int)
  | _, [] => .nil
  | _, n :: ns => .cons (S1 := Em) (S2 := Em) .int (repL_mapInt ns) (fun _ q => q.elim) (fun _ q => q.elim) fun _ q _ => q
theorem rep_lstItems (hx : Ex Hf H) (r : Rep ca K Hf H S v d) (h : lstItems d = some xs) : ∃ a vs T, v = .ref a ∧ SqL K H a vs ∧ RepL ca K Hf H T vs xs := by
  cases r with
  | lstF e r => cases h; exact ⟨_, _, Em, rfl, .inl (.inl (hx _ _ e)), r⟩
  | lstO s e r => cases h; exact ⟨_, _, _, rfl, .inl (.inl e), r⟩
  | scr e =>
    cases h
    rename_i a0 ns0
    refine ⟨a0, ns0.map V.int, Em, rfl, ?_, repL_mapInt ns0⟩
    rcases e with e | e
    · refine .inl ?_
      rcases e with e | ⟨o, e⟩
      · exact .inl (hx _ _ e)
      · exact .inr ⟨o, hx _ _ e⟩
    · exact .inr e
  | _ => cases h
theorem repL_cold0 (r : RepL ca K Hf H S vs ds) : colds ds = true → RepL ca K Hf H Em vs ds := by
  induction ds generalizing vs S with
  | nil => intro _; cases r; exact .nil
  | cons d ds ih =>
    intro h
    cases r with
    | cons r1 r2 h1 h2 h3 =>
      rw [colds, List.all_cons, Bool.and_eq_true] at h
      have hc : hot d = false := by have := h.1; unfold cold at this; simpa using this
      exact .cons (S1 := Em) (S2 := Em) (r1.cold hc) (ih r2 h.2) (fun _ q => q.elim) (fun _ q => q.elim) fun _ q => q.elim
theorem repL_cold (r : RepL ca K Hf H S vs ds) (h : colds ds = true) : RepL ca K Hf H S1 vs ds := (repL_cold0 r h).mono fun _ q => q.elim
theorem repL_app0 (r : RepL ca K Hf H S vs xs) : ∀ {ws : List V} {S2 : Rg}, RepL ca K Hf H S2 ws ys → colds xs = true → colds ys = true → RepL ca K Hf H Em (vs ++ ws) (xs ++ ys) := by
  induction xs generalizing vs S with
  | nil => intro ws S2 r2 _ h; cases r; exact repL_cold r2 h
  | cons d ds ih =>
    intro ws S2 q h h'
    cases r with
    | cons r1 r2 h1 h2 h3 =>
      rw [colds, List.all_cons, Bool.and_eq_true] at h
      have hc : hot d = false := by have := h.1; unfold cold at this; simpa using this
      exact .cons (S1 := Em) (S2 := Em) (r1.cold hc) (ih r2 q h.2 h') (fun _ q => q.elim) (fun _ q => q.elim) fun _ q => q.elim
theorem repL_app (r : RepL ca K Hf H S vs xs) {ws : List V} {S2 : Rg} (r2 : RepL ca K Hf H S2 ws ys) (h : colds xs = true) (h2 : colds ys = true) : RepL ca K Hf H S1 (vs ++ ws) (xs ++ ys) := (repL_app0 r r2 h h2).mono fun _ q => q.elim
theorem repL_at (r : RepL ca K Hf H S vs xs) : ∀ {i : Nat} {d : D}, xs[i]? = some d → ∃ v T, vs[i]? = some v ∧ Rep ca K Hf H T v d ∧ (∀ b, T b → S b) := by
  induction xs generalizing vs S with
  | nil => intro i d h; simp at h
  | cons x xs ih =>
    intro i d h
    cases r with
    | cons r1 r2 h1 h2 h3 =>
      cases i with
      | zero => simp at h; subst h; exact ⟨_, _, rfl, r1, h1⟩
      | succ i =>
        obtain ⟨v, T, e, q, z⟩ := ih r2 (i := i) (d := d) (by simpa using h)
        exact ⟨v, T, by simpa using e, q, fun b y => h2 b (z b y)⟩
theorem repL_sub (r : RepL ca K Hf H S vs xs) (f : {α : Type} → List α → List α) (hf : ∀ {α : Type} (l : List α), ∃ n m, f l = (l.drop n).take m ∧ ∀ {β : Type} (l' : List β), l'.length = l.length → f l' = (l'.drop n).take m) (h : colds xs = true) : RepL ca K Hf H S1 (f vs) (f xs) := by
  obtain ⟨n, m, e, g⟩ := hf xs
  rw [e, g vs r.length]
  have r0 : RepL ca K Hf H Em vs xs := repL_cold r h
  clear e g r
  have rd : ∀ (n : Nat) {vs : List V} {xs : List D}, RepL ca K Hf H Em vs xs → RepL ca K Hf H Em (vs.drop n) (xs.drop n) := by
    intro n
    induction n with
    | zero => intro vs xs r; exact r
    | succ n ih =>
      intro vs xs r
      cases r with
      | nil => exact .nil
      | cons r1 r2 h1 h2 h3 => exact ih (r2.mono h2)
  have rt : ∀ (n : Nat) {vs : List V} {xs : List D}, RepL ca K Hf H Em vs xs → RepL ca K Hf H Em (vs.take n) (xs.take n) := by
    intro n
    induction n with
    | zero => intro vs xs r; exact .nil
    | succ n ih =>
      intro vs xs r
      cases r with
      | nil => exact .nil
      | cons r1 r2 h1 h2 h3 => exact .cons (S1 := Em) (S2 := Em) (r1.mono h1) (ih (r2.mono h2)) (fun _ q => q) (fun _ q => q) fun _ q _ => q
  exact (rt m (rd n r0)).mono fun _ q => q.elim
theorem repL_ints : ∀ {xs : List D} {vs : List V} {S : Rg} {ns : List Int}, RepL ca K Hf H S vs xs → asInts xs = some ns → vs = ns.map V.int
  | [], _, _, _, r, h => by cases r; cases h; rfl
  | d :: xs, _, _, ns, .cons r1 r2 _ _ _, h => by
    cases d with
    | int i =>
      rw [asInts] at h
      cases e : asInts xs with
      | none =>
        rw [e] at h
        cases h
      | some ns' =>
        rw [e] at h
        cases h
        rw [repL_ints r2 e, rep_int r1]
        rfl
    | _ => simp [asInts] at h
theorem repL_bls : ∀ {xs : List D} {vs : List V} {S : Rg} {ns : List Bool}, RepL ca K Hf H S vs xs → asBls xs = some ns → vs = ns.map V.bl
  | [], _, _, _, r, h => by cases r; cases h; rfl
  | d :: xs, _, _, ns, .cons r1 r2 _ _ _, h => by
    cases d with
    | bl i =>
      rw [asBls] at h
      cases e : asBls xs with
      | none =>
        rw [e] at h
        cases h
      | some ns' =>
        rw [e] at h
        cases h
        rw [repL_bls r2 e, rep_bl r1]
        rfl
    | _ => simp [asBls] at h

/-! ### arithmetic -/
theorem os_int2 {g : Int → Int → D} {gv : Int → Int → V} {C : Int → Int → Prop} [∀ i j, Decidable (C i j)] (hg : ∀ i j Hf H, Rep ca K Hf H Em (gv i j) (g i j)) {f : List D → Option Out}
    (hf : ∀ ds o, f ds = some o → ∃ i j, ds = [.int i, .int j] ∧ C i j ∧ o = .val (g i j)) {r : L2.R2} (hr : ∀ i j H Q, C i j → Q (gv i j) H → r (.int i) (.int j) H Q) : OpS ca K (rl2 r) f := fun Hf H vs ds o Q hx rd h q => by
  obtain ⟨i, j, e, c, eo⟩ := hf ds o h
  subst eo
  obtain ⟨v, w, S, S', e1, r1, r2⟩ := rdl2 rd e
  subst e1
  rw [rep_int r1, rep_int r2]
  exact hr i j H Q c (q _ (hg i j Hf H))
theorem os_sub : OpS ca K (rl2 (rI0 fun i j => .int (i - j))) oSub := fun Hf H vs ds o Q hx rd h q => by
  match ds, h with
  | [.int i, .int j], h =>
    cases h
    obtain ⟨v, w, S, S', e1, r1, r2⟩ := rdl2 rd rfl
    subst e1
    exact ⟨i, j, rep_int r1, rep_int r2, q _ .int⟩
theorem os_div : OpS ca K (rl2 (rI CDivW fun i j => .int (i / j))) oDiv := fun Hf H vs ds o Q hx rd h q => by
  match ds, h with
  | [.int i, .int j], h =>
    rw [oDiv] at h
    split at h
    · rename_i c
      cases h
      obtain ⟨v, w, S, S', e1, r1, r2⟩ := rdl2 rd rfl
      subst e1
      exact ⟨i, j, rep_int r1, rep_int r2, c, q _ .int⟩
    · cases h
theorem os_mod : OpS ca K (rl2 (rI (fun _ j => 0 < j) fun i j => .int (i % j))) oMod := fun Hf H vs ds o Q hx rd h q => by
  match ds, h with
  | [.int i, .int j], h =>
    rw [oMod] at h
    split at h
    · rename_i c
      cases h
      obtain ⟨v, w, S, S', e1, r1, r2⟩ := rdl2 rd rfl
      subst e1
      exact ⟨i, j, rep_int r1, rep_int r2, c, q _ .int⟩
    · cases h
theorem os_pow : OpS ca K (rl2 (rI CPow fun i j => .int (i ^ j.toNat))) oPow := fun Hf H vs ds o Q hx rd h q => by
  match ds, h with
  | [.int i, .int j], h =>
    rw [oPow] at h
    split at h
    · rename_i c
      cases h
      obtain ⟨v, w, S, S', e1, r1, r2⟩ := rdl2 rd rfl
      subst e1
      exact ⟨i, j, rep_int r1, rep_int r2, c, q _ .int⟩
    · cases h
theorem os_neg : OpS ca K (rl1 (rU fun i => .int (-i))) oNeg := fun Hf H vs ds o Q hx rd h q => by
  match ds, h with
  | [.int i], h =>
    cases h
    obtain ⟨v, S, e1, r1⟩ := rdl1 rd rfl
    subst e1
    exact ⟨i, rep_int r1, q _ .int⟩
theorem f2_some {p : D → D → Option D} {ds : List D} {o : Out} (h : f2 p ds = some o) : ∃ x y z, ds = [x, y] ∧ p x y = some z ∧ o = .val z := by
  match ds, h with
  | [x, y], h =>
    dsimp only [f2] at h
    cases e : p x y with
    | none =>
      rw [e] at h
      cases h
    | some z => rw [e] at h; cases h; exact ⟨x, y, z, rfl, e, rfl⟩
  | [], h => cases h
  | [_], h => cases h
  | _ :: _ :: _ :: _, h =>
      cases h
theorem os_lt : OpS ca K (rl2 (rI0 fun i j => .bl (decide (i < j)))) (f2 pLt) := fun Hf H vs ds o Q hx rd h q => by
  obtain ⟨x, y, z, rfl, h1, rfl⟩ := f2_some h
  obtain ⟨v, w, S, S', e1, r1, r2⟩ := rdl2 rd rfl
  subst e1
  cases x <;> try (cases h1; done)
  cases y <;> try (cases h1; done)
  cases h1
  exact ⟨_, _, rep_int r1, rep_int r2, q _ .bl⟩
theorem os_le : OpS ca K (rl2 (rI0 fun i j => .bl (decide (i ≤ j)))) (f2 pLe) := fun Hf H vs ds o Q hx rd h q => by
  obtain ⟨x, y, z, rfl, h1, rfl⟩ := f2_some h
  obtain ⟨v, w, S, S', e1, r1, r2⟩ := rdl2 rd rfl
  subst e1
  cases x <;> try (cases h1; done)
  cases y <;> try (cases h1; done)
  cases h1
  exact ⟨_, _, rep_int r1, rep_int r2, q _ .bl⟩
theorem os_gt : OpS ca K (rl2 (rI0 fun i j => .bl (decide (j < i)))) (f2 pGt) := fun Hf H vs ds o Q hx rd h q => by
  obtain ⟨x, y, z, rfl, h1, rfl⟩ := f2_some h
  obtain ⟨v, w, S, S', e1, r1, r2⟩ := rdl2 rd rfl
  subst e1
  cases x <;> try (cases h1; done)
  cases y <;> try (cases h1; done)
  cases h1
  exact ⟨_, _, rep_int r1, rep_int r2, q _ .bl⟩
theorem os_ge : OpS ca K (rl2 (rI0 fun i j => .bl (decide (j ≤ i)))) (f2 pGe) := fun Hf H vs ds o Q hx rd h q => by
  obtain ⟨x, y, z, rfl, h1, rfl⟩ := f2_some h
  obtain ⟨v, w, S, S', e1, r1, r2⟩ := rdl2 rd rfl
  subst e1
  cases x <;> try (cases h1; done)
  cases y <;> try (cases h1; done)
  cases h1
  exact ⟨_, _, rep_int r1, rep_int r2, q _ .bl⟩
/-! ### + and * of several kinds -/
def rAddA : L2.R2 := fun x y H Q => rI0 (fun i j => .int (i + j)) x y H Q ∨ rCat x y H Q ∨ (∃ i j, x = .str i ∧ y = .str j ∧ i.length + j.length ≤ sizeLine ∧ Q (.str (i ++ j)) H)
theorem op_addA : OpR X (binaryOp .Add) rAddA := OpR.or op_add (OpR.or op_cat op_add_str)
theorem sz_eq : (16777216 : Nat) = sizeLine := by rw [sizeLine_eq]
theorem newLc_some {xs : List D} {o : Out} (h : newLc xs = some o) : o = .newL xs ∧ colds xs = true ∧ xs.length ≤ sizeLine := by
  unfold newLc at h
  split at h
  · rename_i c
    rw [Bool.and_eq_true, decide_eq_true_eq] at c
    cases h
    exact ⟨rfl, c.1, by rw [← sz_eq]; exact c.2⟩
  · cases h
theorem os_add : OpS ca K (rl2 rAddA) oAdd := fun Hf H vs ds o Q hx rd h q => by
  match ds, h with
  | [.int i, .int j], h =>
    cases h
    obtain ⟨v, w, S, S', e1, r1, r2⟩ := rdl2 rd rfl
    subst e1
    exact .inl ⟨i, j, rep_int r1, rep_int r2, q _ .int⟩
  | [.lst o1 xs, .lst o2 ys], h =>
    obtain ⟨v, w, S, S', e1, r1, r2⟩ := rdl2 rd rfl
    subst e1
    obtain ⟨rfl, hc, hl⟩ := newLc_some h
    obtain ⟨a, vs, T, rfl, e2, r3⟩ := rep_lst hx r1
    obtain ⟨b, ws, T', rfl, e4, r4⟩ := rep_lst hx r2
    have hc' : colds xs = true ∧ colds ys = true := by
      unfold colds at hc ⊢
      rw [List.all_append, Bool.and_eq_true] at hc; exact hc
    refine .inr (.inl ⟨a, b, vs, ws, rfl, rfl, e2, e4, ?_, fun p hp => q p _ hp (repL_app r3 r4 hc'.1 hc'.2)⟩)
    rw [r3.length, r4.length]
    rw [List.length_append] at hl; exact hl
  | [.str x, .str y], h =>
    rw [oAdd] at h
    split at h
    · rename_i c
      cases h
      obtain ⟨v, w, S, S', e1, r1, r2⟩ := rdl2 rd rfl
      subst e1
      exact .inr (.inr ⟨x, y, rep_str r1, rep_str r2, by rw [← sz_eq]; exact c, q _ .str⟩)
    · cases h
def rMulA : L2.R2 := fun x y H Q => rI CMul (fun i j => .int (i * j)) x y H Q ∨ rRep x y H Q
theorem op_mulA : OpR X (binaryOp .Mult) rMulA := OpR.or op_mul op_rep
theorem repL_rep (r : RepL ca K Hf H S vs xs) (hc : colds xs = true) : ∀ k : Nat, RepL ca K Hf H S1 (List.replicate k vs).flatten (List.replicate k xs).flatten ∧ colds (List.replicate k xs).flatten = true
  | 0 => ⟨.nil, rfl⟩
  | k + 1 => by
    obtain ⟨h1, h2⟩ := repL_rep r hc k
    rw [List.replicate_succ, List.replicate_succ,
        List.flatten_cons, List.flatten_cons]
    refine ⟨repL_app r h1 hc h2, ?_⟩
    unfold colds at h2 hc ⊢
    rw [List.all_append, Bool.and_eq_true]; exact ⟨hc, h2⟩
theorem os_mul : OpS ca K (rl2 rMulA) oMul := fun Hf H vs ds o Q hx rd h q => by
  match ds, h with
  | [.int i, .int j], h =>
    rw [oMul] at h
    split at h
    · rename_i c
      cases h
      obtain ⟨v, w, S, S', e1, r1, r2⟩ := rdl2 rd rfl
      subst e1
      exact .inl ⟨i, j, rep_int r1, rep_int r2, c, q _ .int⟩
    · cases h
  | [.lst o1 xs, .int k], h =>
    rw [oMul] at h
    split at h
    · rename_i c
      rw [Bool.and_eq_true, decide_eq_true_eq] at c
      cases h
      obtain ⟨v, w, S, S', e1, r1, r2⟩ := rdl2 rd rfl
      subst e1
      obtain ⟨a, vs, T, rfl, e2, r3⟩ := rep_lst hx r1
      refine .inr ⟨a, k, vs, rfl, rep_int r2, e2, c.2.1, c.2.2.1, ?_, fun p hp => q p _ hp (repL_rep r3 c.1 _).1⟩
      rw [r3.length, ← sz_eq]; exact c.2.2.2
    · cases h
/-! ### ==, != at any depth; is None; in -/
theorem dpAll_ints : ∀ ns : List Int, DpAll K H (ns.map V.int) (ns.map PyData.int)
  | [] => .nil
  | n :: ns => .cons (.int n) (dpAll_ints ns)
mutual
theorem rep_dp (hx : Ex Hf H) : ∀ {S : Rg} {v : V} {d : D}, Rep ca K Hf H S v d → (toPy d).canLay0 = true → Dp K H v (toPy d)
  | _, _, _, .non, _ => by rw [toPy]; exact .non
  | _, _, _, .bl, _ => by rw [toPy]; exact .bl _
  | _, _, _, .int, _ => by rw [toPy]; exact .int _
  | _, _, _, .str, _ => by rw [toPy]; exact .str _
  | _, _, _, .scr (xs := ns) h, _ => by
      rw [toPy]
      refine .lst (xs := ns.map V.int) ?_ ?_
      · rcases h with h | h
        · refine .inl ?_
          rcases h with h | ⟨o, h⟩
          · exact .inl (hx _ _ h)
          · exact .inr ⟨o, hx _ _ h⟩
        · exact .inr h
      · exact dpAll_ints ns
  | _, _, _, .cls, h => by rw [toPy] at h; exact absurd h (by decide)
  | _, _, _, .ty, h => by rw [toPy] at h; exact absurd h (by decide)
  | _, _, _, .lstF e r, h => by
      rw [toPy] at h ⊢
      rw [PySem.PyData.canLay0] at h
      exact .lst (.inl (.inl (hx _ _ e))) (repL_dp hx r h)
  | _, _, _, .lstO s e r, h => by
      rw [toPy] at h ⊢
      rw [PySem.PyData.canLay0] at h
      exact .lst (.inl (.inl e)) (repL_dp hx r h)
  | _, _, _, .tup e r, h => by
      rw [toPy] at h ⊢
      rw [PySem.PyData.canLay0] at h
      exact .tup (.inl (.inl (hx _ _ e))) (repL_dp hx r h)
  | _, _, _, .insF _ _ _, h => by rw [toPy] at h; exact absurd h (by decide)
  | _, _, _, .insO _ _ _ _, h => by rw [toPy] at h; exact absurd h (by decide)
  | _, _, _, .dicF _ _ _, h => by rw [toPy] at h; exact absurd h (by decide)
  | _, _, _, .dicO _ _ _ _, h => by rw [toPy] at h; exact absurd h (by decide)
theorem repL_dp (hx : Ex Hf H) : ∀ {S : Rg} {vs : List V} {ds : List D}, RepL ca K Hf H S vs ds → PySem.PyData.canLayAll0 (toPyL ds) = true → DpAll K H vs (toPyL ds)
  | _, _, _, .nil, _ => by rw [toPyL]; exact .nil
  | _, _, _, .cons r1 r2 _ _ _, h => by
      rw [toPyL] at h ⊢
      rw [PySem.PyData.canLayAll0, Bool.and_eq_true] at h
      exact .cons (rep_dp hx r1 h.1) (repL_dp hx r2 h.2)
end
theorem shaped_lay {p : PySem.PyData} (h : PySem.SeqAt.shaped p = true) : p.canLay0 = true := by
  unfold PySem.SeqAt.shaped at h
  rw [Bool.and_eq_true] at h; exact h.1
theorem os_eq : OpS ca K (rl2 (rEqD K)) (f2 pEq) := fun Hf H vs ds o Q hx rd h q => by
  obtain ⟨x, y, z, rfl, h1, rfl⟩ := f2_some h
  unfold pEq at h1
  split at h1
  · rename_i c
    rw [Bool.and_eq_true] at c
    cases h1
    obtain ⟨v, w, S, S', e1, r1, r2⟩ := rdl2 rd rfl
    subst e1
    exact ⟨_, _, rep_dp hx r1 (shaped_lay c.1), rep_dp hx r2 (shaped_lay c.2), c.1, c.2, q _ .bl⟩
  · cases h1
theorem os_ne : OpS ca K (rl2 (rNeD K)) (f2 pNe) := fun Hf H vs ds o Q hx rd h q => by
  obtain ⟨x, y, z, rfl, h1, rfl⟩ := f2_some h
  unfold pNe at h1
  split at h1
  · rename_i c
    rw [Bool.and_eq_true] at c
    cases h1
    obtain ⟨v, w, S, S', e1, r1, r2⟩ := rdl2 rd rfl
    subst e1
    exact ⟨_, _, rep_dp hx r1 (shaped_lay c.1), rep_dp hx r2 (shaped_lay c.2), c.1, c.2, q _ .bl⟩
  · cases h1
theorem rep_isN (r : Rep ca K Hf H S v d) : decide (v = .non) = isN d := by cases r <;> simp [isN]
theorem os_isN : OpS ca K (rl2 fun x y H Q => y = .non ∧ Q (.bl (decide (x = .non))) H) oIsN := fun Hf H vs ds o Q hx rd h q => by
  match ds, h with
  | [x, .non], h =>
    cases h
    obtain ⟨v, w, S, S', e1, r1, r2⟩ := rdl2 rd rfl
    subst e1
    refine ⟨rep_non r2, ?_⟩
    rw [rep_isN r1]
    exact q _ .bl
theorem os_notN : OpS ca K (rl2 fun x y H Q => y = .non ∧ Q (.bl (!decide (x = .non))) H) oNotN := fun Hf H vs ds o Q hx rd h q => by
  match ds, h with
  | [x, .non], h =>
    cases h
    obtain ⟨v, w, S, S', e1, r1, r2⟩ := rdl2 rd rfl
    subst e1
    refine ⟨rep_non r2, ?_⟩
    rw [rep_isN r1]
    exact q _ .bl
theorem rep_flat (r : Rep ca K Hf H S v d) (h : flat d = true) : flatV v = true := by cases r <;> first | rfl | cases h
theorem repL_flat : ∀ {ds : List D} {vs : List V} {S : Rg}, RepL ca K Hf H S vs ds → ds.all flat = true → vs.all flatV = true
  | [], _, _, r, _ => by cases r; rfl
  | d :: ds, _, _, .cons r1 r2 _ _ _, h => by
    rw [List.all_cons, Bool.and_eq_true] at h ⊢
    exact ⟨rep_flat r1 h.1, repL_flat r2 h.2⟩
theorem rep_eqF {w : V} {e : D} (r : Rep ca K Hf H S v d) (r2 : Rep ca K Hf H S1 w e) (h : flat d = true) (h2 : flat e = true) : eqV v w = eqF d e := by
  cases r <;> first | (cases h; done) | (cases r2 <;> first | (cases h2; done) | rfl)
theorem repL_eqF {w : V} {e : D} (r2 : Rep ca K Hf H S1 w e) (h2 : flat e = true) : ∀ {ds : List D} {vs : List V} {S : Rg}, RepL ca K Hf H S vs ds → ds.all flat = true → (vs.any fun y => eqV y w) = ds.any fun z => eqF z e
  | [], _, _, r, _ => by cases r; rfl
  | d :: ds, _, _, .cons r1 r3 _ _ _, h => by
    rw [List.all_cons,
        Bool.and_eq_true] at h
    rw [List.any_cons, List.any_cons, rep_eqF r1 r2 h.1 h2, repL_eqF r2 h2 r3 h.2]
theorem os_in {neg : Bool} : OpS ca K (rl2 (rIn K neg)) (oIn neg) := fun Hf H vs ds o Q hx rd h q => by
  match ds, h with
  | [x, y], h =>
    dsimp only [oIn] at h
    split at h
    · rename_i ys ei
      split at h
      · rename_i c
        rw [Bool.and_eq_true] at c
        cases h
        obtain ⟨v, w, S, S', e1, r1, r2⟩ := rdl2 rd rfl
        subst e1
        obtain ⟨a, vs, T, rfl, e2, r3⟩ := rep_items hx r2 ei
        refine ⟨a, vs, rfl, e2, rep_flat r1 c.1, repL_flat r3 c.2, ?_⟩
        have e : inV v vs = ys.any fun z => eqF z x := repL_eqF r1 c.1 r3 c.2
        rw [e]
        exact q _ .bl
      · cases h
    · cases h
/-! ### subscripts, len, built-ins -/
def rIxA (K : PySem.W.Frag) : L2.R2 := fun x y H Q => rIxL K x y H Q ∨ rIxT K x y H Q
theorem ix_A : IxR X (rIxA X.K) := IxR.or ix_list ix_tup
theorem atI_rep {i : Int} (r : RepL ca K Hf H S vs xs) (h : atI xs i = some d) : ∃ v T, atI vs i = some v ∧ Rep ca K Hf H T v d := by
  obtain ⟨j, h1, h2, h3, h4, h5⟩ := atI_get h
  unfold atI at h ⊢
  rw [← r.length] at h
  cases e : ixN vs.length i with
  | none =>
    rw [e] at h
    cases h
  | some k =>
    rw [e] at h
    obtain ⟨v, T, e2, r2, _⟩ := repL_at r (i := k) (d := d) h
    exact ⟨v, T, e2, r2⟩
theorem os_ix : OpS ca K (rl2 (rIxA K)) oIx := fun Hf H vs ds o Q hx rd h q => by
  match ds, h with
  | [x, .int i], h =>
    dsimp only [oIx] at h
    split at h
    · rename_i xs ei
      split at h
      · rename_i dd ea
        split at h
        · rename_i hc
          cases h
          obtain ⟨v, w, S, S', e1, r1, r2⟩ := rdl2 rd rfl
          subst e1
          obtain ⟨a, vs, T, rfl, e2, r3⟩ := rep_items hx r1 ei
          obtain ⟨v', T', e3, r4⟩ := atI_rep r3 ea
          have hc' : hot dd = false := by unfold cold at hc; simpa using hc
          have q' := q v' (r4.cold hc')
          rcases e2 with e2 | e2
          · exact .inl ⟨a, vs, i, v', rfl, rep_int r2, e2, e3, q'⟩
          · exact .inr ⟨a, vs, i, v', rfl, rep_int r2, e2, e3, q'⟩
        · cases h
      · cases h
    · cases h
theorem os_len : OpS ca K (fun xs H Q => ∃ p ys, xs = [.ref p] ∧ (SqL K H p ys ∨ SqT K H p ys) ∧ Q (.int ys.length) H) oLen := fun Hf H vs ds o Q hx rd h q => by
  match ds, h with
  | [x], h =>
    dsimp only [oLen] at h
    cases ei : items x with
    | none => rw [ei] at h; cases h
    | some xs =>
      rw [ei] at h
      cases h
      obtain ⟨v, S, e1, r1⟩ := rdl1 rd rfl
      subst e1
      obtain ⟨a, vs, T, rfl, e2, r3⟩ := rep_items hx r1 ei
      refine ⟨a, vs, rfl, e2, ?_⟩
      rw [r3.length]
      exact q _ .int
theorem os_abs : OpS ca K (fun xs H Q => ∃ i, xs = [.int i] ∧ Q (.int (if i < 0 then -i else i)) H) oAbs := fun Hf H vs ds o Q hx rd h q => by
  match ds, h with
  | [.int i], h =>
    cases h
    obtain ⟨v, S, e1, r1⟩ := rdl1 rd rfl
    subst e1
    rw [rep_int r1]
    exact ⟨i, rfl, q _ .int⟩
theorem os_max2 : OpS ca K (fun xs H Q => ∃ i j, xs = [.int i, .int j] ∧ Q (.int (if j > i then j else i)) H) oMax2 := fun Hf H vs ds o Q hx rd h q => by
  match ds, h with
  | [.int i, .int j], h =>
    cases h
    obtain ⟨v, w, S, S', e1, r1, r2⟩ := rdl2 rd rfl
    subst e1
    rw [rep_int r1, rep_int r2]
    exact ⟨i, j, rfl, q _ .int⟩
theorem os_min2 : OpS ca K (fun xs H Q => ∃ i j, xs = [.int i, .int j] ∧ Q (.int (if j < i then j else i)) H) oMin2 := fun Hf H vs ds o Q hx rd h q => by
  match ds, h with
  | [.int i, .int j], h =>
    cases h
    obtain ⟨v, w, S, S', e1, r1, r2⟩ := rdl2 rd rfl
    subst e1
    rw [rep_int r1, rep_int r2]
    exact ⟨i, j, rfl, q _ .int⟩
theorem os_int : OpS ca K (fun xs H Q => (∃ i, xs = [.int i] ∧ Q (.int i) H) ∨ ∃ k, xs = [.bl k] ∧ Q (.int (if k then 1 else 0)) H) oInt := fun Hf H vs ds o Q hx rd h q => by
  match ds, h with
  | [.int i], h =>
    cases h
    obtain ⟨v, S, e1, r1⟩ := rdl1 rd rfl
    subst e1
    rw [rep_int r1]
    exact .inl ⟨i, rfl, q _ .int⟩
  | [.bl i], h =>
    cases h
    obtain ⟨v, S, e1, r1⟩ := rdl1 rd rfl
    subst e1
    rw [rep_bl r1]
    exact .inr ⟨i, rfl, q _ .int⟩
theorem os_sum : OpS ca K (rSum K) oSum := fun Hf H vs ds o Q hx rd h q => by
  match ds, h with
  | [x], h =>
    dsimp only [oSum] at h
    cases ei : lstItems x with
    | none => rw [ei] at h; cases h
    | some xs =>
      rw [ei] at h
      cases en : asInts xs with
      | none => simp [en] at h
      | some ns =>
        simp only [Option.bind_some, en, Option.map_some, Option.some.injEq] at h
        subst h
        obtain ⟨v, S, e1, r1⟩ := rdl1 rd rfl
        subst e1
        obtain ⟨a, vs, T, rfl, e2, r3⟩ := rep_lstItems hx r1 ei
        rw [repL_ints r3 en] at e2
        exact ⟨a, ns, rfl, e2, q _ .int⟩
theorem os_all : OpS ca K (rAll K) oAll := fun Hf H vs ds o Q hx rd h q => by
  match ds, h with
  | [x], h =>
    dsimp only [oAll] at h
    cases ei : lstItems x with
    | none => rw [ei] at h; cases h
    | some xs =>
      rw [ei] at h
      cases en : asBls xs with
      | none => simp [en] at h
      | some ns =>
        simp only [Option.bind_some, en, Option.map_some, Option.some.injEq] at h
        subst h
        obtain ⟨v, S, e1, r1⟩ := rdl1 rd rfl
        subst e1
        obtain ⟨a, vs, T, rfl, e2, r3⟩ := rep_lstItems hx r1 ei
        rw [repL_bls r3 en] at e2
        exact ⟨a, ns, rfl, e2, q _ .bl⟩
theorem os_any : OpS ca K (rAny K) oAny := fun Hf H vs ds o Q hx rd h q => by
  match ds, h with
  | [x], h =>
    dsimp only [oAny] at h
    cases ei : lstItems x with
    | none => rw [ei] at h; cases h
    | some xs =>
      rw [ei] at h
      cases en : asBls xs with
      | none => simp [en] at h
      | some ns =>
        simp only [Option.bind_some, en, Option.map_some, Option.some.injEq] at h
        subst h
        obtain ⟨v, S, e1, r1⟩ := rdl1 rd rfl
        subst e1
        obtain ⟨a, vs, T, rfl, e2, r3⟩ := rep_lstItems hx r1 ei
        rw [repL_bls r3 en] at e2
        exact ⟨a, ns, rfl, e2, q _ .bl⟩
theorem os_list : OpS ca K (fun xs H Q => ∃ p ys, xs = [.ref p] ∧ (SqL K H p ys ∨ SqT K H p ys) ∧ ∀ l, H l = none → Q (.ref l) (upd H l (.lst ys))) oList := fun Hf H vs ds o Q hx rd h q => by
  match ds, h with
  | [x], h =>
    dsimp only [oList] at h
    split at h
    · rename_i xs ei
      obtain ⟨rfl, hc, hl⟩ := newLc_some h
      obtain ⟨v, S, e1, r1⟩ := rdl1 rd rfl
      subst e1
      obtain ⟨a, vs, T, rfl, e2, r3⟩ := rep_items hx r1 ei
      exact ⟨a, vs, rfl, e2, fun l hl => q l vs hl (repL_cold r3 hc)⟩
    · cases h
theorem os_tuple : OpS ca K (fun xs H Q => ∃ p ys, xs = [.ref p] ∧ ((SqL K H p ys ∧ ∀ l, H l = none → Q (.ref l) (upd H l (.tup ys))) ∨ (SqT K H p ys ∧ Q (.ref p) H))) oTuple := fun Hf H vs ds o Q hx rd h q => by
  match ds, h with
  | [.lst o xs], h =>
    dsimp only [oTuple] at h
    split at h
    · rename_i c
      rw [Bool.and_eq_true] at c
      cases h
      obtain ⟨v, S, e1, r1⟩ := rdl1 rd rfl
      subst e1
      obtain ⟨a, vs, T, rfl, e2, r3⟩ := rep_lst hx r1
      exact ⟨a, vs, rfl, .inl ⟨.inl (.inl e2), fun l hl => q l vs hl (repL_cold r3 c.1)⟩⟩
    · cases h
  | [.tup xs], h =>
    cases h
    obtain ⟨v, S, e1, r1⟩ := rdl1 rd rfl
    subst e1
    have r1' := r1.cold (S' := Em) rfl
    obtain ⟨a, vs, rfl, e2, r3⟩ := rep_tup hx r1
    exact ⟨a, vs, rfl, .inr ⟨.inl (.inl e2), q _ r1'⟩⟩
/-! ### isinstance with a built-in type -/
theorem rep_ty (hx : Ex Hf H) {n : String} (r : Rep ca K Hf H S v d) (h : tyName d = some n) (hs : ∀ xs, d ≠ .scr xs) : TyX K H v (.type n) := by
  cases r with
  | non => cases h; exact .base .non
  | bl => cases h; exact .base (.bl _)
  | int => cases h; exact .base (.int _)
  | str => cases h; exact .base (.str _)
  | scr e => exact absurd rfl (hs _)
  | cls => cases h
  | ty => cases h
  | lstF e r => cases h; exact .base (.lst (hx _ _ e))
  | lstO s e r => cases h; exact .base (.lst e)
  | tup e r => cases h; exact .base (.tup (hx _ _ e))
  | insF _ _ _ => cases h
  | insO _ _ _ _ => cases h
  | dicF e _ _ => cases h; exact .base (.dK (hx _ _ e))
  | dicO s e _ _ => cases h; exact .base (.dK e)
  | xc _ _ _ _ => cases h
end
end DL

/-! DL6: targets, statements, loops. -/
namespace DL
open PySem L2 PyProof.Rows

/-! ### more pure meanings -/
/-- several targets of a tuple -/
def gTupM : List MG → List D → Sl → Res Unit
  | [], [], st => .ok () st
  | g :: gs, d :: ds, st => (g d st).bind fun _ st1 => gTupM gs ds st1
  | _, _, _ => .fail
def gT (gs : List MG) : MG := fun d st => match d with
  | .tup ds => gTupM gs ds st
  | _ => .fail
/-- xs[i] = d, xs the slot i0's own list -/
def gIx (i0 : Nat) (mi : ME) : MG := fun d st => if cold d && (getS st i0).isSome then (mi st).bind fun k st1 => (match k with
  | .int k => match getS st1 i0 with
    | some (.lst true xs) => match L2.ixN xs.length k with
      | some j => .ok () (st1.set i0 (some (.lst true (xs.set j d))))
      | none => .fail
    | _ => .fail
  | _ => .fail) else .fail
def sPar (i j : Nat) (ms : MA) : MS := fun st => (ms st).toS fun ds st1 => match ds with
  | [x, y] => .next ((st1.set i (some x)).set j (some y))
  | _ => .fail
/-- x op= e at a slot that holds no owned thing -/
def sAug (i : Nat) (f : List D → Option Out) (m : ME) : MS := fun st => match getS st i with
  | some x => if cold x then (m st).toS fun y st1 => (match f [x, y] with
    | some (.val z) => .next (st1.set i (some z))
    | _ => .fail) else .fail
  | none => .fail
/-- a for -/
def sFor (src : Sl → Res (List D)) (g : MG) (body : MS) : MS := fun st => (src st).toS fun ds st1 => forD g body ds st1
/-- what is walked -/
def iE (m : ME) (p : D → Option (List D)) : Sl → Res (List D) := fun st => (m st).bind fun d st1 => match p d with
  | some ds => if colds ds then .ok ds st1 else .fail
  | none => .fail
def rangeD (lo : Int) (n : Nat) : List D := (List.range n).map fun i => D.int (lo + (i : Nat))
def rangeC (lo : Int) (c : Int) (n : Nat) : List D := (List.range n).map fun i => D.int (lo + (i : Nat) * c)
def small62 (i : Int) : Bool := decide (-(2 ^ 62) ≤ i ∧ i < 2 ^ 62)
def iRg (ms : MA) : Sl → Res (List D) := fun st => (ms st).bind fun ds st1 => match ds with
  | [.int j] => if small62 j then .ok (rangeD 0 j.toNat) st1 else .fail
  | [.int i, .int j] => if small62 i && small62 j then .ok (rangeD i (j - i).toNat) st1 else .fail
  | _ => .fail

section
variable {ca : Nat → Addr} {K : PySem.W.Frag} {Hf H Hf1 H1 Hf2 H2 : Hp} {S S1 S2 P : Rg} {R R1 R2 : Nat → Rg} {pp qq : Prop} {σ σ' : L2.St} {st st' : Sl} {v : V} {d : D} {vs : List V} {ds : List D} {X : Cx} {L : List Nat}

theorem Lk.set {i : Nat} {o : Option V} (h : i ∉ L) : Lk L σ (σ.set i o) := ⟨List.length_set, fun j hj => by
  rw [List.getElem?_set_ne (fun e => h (by rw [e]; exact hj))]⟩

/-! ### targets -/
/-- the pending value goes to the slot i -/
theorem PR.store (i : Nat) (p : PR ca K Hf H P (Rep ca K Hf H P v d) R σ st) : PR ca K Hf H Em True (fun j b => if j = i then P b else R j b) (σ.set i (some v)) (st.set i (some d)) where
  pend := trivial
  len := by rw [List.length_set, List.length_set]; exact p.len
  at_ := fun j d' e => by
    rcases set_get e with ⟨q1, q2⟩ | ⟨q1, q2⟩
    · subst q1
      cases q2
      have := getS_lt e
      rw [List.length_set, p.len] at this
      exact ⟨v, by simp [this], by simpa using p.pend⟩
    · obtain ⟨v', e2, r⟩ := p.at_ j d' q2
      refine ⟨v', by rw [List.getElem?_set_ne q1]; exact e2, ?_⟩
      rw [show (fun b => if j = i then P b else R j b) = R j from by funext b; rw [if_neg (Ne.symm q1)]]
      exact r
  dj := fun j k b h1 h2 => by
    split at h1 <;> split at h2
    · rename_i a c; exact a.trans c.symm
    · exact (p.dp k b h1 h2).elim
    · exact (p.dp j b h2 h1).elim
    · exact p.dj j k b h1 h2
  dp := fun _ _ q => q.elim
  w := p.w.mono fun b q => by
    rcases q with q | ⟨j, q⟩
    · exact q.elim
    · split at q
      · exact .inl q
      · exact .inr ⟨j, q⟩
theorem store_tr (i : Nat) : Tr (jn P R) Hf H (jn Em fun j b => if j = i then P b else R j b) Hf H := Tr.refl fun b q => by
  rcases q with q | ⟨j, q⟩
  · exact q.elim
  · split at q
    · exact .inl q
    · exact .inr ⟨j, q⟩
theorem cg_name {e : Expr} {i : Nat} (hg : PG X e (gName i)) (hi : i ∉ L) : CG ca X L e (gName i) (gN i) :=
  ⟨hg, fun Hf H P R σ st v d Q p h => h Hf H _ _ (store_tr i) (p.store i) (Lk.set hi)⟩
def CGs (ca : Nat → Addr) (X : Cx) (L : List Nat) (es : List Expr) (t : TGs) (gs : List MG) : Prop := PGs X es t ∧ ∀ (ds : List D) (Hf H : Hp) (R : Nat → Rg) (σ : L2.St) (st : Sl) (vs : List V) (Q : L2.St → Hp → Prop), PR ca X.K Hf H Em (RepL ca X.K Hf H Em vs ds) R σ st →
  (match gTupM gs ds st with
    | .ok _ st' => ∀ Hf' H' R' σ', Tr (jn Em R) Hf H (jn Em R') Hf' H' → PR ca X.K Hf' H' Em True R' σ' st' → Lk L σ σ' → Q σ' H'
    | _ => False) → t vs σ H Q
theorem cgs_nil : CGs ca X L [] gNil [] := ⟨pgs_nil, fun ds Hf H R σ st vs Q p h => by
  cases ds with
  | nil =>
    have r := p.pend
    cases r
    exact ⟨rfl, h Hf H R σ (Tr.refl fun _ q => q) p.drop (Lk.refl)⟩
  | cons d ds => exact h.elim⟩
theorem repL_em {ds : List D} {vs : List V} (r : RepL ca K Hf H Em vs ds) (hx : Ex Hf Hf1) : RepL ca K Hf1 H1 Em vs ds := r.keep hx fun _ q => q.elim
theorem cgs_cons {e : Expr} {es : List Expr} {t : TG} {u : TGs} {g : MG} {gs : List MG} (hg : CG ca X L e t g) (hgs : CGs ca X L es u gs)
    (hs : (assignEach (e :: es) X.env).map (·.2) = assign e X.env :: (assignEach es X.env).map (·.2)) : CGs ca X L (e :: es) (gCons t u) (g :: gs) := ⟨pgs_cons hg.1 hgs.1 hs, fun ds Hf H R σ st vs Q p h => by
  cases ds with
  | nil => exact h.elim
  | cons d ds =>
    have r := p.pend
    cases r with
    | cons r1 r2 h1 h2 h3 =>
      rename_i v vs
      have r1' := r1.mono h1
      have r2' := r2.mono h2
      refine ⟨v, vs, rfl, hg.2 Hf H Em R σ st v d _ (p.drop.put r1') ?_⟩
      rw [gTupM] at h
      cases eg : g d st with
      | fail => rw [eg] at h; exact h
      | exc x st1 => rw [eg] at h; exact h
      | ok a st1 =>
        rw [eg] at h
        intro Hf1 H1 R1 σ1 t1 p1 k1
        refine hgs.2 ds Hf1 H1 R1 σ1 st1 vs Q (p1.imp fun _ => repL_em r2' t1.fx) ?_
        have h' : (match gTupM gs ds st1 with
          | .ok _ st' => ∀ Hf' H' R' σ', Tr (jn Em R) Hf H (jn Em R') Hf' H' → PR ca X.K Hf' H' Em True R' σ' st' → Lk L σ σ' → Q σ' H'
          | _ => False) := h
        cases eq : gTupM gs ds st1 with
        | fail => rw [eq] at h'; exact h'
        | exc x st2 => rw [eq] at h'; exact h'
        | ok a st2 =>
          rw [eq] at h'
          exact fun Hf2 H2 R2 σ2 t2 p2 k2 => h' Hf2 H2 R2 σ2 (t1.trans t2) p2 (Lk.trans k1 k2)⟩
theorem cg_tup {es : List Expr} {k : Nat} {pos : Pos} {t : TGs} {gs : List MG} {n : Nat} (hc : X.calm = true) (h : CGs ca X L es t gs) (hl : gs.length = n)
    (hn : (assignEach es X.env).length = n := by rfl) (hst : (assignEach es X.env).findIdx? (·.1) = none := by rfl) : CG ca X L (.Tuple es k pos) (gTup X.K n t) (gT gs) :=
  ⟨pg_tup hc h.1 hn hst, fun Hf H P R σ st v d Q p hq => by
    cases d with
    | tup ds =>
      have r := p.pend
      obtain ⟨a, vs, rfl, e, r3⟩ := rep_tup p.w.ex r
      have hle : ∀ (gs : List MG) (ds : List D) (st : Sl) (a : Unit) (st1 : Sl), gTupM gs ds st = .ok a st1 → gs.length = ds.length := by
        intro gs
        induction gs with
        | nil => intro ds st a st1 e; cases ds with
          | nil => rfl
          | cons _ _ => cases e
        | cons g gs ih =>
          intro ds st a st1 e
          cases ds with
          | nil => cases e
          | cons d ds =>
            rw [gTupM] at e
            cases eg : g d st with
            | ok a' st' => rw [eg] at e; simp [ih ds st' a st1 e]
            | exc _ _ => rw [eg] at e; cases e
            | fail => rw [eg] at e; cases e
      have hq' : (match gTupM gs ds st with
        | .ok _ st' => ∀ Hf' H' R' σ', Tr (jn P R) Hf H (jn Em R') Hf' H' → PR ca X.K Hf' H' Em True R' σ' st' → Lk L σ σ' → Q σ' H'
        | _ => False) := hq
      cases eq : gTupM gs ds st with
      | fail => rw [eq] at hq'; exact hq'.elim
      | exc x st2 => rw [eq] at hq'; exact hq'.elim
      | ok u st2 =>
        rw [eq] at hq'
        refine ⟨a, vs, rfl, .inl (.inl e), ?_, h.2 ds Hf H R σ st vs Q (p.drop.imp fun _ => r3) ?_⟩
        · rw [r3.length, ← hle gs ds st u st2 eq, hl]
        · rw [eq]
          exact fun Hf2 H2 R2 σ2 t2 p2 k2 => hq' Hf2 H2 R2 σ2 (t2.more fun b q => q.elim (fun q => q.elim) .inr) p2 k2
    | _ => exact hq.elim⟩
/-- the region of a slot's own list -/
theorem PR.ownList {i : Nat} {xs : List D} (p : PR ca K Hf H Em True R σ st) (h : getS st i = some (.lst true xs)) : ∃ a vs, σ[i]? = some (some (.ref a)) ∧ R i a ∧ H a = some (.lst vs) ∧ RepL ca K Hf H (fun b => R i b ∧ b ≠ a) vs xs := by
  obtain ⟨v, e, r⟩ := p.at_ i _ h
  cases r with
  | lstO s e2 r => exact ⟨_, _, e, s, e2, r⟩
/-- a slot's own list is written: its items' region is as it was -/
theorem PR.write {i : Nat} {xs ys : List D} {a : Addr} {ws : List V} (p : PR ca K Hf H Em True R σ st) (h : getS st i = some (.lst true xs)) (hv : σ[i]? = some (some (.ref a))) (ha : R i a)
    (r : RepL ca K Hf H (fun b => R i b ∧ b ≠ a) ws ys) : PR ca K Hf (upd H a (.lst ws)) Em True R σ (st.set i (some (.lst true ys))) ∧ Tr (jn Em R) Hf H (jn Em R) Hf (upd H a (.lst ws)) := by
  have hk : ∀ b o, b ≠ a → H b = some o → upd H a (.lst ws) b = some o := fun b o n e => by rw [upd_ne n]; exact e
  have hf : Hf a = none := p.w.nf a (.inr ⟨i, ha⟩)
  refine ⟨⟨trivial, ?_, fun j d e => ?_, p.dj, fun _ _ q => q.elim, ⟨fun b o e => ?_, fun b q => ?_, p.w.nf⟩⟩, ⟨fun _ _ e => e, fun b o e n => hk b o (fun z => n (.inr ⟨i, z ▸ ha⟩)) e, fun b q => .inl q, fun _ _ e => .inl e⟩⟩
  · rw [List.length_set]; exact p.len
  · rcases set_get e with ⟨q1, q2⟩ | ⟨q1, q2⟩
    · subst q1
      cases q2
      exact ⟨_, hv, .lstO ha upd_same (r.keep (fun _ _ e => e) fun b q o e => hk b o q.2 e)⟩
    · obtain ⟨v', e2, r2⟩ := p.at_ j d q2
      exact ⟨v', e2, r2.keep (fun _ _ e => e) fun b q o e => hk b o (fun z => q1 (p.dj i j a ha (z ▸ q))) e⟩
  · have := p.w.ex b o e
    exact hk b o (fun z => by subst z; rw [hf] at e; cases e) this
  · obtain ⟨o, e⟩ := p.w.dm b q
    by_cases z : b = a
    · subst z; exact ⟨_, upd_same⟩
    · exact ⟨o, hk b o z e⟩
theorem repL_set {S T : Rg} {w : V} {e : D} : ∀ {xs : List D} {vs : List V} {S : Rg} (j : Nat), RepL ca K Hf H S vs xs → Rep ca K Hf H Em w e → RepL ca K Hf H S (vs.set j w) (xs.set j e)
  | [], _, _, _, r, _ => by
    cases r
    exact .nil
  | x :: xs, _, _, 0, .cons r1 r2 h1 h2 h3, q => .cons (S1 := Em) q r2 (fun _ z => z.elim) h2 fun _ z _ => z
  | x :: xs, _, _, j + 1, .cons r1 r2 h1 h2 h3, q => .cons r1 (repL_set (S := Em) (T := Em) j r2 q) h1 h2 h3
theorem cg_ix {o i : Expr} {i0 : Nat} {mi : ME} {pos : Pos} (ho : PE X o (tVar i0)) (hi : CE ca X i mi)
    (ha : ∀ v, assign (.Subscript
        o i pos) X.env v = (do
      let ov ← holding [v] (eval
          o X.env)
      let iv ← holding [v,
          ov] (eval i X.env)
      standAt pos
      holding [v, ov,
          iv] (setItem ov iv v)
      release [v, ov, iv] [])) : CG ca X L (.Subscript o i pos) (gSub (tVar i0) (We X i) rSetL) (gIx i0 mi) :=
  ⟨pg_sub ho (we_pe X i) set_list ha, fun Hf H P R σ st v d Q p h => by
    unfold gIx at h
    by_cases hc0 : (cold d && (getS st i0).isSome) = true
    · rw [if_pos hc0] at h
      rw [Bool.and_eq_true] at hc0
      have hc := hc0.1
      have hd : hot d = false := by unfold cold at hc; simpa using hc
      have rd := p.pend.cold (S' := Em) hd
      cases em : mi st with
      | fail => rw [em] at h; exact h.elim
      | exc x st1 => rw [em] at h; exact h.elim
      | ok k st1 =>
        rw [em] at h
        cases k with
        | int k =>
          dsimp only [Res.bind] at h
          cases eg : getS st1 i0 with
          | none => rw [eg] at h; exact h.elim
          | some d1 =>
            rw [eg] at h
            cases d1 with
            | lst ow xs =>
              cases ow with
              | false => exact h.elim
              | true =>
                dsimp only at h
                cases ej : ixN xs.length k with
                | none => rw [ej] at h; exact h.elim
                | some j =>
                  rw [ej] at h
                  dsimp only at h
                  -- the list's own value stands in its slot already
                  obtain ⟨d0, e0⟩ := Option.isSome_iff_exists.mp hc0.2
                  obtain ⟨x, hx, _⟩ := p.at_ i0 d0 e0
                  refine ⟨x, hx, hi Hf H R σ st _ p.drop ?_⟩
                  rw [em]
                  intro Hf1 H1 P1 R1 v1 t1 p1
                  obtain ⟨a, vs, e1, ra, e2, r2⟩ := p1.drop.ownList eg
                  rw [hx] at e1
                  cases e1
                  refine ⟨a, vs, k, j, rfl, rep_int p1.pend, e2, by rw [r2.length]; exact ej, ?_⟩
                  obtain ⟨p2, t2⟩ := p1.drop.write eg hx ra (repL_set (S := Em) (T := Em) j r2 (rd.keep t1.fx fun _ q => q.elim))
                  exact h Hf1 _ R1 σ (((less0 t1).trans t2).more fun b q => q.elim (fun q => q.elim) .inr) p2 Lk.refl
            | _ => exact h.elim
        | _ => exact h.elim
    · rw [if_neg hc0] at h; exact h.elim⟩

/-! ### statements -/
theorem css_nil : CSs ca X L [] sNext := fun Hf H R σ st E p h => wss_of pss_nil (h Hf H R σ (Tr.refl fun _ q => q) p Lk.refl)
theorem css_cons {s : Stmt} {ss : List Stmt} {m ms : MS} (hs : CS ca X L s m) (hr : CSs ca X L ss ms) : CSs ca X L (s :: ss) (sSeq m ms) := fun Hf H R σ st E p h => by
  refine wss_of (pss_cons (ws_ps X s) (wss_pss X ss)) ?_
  refine hs Hf H R σ st _ p ?_
  unfold sSeq at h
  cases e : m st with
  | next st1 =>
    rw [e] at h
    intro Hf1 H1 R1 σ1 t1 p1 k1
    exact hr Hf1 H1 R1 σ1 st1 E p1 (PostS.from t1 k1 h)
  | ret d st1 => rw [e] at h; exact h
  | brk st1 => rw [e] at h; exact h
  | cont st1 => rw [e] at h; exact h
  | exc x st1 => rw [e] at h; exact h
  | fail => rw [e] at h; exact h
theorem css_one {s : Stmt} {m : MS} (hs : CS ca X L s m) : CSs ca X L [s] m := fun Hf H R σ st E p h => wss_of (pss_one (ws_ps X s)) (hs Hf H R σ st E p h)
/-- an expression's answer, then a statement's end -/
theorem post_toS {r : Res D} {k : D → Sl → SR} {E : Ends} {Q : VK} (h : PostS ca X L Hf H S σ (r.toS k) E) (hk : ∀ d st Hf1 H1 P R1 v, r = .ok d st → Tr S Hf H (jn P R1) Hf1 H1 → PR ca X.K Hf1 H1 P (Rep ca X.K Hf1 H1 P v d) R1 σ st → PostS ca X L Hf1 H1 (jn P R1) σ (k d st) E → Q v H1) : Post ca X Hf H S σ r Q := by
  cases r with
  | fail => exact h
  | exc x st => exact fun Hf' H' R' cls dd t p => h Hf' H' R' σ cls dd t p Lk.refl
  | ok d st => exact fun Hf' H' P R' v t p => hk d st Hf' H' P R' v rfl t p (PostS.from t (Lk.refl) h)
theorem cs_asg {tg e : Expr} {m : ME} {t : TG} {g : MG} {pos : Pos} (he : CE ca X e m) (hg : CG ca X L tg t g) (hp : PS X (.Assign [tg] e pos) (tAsg (We X e) t)) : CS ca X L (.Assign [tg] e pos) (sAsg m g) := fun Hf H R σ st E p h => by
  refine ws_of hp (he Hf H R σ st _ p ?_)
  refine post_toS h fun d st1 Hf1 H1 P1 R1 v e1 t1 p1 h1 => ?_
  refine hg.2 Hf1 H1 P1 R1 σ st1 v d _ p1 ?_
  cases eg : g d st1 with
  | fail => rw [eg] at h1; exact h1
  | exc x st2 => rw [eg] at h1; exact h1
  | ok a st2 =>
    rw [eg] at h1
    exact fun Hf2 H2 R2 σ2 t2 p2 k2 => h1 Hf2 H2 R2 σ2 t2 p2 k2
theorem cs_expr {e : Expr} {m : ME} {pos : Pos} (he : CE ca X e m) (hs : swapsWith e none pos.line X.env = pure false := by rfl) : CS ca X L (.Expr e pos) (sExpr m) := fun Hf H R σ st E p h => by
  refine ws_of (ps_expr (we_pe X e) hs) (he Hf H R σ st _ p ?_)
  refine post_toS h fun d st1 Hf1 H1 P1 R1 v e1 t1 p1 h1 => ?_
  exact h1 Hf1 H1 R1 σ (Tr.refl fun b q => q.elim (fun q => q.elim) .inr) p1.drop Lk.refl
theorem cs_ret {e : Expr} {m : ME} {pos : Pos} (he : CE ca X e m) : CS ca X L (.Return (some e) pos) (sRet m) := fun Hf H R σ st E p h => by
  refine ws_of (ps_ret (we_pe X e)) (he Hf H R σ st _ p ?_)
  refine post_toS h fun d st1 Hf1 H1 P1 R1 v e1 t1 p1 h1 => ?_
  exact h1 Hf1 H1 P1 R1 σ v (Tr.refl fun b q => q) p1 Lk.refl
theorem cs_retN {pos : Pos} : CS ca X L (.Return none pos) sRetN := fun Hf H R σ st E p h =>
  ws_of ps_retN (h Hf H Em R σ .non (Tr.refl fun _ q => q) (p.put .non) Lk.refl)
theorem cs_pass {pos : Pos} : CS ca X L (.Pass pos) sNext := fun Hf H R σ st E p h => ws_of ps_pass (h Hf H R σ (Tr.refl fun _ q => q) p Lk.refl)
theorem cs_break {pos : Pos} : CS ca X L (.Break pos) sBrk := fun Hf H R σ st E p h => ws_of ps_break (h Hf H R σ (Tr.refl fun _ q => q) p Lk.refl)
theorem cs_continue {pos : Pos} : CS ca X L (.Continue pos) sCont := fun Hf H R σ st E p h => ws_of ps_continue (h Hf H R σ (Tr.refl fun _ q => q) p Lk.refl)
theorem cs_if {c : Expr} {a b : List Stmt} {mc : MT} {ma mb : MS} {pos : Pos} (hc : CT ca X c mc) (ha : CSs ca X L a ma) (hb : CSs ca X L b mb) : CS ca X L (.If c a b pos) (sIf mc ma mb) := fun Hf H R σ st E p h => by
  refine ws_of (ps_if (wt_pt X c) (wss_pss X a) (wss_pss X b)) (hc Hf H R σ st _ p ?_)
  unfold sIf at h
  cases e : mc st with
  | fail => rw [e] at h; exact h
  | exc x st1 => rw [e] at h; exact fun Hf' H' R' cls dd t p => h Hf' H' R' σ cls dd t p Lk.refl
  | ok k st1 =>
    rw [e] at h
    intro Hf1 H1 R1 t1 p1
    cases k with
    | true => exact ha Hf1 H1 R1 σ st1 E p1 (PostS.from t1 (Lk.refl) h)
    | false => exact hb Hf1 H1 R1 σ st1 E p1 (PostS.from t1 (Lk.refl) h)
theorem cs_aug {i : Nat} {x : Str} {op : Operator} {e : Expr} {m : ME} {f : List D → Option Out} {r : L2.R2} {tpos pos : Pos} (ho : PIp X op r) (hs : OpS ca X.K (rl2 r) f) (he : CE ca X e m) (hi : i ∉ L)
    (hp : PS X (.AugAssign (.Name x tpos) op e pos) (tAug i (We X e) r)) : CS ca X L (.AugAssign (.Name x tpos) op e pos) (sAug i f m) := fun Hf H R σ st E p h => by
  unfold sAug at h
  cases g : getS st i with
  | none => rw [g] at h; exact h.elim
  | some d0 =>
    rw [g] at h
    dsimp only at h
    by_cases hc : cold d0 = true
    · rw [if_pos hc] at h
      have hd : hot d0 = false := by unfold cold at hc; simpa using hc
      obtain ⟨x0, e0, r0⟩ := p.at_ i d0 g
      have r0' := r0.cold (S' := Em) hd
      refine ws_of hp ⟨x0, e0, he Hf H R σ st _ p ?_⟩
      refine post_toS h fun d st1 Hf1 H1 P1 R1 v e1 t1 p1 h1 => ?_
      cases ef : f [d0, d] with
      | none => rw [ef] at h1; exact h1.elim
      | some o =>
        rw [ef] at h1
        cases o with
        | val z =>
          refine hs Hf1 H1 [x0, v] [d0, d] (.val z) _ p1.w.ex (.cons (r0'.keep t1.fx fun _ q => q.elim) (.cons p1.pend .nil)) ef ?_
          intro vz rz
          have p2 := (p1.drop.put rz).store i
          exact h1 Hf1 H1 _ _ ((store_tr i).more fun b q => q.elim (fun q => q.elim) .inr) p2 (Lk.set hi)
        | newL _ => exact h1.elim
        | newT _ => exact h1.elim
    · rw [if_neg hc] at h; exact h.elim

/-! ### loops -/
/-- what an iterator yields: the data ds, from any heap onwards -/
def ItD (ca : Nat → Addr) (K : PySem.W.Frag) (J : It) (Hf : Hp) (ds : List D) : Prop := ∀ Hf' H', Ex Hf Hf' → Ex Hf' H' →
  (∀ i, i < ds.length → J.go i H') ∧ J.stop ds.length H' ∧ ∀ i d x H2, ds[i]? = some d → J.yld i H' x H2 →
    hot d = false ∧ ∃ Hf2, Ex Hf' Hf2 ∧ Ex H' H2 ∧ Ex Hf2 H2 ∧ (∀ b o, Hf2 b = some o → Hf' b = some o ∨ H' b = none) ∧ Rep ca K Hf2 H2 Em x d
def PostI (ca : Nat → Addr) (X : Cx) (Hf H : Hp) (S : Rg) (σ : L2.St) (r : Res (List D)) (Q : It → Hp → Prop) : Prop :=
  match r with
  | .ok ds st => ∀ Hf' H' R' J, Tr S Hf H (jn Em R') Hf' H' → PR ca X.K Hf' H' Em True R' σ st → ItD ca X.K J Hf' ds → Q J H'
  | .exc x st => ∀ Hf' H' R' cls dd, Tr S Hf H (jn Em R') Hf' H' → PR ca X.K Hf' H' Em (XcR ca X.K Hf' H' cls dd x) R' σ st → wX X cls dd σ H'
  | .fail => False
def CI (ca : Nat → Addr) (X : Cx) (tg iter : Expr) (wi : TI) (src : Sl → Res (List D)) : Prop := PI X tg iter wi ∧ ∀ (Hf H : Hp) (R : Nat → Rg) (σ : L2.St) (st : Sl) (Q : It → Hp → Prop), PR ca X.K Hf H Em True R σ st → PostI ca X Hf H (jn Em R) σ (src st) Q → wi σ H Q
/-- an item has come: the heap has grown by what stands -/
theorem PR.yield {Hf2 H2 : Hp} (p : PR ca K Hf H Em True R σ st) (h1 : Ex Hf Hf2) (h2 : Ex H H2) (h3 : Ex Hf2 H2) (h4 : ∀ b o, Hf2 b = some o → Hf b = some o ∨ H b = none) : PR ca K Hf2 H2 Em True R σ st ∧ Tr (jn Em R) Hf H (jn Em R) Hf2 H2 := by
  refine ⟨⟨trivial, p.len, fun i d e => ?_, p.dj, p.dp, ⟨h3, fun b q => ?_, fun b q => ?_⟩⟩, ⟨h1, fun b o e _ => h2 b o e, fun b q => .inl q, fun b o e => ?_⟩⟩
  · obtain ⟨v, e1, r⟩ := p.at_ i d e
    exact ⟨v, e1, r.keep h1 fun b _ o e => h2 b o e⟩
  · obtain ⟨o, e⟩ := p.w.dm b q
    exact ⟨o, h2 b o e⟩
  · cases e : Hf2 b with
    | none => rfl
    | some o =>
      rcases h4 b o e with z | z
      · rw [p.w.nf b q] at z; cases z
      · obtain ⟨o, e⟩ := p.w.dm b q
        rw [e] at z; cases z
  · rcases h4 b o e with z | z
    · exact .inl z
    · exact .inr (.inr z)
theorem cs_for {tg iter : Expr} {body : List Stmt} {wi : TI} {src : Sl → Res (List D)} {t : TG} {g : MG} {mb : MS} {pos : Pos} (hi : CI ca X tg iter wi src) (hg : CG ca X L tg t g) (hb : CSs ca X L body mb)
    (hp : PassesOwn (model X.prog X.w) X.A X.env X.xe) (hc : X.calm = true) (hs : ∀ x, foldedSetIterable iter X.env x = pure x := by intro _; rfl) : CS ca X L (.For tg iter body [] pos) (sFor src g mb) := fun Hf H R σ st E p h => by
  refine ws_of (ps_for hp hc hi.1 hg.1 (wss_pss X body) hs) (hi.2 Hf H R σ st _ p ?_)
  unfold sFor at h
  cases e : src st with
  | fail => rw [e] at h; exact h
  | exc x st1 => rw [e] at h; exact fun Hf' H' R' cls dd t p => h Hf' H' R' σ cls dd t p Lk.refl
  | ok ds st1 =>
    rw [e] at h
    intro Hf1 H1 R1 J t1 p1 it
    have h1 := PostS.from (σ' := σ) t1 (Lk.refl) h
    clear h
    have h2 : PostS ca X L Hf1 H1 (jn Em R1) σ (forD g mb ds st1) E := h1
    clear h1
    refine ⟨fun i m σ' H' => m = ds.length - i ∧ i ≤ ds.length ∧ ∃ Hf' R' st', Tr (jn Em R1) Hf1 H1 (jn Em R') Hf' H' ∧ PR ca X.K Hf' H' Em True R' σ' st' ∧ Lk L σ σ' ∧ forD g mb (ds.drop i) st' = forD g mb ds st1,
      ⟨ds.length, by simp, Nat.zero_le _, Hf1, R1, st1, Tr.refl fun _ q => q, p1, Lk.refl, rfl⟩, ?_⟩
    rintro i m σ' H' ⟨rfl, hi', Hf', R', st', t', p', k', ef⟩
    obtain ⟨g1, g2, g3⟩ := it Hf' H' t'.fx p'.w.ex
    by_cases hlt : i < ds.length
    · refine .inr ⟨g1 i hlt, fun σ2 H2 => i + 1 ≤ ds.length ∧ ∃ Hf2 R2 st2, Tr (jn Em R1) Hf1 H1 (jn Em R2) Hf2 H2 ∧ PR ca X.K Hf2 H2 Em True R2 σ2 st2 ∧ Lk L σ σ2 ∧ forD g mb (ds.drop (i + 1)) st2 = forD g mb ds st1,
        fun σ2 H2 ⟨q1, q2⟩ => ⟨ds.length - (i + 1), by omega, rfl, q1, q2⟩, fun x H2 hy => ?_⟩
      obtain ⟨d, ed⟩ : ∃ d, ds[i]? = some d := ⟨ds[i], by simp [hlt]⟩
      obtain ⟨hd, Hf2, x1, x2, x3, x4, rx⟩ := g3 i d x H2 ed hy
      obtain ⟨p2, t2⟩ := p'.yield x1 x2 x3 x4
      have edr : ds.drop i = d :: ds.drop (i + 1) := by
        rw [List.drop_eq_getElem_cons
            hlt]
        simp only [List.getElem?_eq_getElem hlt, Option.some.injEq] at ed
        rw [ed]
      rw [edr, forD] at ef
      have h3 : PostS ca X L Hf2 H2 (jn Em R') σ' ((g d st').toN fun st1 => match mb st1 with
        | .next st2 => forD g mb (ds.drop (i + 1)) st2
        | .cont st2 => forD g mb (ds.drop (i + 1)) st2
        | .brk st2 => .next st2
        | r => r) E := by
        refine PostS.from (t'.trans t2) k' ?_
        have := h2
        rw [← ef] at this
        exact this
      refine hg.2 Hf2 H2 Em R' σ' st' x d _ (p2.put rx) ?_
      cases eg : g d st' with
      | fail => rw [eg] at h3; exact h3
      | exc x st2 => rw [eg] at h3; exact h3
      | ok a st2 =>
        rw [eg] at h3 ef
        intro Hf3 H3 R3 σ3 t3 p3 k3
        have h4 := PostS.from t3 k3 h3
        clear h3
        refine hb Hf3 H3 R3 σ3 st2 _ p3 ?_
        dsimp only [Res.toN] at h4 ef
        cases eb : mb st2 with
        | next st4 =>
          rw [eb] at ef
          exact fun Hf4 H4 R4 σ4 t4 p4 k4 => ⟨by omega, Hf4, R4, st4, ((t'.trans t2).trans t3).trans t4, p4, Lk.trans k' (Lk.trans k3 k4), ef⟩
        | cont st4 =>
          rw [eb] at ef
          exact fun Hf4 H4 R4 σ4 t4 p4 k4 => ⟨by omega, Hf4, R4, st4, ((t'.trans t2).trans t3).trans t4, p4, Lk.trans k' (Lk.trans k3 k4), ef⟩
        | brk st4 =>
          rw [eb] at h4
          exact h4
        | ret d st4 => rw [eb] at h4; exact h4
        | exc x st4 => rw [eb] at h4; exact h4
        | fail => rw [eb] at h4; exact h4
    · have e1 : i = ds.length := by omega
      subst e1
      refine .inl ⟨g2, ?_⟩
      rw [List.drop_length, forD] at ef
      rw [← ef] at h2
      exact h2 Hf' H' R' σ' t' p' k'
theorem cs_while {c : Expr} {body : List Stmt} {mc : MT} {mb : MS} {pos : Pos} (n : Nat) (hc : CT ca X c mc) (hb : CSs ca X L body mb)
    (hp : PassesOwn (model X.prog X.w) X.A X.env X.xe) : CS ca X L (.While c body [] pos) (whileD mc mb n) := fun Hf H R σ st E p h => by
  refine ws_of (ps_while hp (wt_pt X c) (wss_pss X body)) ?_
  refine ⟨fun m σ' H' => ∃ Hf' R' st', Tr (jn Em R) Hf H (jn Em R') Hf' H' ∧ PR ca X.K Hf' H' Em True R' σ' st' ∧ Lk L σ σ' ∧ whileD mc mb m st' = whileD mc mb n st,
    ⟨n, Hf, R, st, Tr.refl fun _ q => q, p, Lk.refl, rfl⟩, ?_⟩
  rintro m σ' H' ⟨Hf', R', st', t', p', k', ew⟩
  have h1 : PostS ca X L Hf' H' (jn Em R') σ' (whileD mc mb m st') E := by
    rw [ew]; exact PostS.from t' k' h
  cases m with
  | zero => exact h1.elim
  | succ m =>
    refine hc Hf' H' R' σ' st' _ p' ?_
    rw [whileD] at h1 ew
    cases ec : mc st' with
    | fail => rw [ec] at h1; exact h1
    | exc x st2 => rw [ec] at h1; exact fun Hf2 H2 R2 cls dd t p => h1 Hf2 H2 R2 σ' cls dd t p Lk.refl
    | ok k st2 =>
      rw [ec] at h1 ew
      dsimp only [Res.toS] at h1 ew
      intro Hf2 H2 R2 t2 p2
      have h2 := PostS.from (σ' := σ') t2 (Lk.refl) h1
      cases k with
      | false => exact h2 Hf2 H2 R2 σ' (Tr.refl fun _ q => q) p2 Lk.refl
      | true =>
        rw [if_pos rfl] at h2 ew
        refine ⟨fun σ3 H3 => ∃ Hf3 R3 st3, Tr (jn Em R) Hf H (jn Em R3) Hf3 H3 ∧ PR ca X.K Hf3 H3 Em True R3 σ3 st3 ∧ Lk L σ σ3 ∧ whileD mc mb m st3 = whileD mc mb n st, fun σ3 H3 q => ⟨m, Nat.lt_succ_self m, q⟩, ?_⟩
        refine hb Hf2 H2 R2 σ' st2 _ p2 ?_
        cases eb : mb st2 with
        | next st4 =>
          rw [eb] at ew
          exact fun Hf4 H4 R4 σ4 t4 p4 k4 => ⟨Hf4, R4, st4, (t'.trans t2).trans t4, p4, Lk.trans k' k4, ew⟩
        | cont st4 =>
          rw [eb] at ew
          exact fun Hf4 H4 R4 σ4 t4 p4 k4 => ⟨Hf4, R4, st4, (t'.trans t2).trans t4, p4, Lk.trans k' k4, ew⟩
        | brk st4 => rw [eb] at h2; exact h2
        | ret d st4 => rw [eb] at h2; exact h2
        | exc x st4 => rw [eb] at h2; exact h2
        | fail => rw [eb] at h2; exact h2
end
end DL

/-! DL7: argument lists, displays, defs and their calls. -/
namespace DL
open PySem L2 PyProof.Rows

/-- arguments whose values are handed over -/
def CL (ca : Nat → Addr) (X : Cx) (es : List Expr) (m : MA) : Prop := ∀ (Hf H : Hp) (R : Nat → Rg) (σ : L2.St) (st : Sl) (Q : List V → Hp → Prop), PR ca X.K Hf H Em True R σ st → PostL ca X Hf H (jn Em R) σ (m st) Q → WL X es σ H Q

section
variable {ca : Nat → Addr} {K : PySem.W.Frag} {Hf H Hf1 H1 Hf2 H2 : Hp} {S S1 S2 P P1 P2 : Rg} {R R1 R2 : Nat → Rg} {pp qq : Prop} {σ σ' : L2.St} {st st' : Sl} {v : V} {d : D} {vs : List V} {ds : List D} {X : Cx} {L : List Nat}

/-- a pending thing beside a step of the slots alone -/
theorem PR.carry {ppf : Hp → Hp → Prop} (p1 : PR ca K Hf1 H1 P1 pp R1 σ st) (t2 : Tr (jn Em R1) Hf1 H1 (jn P2 R2) Hf2 H2) (p2 : PR ca K Hf2 H2 P2 qq R2 σ' st') :
    (∀ b, P1 b → ∀ o, H1 b = some o → H2 b = some o) ∧ (∀ b, P1 b → P2 b → False) ∧ (∀ i b, P1 b → R2 i b → False) ∧ Wl Hf2 H2 (jn (fun b => P1 b ∨ P2 b) R2) ∧ Tr (jn P1 R1) Hf1 H1 (jn (fun b => P1 b ∨ P2 b) R2) Hf2 H2 := by
  have wP : Wl Hf1 H1 P1 := p1.w.mono fun b q => .inl q
  have bs := t2.beside wP fun b q1 q2 => q2.elim (fun q => q.elim) fun ⟨i, q⟩ => p1.dp i b q1 q
  refine ⟨bs.1, fun b q1 q2 => bs.2.1 b q1 (.inl q2), fun i b q1 q2 => bs.2.1 b q1 (.inr ⟨i, q2⟩), ⟨p2.w.ex, fun b q => ?_, fun b q => ?_⟩, ?_⟩
  · rcases q with (q | q) | q
    · exact (bs.2.2 b q).1
    · exact p2.w.dm b (.inl q)
    · exact p2.w.dm b (.inr q)
  · rcases q with (q | q) | q
    · exact (bs.2.2 b q).2
    · exact p2.w.nf b (.inl q)
    · exact p2.w.nf b (.inr q)
  · refine ((t2.with P1).more fun b q => ?_).less fun b q => ?_
    · rcases q with q | q
      · exact .inl q
      · exact q.elim (fun q => q.elim) .inr
    · rcases q with (q | q) | q
      · exact .inl q
      · exact .inr (.inl q)
      · exact .inr (.inr q)

theorem cl_nil : CL ca X [] aNil := fun Hf H R σ st Q p h => h Hf H Em R [] (Tr.refl fun _ q => q) (p.toP (fun _ q => q) .nil)
theorem cl_cons {e : Expr} {es : List Expr} {m : ME} {ms : MA} (he : CE ca X e m) (hr : CL ca X es ms) : CL ca X (e :: es) (aCons m ms) := fun Hf H R σ st Q p h => by
  refine he Hf H R σ st _ p ?_
  unfold aCons at h
  cases e1 : m st with
  | fail => rw [e1] at h; exact h
  | exc x st1 => rw [e1] at h; exact h
  | ok d st1 =>
    rw [e1] at h
    intro Hf1 H1 P1 R1 v t1 p1
    have h1 := PostL.from (less0 t1) h
    refine hr Hf1 H1 R1 σ st1 _ p1.drop ?_
    dsimp only [Res.bind] at h1
    cases e2 : ms st1 with
    | fail => rw [e2] at h1; exact h1
    | exc x st2 => rw [e2] at h1; exact h1
    | ok ds st2 =>
      rw [e2] at h1
      intro Hf2 H2 P2 R2 vs t2 p2
      obtain ⟨c1, c2, c3, c4, c5⟩ := PR.carry (ppf := fun _ _ => True) p1 t2 p2
      have hh : PostL ca X Hf H (jn Em R) σ (.ok (d :: ds) st2) Q := by
        have h2 := h
        dsimp only [Res.bind] at h2
        rw [e2] at h2
        exact h2
      exact hh Hf2 H2 (fun b => P1 b ∨ P2 b) R2 (v :: vs) (t1.trans c5) ⟨.cons (p1.pend.keep t2.fx c1) p2.pend (fun _ q => .inl q) (fun _ q => .inr q) c2, p2.len, p2.at_, p2.dj, fun i b q1 q2 => q1.elim (fun q => c3 i b q q2) fun q => p2.dp i b q q2, c4⟩
theorem wl_app : ∀ {es fs : List Expr} {σ : L2.St} {H : Hp} {Q : List V → Hp → Prop}, WL X es σ H (fun xs H1 => WL X fs σ H1 fun ys H2 => Q (xs ++ ys) H2) → WL X (es ++ fs) σ H Q
  | [], _, _, _, _, h => h
  | e :: es, fs, σ, H, Q, h => fun pins s I => thn (h pins s I) fun u s1 ⟨v, H1, I1, r1, q1⟩ => ⟨v, H1, I1, r1, wl_app (es := es) q1⟩
/-- displays -/
theorem ce_lst {es : List Expr} {ms : MA} {pos : Pos} (h : CL ca X es ms) (hst : NoStar es) : CE ca X (.List es pos) (eLst ms) := fun Hf H R σ st Q p hq => by
  refine we_of (pe_lst (wa_pa X es)) (wa_wl (fun e' r' q => noStar_suf hst e' r' q _) (h Hf H R σ st _ p ?_))
  unfold eLst at hq
  cases e : ms st with
  | fail => rw [e] at hq; exact hq
  | exc x st1 => rw [e] at hq; exact hq
  | ok ds st1 =>
    rw [e] at hq
    intro Hf1 H1 P1 R1 vs t1 p1
    by_cases hl : ds.length ≤ 16777216
    · dsimp only [Res.bind] at hq
      rw [if_pos hl] at hq
      refine ⟨by rw [p1.pend.length, ← sz_eq]; exact hl, fun a ha => ?_⟩
      have hne : ∀ b, jn P1 R1 b → b ≠ a := fun b q z => by
        subst z
        obtain ⟨o, e⟩ := p1.w.dm b q
        rw [ha] at e; cases e
      obtain ⟨w1, w2⟩ := wl_new (o := .lst vs) p1.w ha
      refine hq Hf1 (upd H1 a (.lst vs)) (fun b => P1 b ∨ b = a) R1 (.ref a) (t1.trans ⟨fun _ _ e => e, fun b o e _ => upd_keep ha b o e, fun b q => ?_, fun _ _ e => .inl e⟩) ⟨.lstO (.inr rfl) upd_same ((p1.pend.keep (fun _ _ e => e) fun b _ o e => upd_keep ha b o e).mono fun b q => ⟨.inl q, hne b (.inl q)⟩), p1.len, fun i d e => ?_, p1.dj, fun i b q1 q2 => ?_, ⟨w1.ex, fun b q => ?_, fun b q => ?_⟩⟩
      · rcases q with (q | q) | q
        · exact .inl (.inl q)
        · subst q; exact .inr ha
        · exact .inl (.inr q)
      · obtain ⟨v, e1, r⟩ := p1.at_ i d e
        exact ⟨v, e1, r.keep (fun _ _ e => e) fun b _ o e => upd_keep ha b o e⟩
      · rcases q1 with q1 | q1
        · exact p1.dp i b q1 q2
        · exact hne b (.inr ⟨i, q2⟩) q1
      · rcases q with (q | q) | q
        · exact w1.dm b (.inl q)
        · subst q; exact ⟨_, upd_same⟩
        · exact w1.dm b (.inr q)
      · rcases q with (q | q) | q
        · exact w1.nf b (.inl q)
        · subst q; exact w2
        · exact w1.nf b (.inr q)
    · dsimp only [Res.bind] at hq
      rw [if_neg hl] at hq; exact hq.elim
/-- a pending thing is let stand -/
theorem PR.standP (p : PR ca K Hf H P pp R σ st) : ∃ Hf', Ex Hf Hf' ∧ (∀ b, P b → ∀ o, H b = some o → Hf' b = some o) ∧ PR ca K Hf' H Em True R σ st ∧ Tr (jn P R) Hf H (jn Em R) Hf' H := by
  let Hf' : Hp := fun b => if Classical.propDecidable (P b) |>.decide then H b else Hf b
  have hy : ∀ b, P b → Hf' b = H b := fun b q => by
    show (if _ then _ else _) = _
    rw [if_pos (by simpa using q)]
  have hno : ∀ b, ¬ P b → Hf' b = Hf b := fun b q => by
    show (if _ then _ else _) = _
    rw [if_neg (by simpa using q)]
  have hx : Ex Hf Hf' := fun b o e => by
    by_cases q : P b
    · rw [hy b q]; exact p.w.ex b o e
    · rw [hno b q]; exact e
  refine ⟨Hf', hx, fun b q o e => by rw [hy b q]; exact e, ⟨trivial, p.len, fun i d e => ?_, p.dj, fun _ _ q => q.elim, ⟨fun b o e => ?_, fun b q => ?_, fun b q => ?_⟩⟩, ⟨hx, fun _ _ e _ => e, fun b q => .inl (.inr (q.elim (fun q => q.elim) id)), fun b o e => ?_⟩⟩
  · obtain ⟨v, e1, r⟩ := p.at_ i d e
    exact ⟨v, e1, r.keep hx fun _ _ _ e => e⟩
  · by_cases z : P b
    · rw [hy b z] at e; exact e
    · rw [hno b z] at e; exact p.w.ex b o e
  · exact p.w.dm b (.inr (q.elim (fun q => q.elim) id))
  · obtain ⟨i, q⟩ := q.elim (fun q : Em b => q.elim) id
    rw [hno b fun z => p.dp i b z q]; exact p.w.nf b (.inr ⟨i, q⟩)
  · by_cases z : P b
    · exact .inr (.inl (.inl z))
    · rw [hno b z] at e; exact .inl e
theorem ce_tup {es : List Expr} {ms : MA} {k : Nat} {pos : Pos} (h : CL ca X es ms) (hst : NoStar es) : CE ca X (.Tuple es k pos) (eTup ms) := fun Hf H R σ st Q p hq => by
  refine we_of (pe_tup (wa_pa X es)) (wa_wl (fun e' r' q => noStar_suf hst e' r' q _) (h Hf H R σ st _ p ?_))
  unfold eTup at hq
  cases e : ms st with
  | fail => rw [e] at hq; exact hq
  | exc x st1 => rw [e] at hq; exact hq
  | ok ds st1 =>
    rw [e] at hq
    intro Hf1 H1 P1 R1 vs t1 p1
    by_cases hl : ds.length ≤ 16777216
    · dsimp only [Res.bind] at hq
      rw [if_pos hl] at hq
      refine ⟨by rw [p1.pend.length, ← sz_eq]; exact hl, fun a ha => ?_⟩
      obtain ⟨Hf2, x1, x2, p2, t2⟩ := p1.standP
      exact post_newT p2 (Post.from (t1.trans t2) hq) (fun b q => .inr q) ha (p1.pend.frz x1 x2)
    · dsimp only [Res.bind] at hq
      rw [if_neg hl] at hq; exact hq.elim

/-! ### a def's promise by its pure meaning -/
def PostC (ca : Nat → Addr) (K : PySem.W.Frag) (Hf H : Hp) (P : Rg) (vs : List V) (r : CR) (Q : VK) (E : XK) : Prop :=
  match r with
  | .ok d ps => ∀ Hf' H' P' Rp v, Tr P Hf H (jn P' Rp) Hf' H' → PR ca K Hf' H' P' (Rep ca K Hf' H' P' v d) Rp (vs.map some) ps → Q v H'
  | .exc x ps => ∀ Hf' H' Rp cls dd, Tr P Hf H (jn Em Rp) Hf' H' → PR ca K Hf' H' Em (XcR ca K Hf' H' cls dd x) Rp (vs.map some) ps → E cls dd H'
  | .fail => False
def spM (ca : Nat → Addr) (K : PySem.W.Frag) (m : MF) : Sp := fun vs H Q E => ∃ Hf P ds, RepL ca K Hf H P vs ds ∧ Wl Hf H P ∧ PostC ca K Hf H P vs (m ds) Q E

theorem getS_keepL {n : Nat} {i : Nat} (h : getS (keepL L n st) i = some d) : i < n ∧ i ∈ L ∧ getS st i = some d := by
  unfold keepL at h
  have e : getS ((List.range n).map fun j => if j ∈ L then getS st j else none) i = (if i < n then (if i ∈ L then getS st i else none) else none) := by
    unfold getS
    rw [List.getElem?_map]
    by_cases hi : i < n
    · rw [List.getElem?_range hi, if_pos hi]; rfl
    · rw [List.getElem?_eq_none (by simp; omega), if_neg hi]; rfl
  rw [e] at h
  by_cases hi : i < n
  · rw [if_pos hi] at h
    by_cases hl : i ∈ L
    · rw [if_pos hl] at h; exact ⟨hi, hl, h⟩
    · rw [if_neg hl] at h; cases h
  · rw [if_neg hi] at h; cases h
/-- a list's regions, one by one -/
theorem repL_split : ∀ {vs : List V} {ds : List D} {S : Rg}, RepL ca K Hf H S vs ds → ∃ R : Nat → Rg, (∀ i d, ds[i]? = some d → ∃ v, vs[i]? = some v ∧ Rep ca K Hf H (R i) v d) ∧ (∀ i j b, R i b → R j b → i = j) ∧ ∀ i b, R i b → S b
  | _, _, _, .nil => ⟨fun _ => Em, fun i d h => by simp at h, fun _ _ _ q => q.elim, fun _ _ q => q.elim⟩
  | _, _, _, .cons (S1 := S1) r1 r2 h1 h2 h3 => by
    obtain ⟨R, a, b, c⟩ := repL_split r2
    refine ⟨fun i => match i with | 0 => S1 | i + 1 => R i, fun i d e => ?_, fun i j x q1 q2 => ?_, fun i x q => ?_⟩
    · cases i with
      | zero => simp at e; subst e; exact ⟨_, rfl, r1⟩
      | succ i => obtain ⟨v, e1, r⟩ := a i d (by simpa using e); exact ⟨v, by simpa using e1, r⟩
    · cases i <;> cases j
      · rfl
      · exact (h3 x q1 (c _ _ q2)).elim
      · exact (h3 x q2 (c _ _ q1)).elim
      · rw [b _ _ x q1 q2]
    · cases i with
      | zero => exact h1 x q
      | succ i => exact h2 x (c i x q)
/-- the parameters as they are handed back -/
theorem PR.params {n : Nat} (p : PR ca K Hf H P pp R σ' st) (hv : vs.length = n) (hk : ∀ i ∈ L, i < n → σ'[i]? = some (vs[i]?)) (q : qq) {P' : Rg} (hP : ∀ b, P' b → P b) : PR ca K Hf H P' qq (fun i b => i ∈ L ∧ i < n ∧ R i b) (vs.map some) (keepL L n st) where
  pend := q
  len := by simp [keepL, hv]
  at_ := fun i d e => by
    obtain ⟨h1, h2, h3⟩ := getS_keepL e
    obtain ⟨v, e1, r⟩ := p.at_ i d h3
    have := hk i h2 h1
    rw [e1] at this
    have e2 : some v = vs[i]? := Option.some.inj this
    refine ⟨v, ?_, r.mono fun b q => ⟨h2, h1, q⟩⟩
    rw [List.getElem?_map, ← e2]; rfl
  dj := fun i j b q1 q2 => p.dj i j b q1.2.2 q2.2.2
  dp := fun i b q1 q2 => p.dp i b (hP b q1) q2.2.2
  w := p.w.mono fun b q => q.elim (fun q => .inl (hP b q)) fun ⟨i, q⟩ => .inr ⟨i, q.2.2⟩
theorem start_at {N : List Str} {i : Nat} (h : i < vs.length) : (L2.start N vs)[i]? = some (vs[i]?) := by
  unfold L2.start
  rw [List.getElem?_append_left (by simpa using h), List.getElem?_map]
  rw [List.getElem?_eq_getElem h]; rfl
end

section
variable {ca : Nat → Addr} {P : Program} {w : World} {K : PySem.W.Frag} {mg : Str → Option Value} {base : Heap} {L : List Nat}
theorem spM_len {n w : Nat} {mb : MS} {vs : List V} {H : Hp} {Q : VK} {E : XK} (h : spM ca K (fn n w L mb) vs H Q E) : vs.length = n := by
  obtain ⟨Hf, Pg, ds, r, w1, post⟩ := h
  rw [r.length]
  unfold fn at post
  by_cases e : ds.length = n
  · exact e
  · rw [if_neg e] at post; exact post.elim
/-- THE RULE for a def: its body's meaning -/
theorem fn_ok {x qual : Str} {st : Stmt} {f : Addr} {fd : FuncData} {N ps : List Str} {k n : Nat} {mb : MS} (F : Fun K x qual st f fd) (S : FnScope N ps (defScope st)) (hn : ps.length = n)
    (hb : ∀ (cdv : Value) (A : Around) (outer : List Env) (s : Shared) (H : Hp) (E : XK), Room k (A.deeper (envOfC qual (defScope st) s.heap.objs.size f cdv)) →
      CSs ca (cxOf (L2.CX P w) P w K mg base N qual (defScope st) f cdv A outer s H E) L (defBody st) mb) : FnOk P w K mg base (L2.CX P w) (k + 1) f fd ps (spM ca K (fn n N.length L mb)) := by
  refine F.okX S (fun vs H Q E h => (spM_len h).trans hn.symm) fun cdv A outer s H vs Q E hr h => ⟨_, wss_pss _ _, ?_⟩
  have hl := spM_len h
  obtain ⟨Hf, Pg, ds, r, w1, post⟩ := h
  have hds : ds.length = n := by rw [← r.length]; exact hl
  obtain ⟨R, a, b, c⟩ := repL_split r
  have hvn : vs.length ≤ N.length := by
    have := congrArg List.length S.pre
    rw [List.length_take] at this
    omega
  have p0 : PR ca K Hf H Em True R (L2.start N vs) (ds.map some ++ List.replicate (N.length - n) none) := by
    refine ⟨trivial, ?_, fun i d e => ?_, b, fun _ _ q => q.elim, ?_⟩
    · unfold L2.start; simp [hds, hl]
    · have hi : i < ds.length := by
        by_cases hi : i < ds.length
        · exact hi
        · exfalso
          unfold getS at e
          rw [List.getElem?_append_right (by simp; omega), List.getElem?_replicate] at e
          split at e <;> cases e
      have e1 : ds[i]? = some d := by
        unfold getS at e
        rw [List.getElem?_append_left (by simpa using hi), List.getElem?_map, List.getElem?_eq_getElem hi] at e
        rw [List.getElem?_eq_getElem hi]
        exact e
      obtain ⟨v, e2, r2⟩ := a i d e1
      refine ⟨v, ?_, r2⟩
      rw [start_at (by rw [r.length]; exact hi), e2]
    · exact w1.mono fun b q => q.elim (fun q => q.elim) fun ⟨i, q⟩ => c i b q
  refine hb cdv A outer s H E hr Hf H R (L2.start N vs) _ _ p0 ?_
  unfold fn at post
  rw [if_pos hds] at post
  have hkk : ∀ σ' : L2.St, Lk L (L2.start N vs) σ' → ∀ i ∈ L, i < n → σ'[i]? = some (vs[i]?) := fun σ' k i hi hn' => by
    rw [k.2 i hi]; exact start_at (by omega)
  have hS : ∀ b, jn Em R b → Pg b := fun b q => q.elim (fun q => q.elim) fun ⟨i, q⟩ => c i b q
  have hR : ∀ {P' : Rg} {R' : Nat → Rg} (b : Addr), jn P' (fun i b => i ∈ L ∧ i < n ∧ R' i b) b → jn P' R' b := fun b q => q.elim .inl fun ⟨i, q⟩ => .inr ⟨i, q.2.2⟩
  cases em : mb (ds.map some ++ List.replicate (N.length - n) none) with
  | fail => rw [em] at post; exact post.elim
  | brk st1 => rw [em] at post; exact post.elim
  | cont st1 => rw [em] at post; exact post.elim
  | next st1 =>
    rw [em] at post
    intro Hf1 H1 R1 σ1 t1 p1 k1
    exact post Hf1 H1 Em _ .non ((t1.more hS).less hR) (p1.params hl (hkk σ1 k1) .non fun _ q => q)
  | ret d st1 =>
    rw [em] at post
    intro Hf1 H1 P1 R1 σ1 v t1 p1 k1
    exact post Hf1 H1 P1 _ v ((t1.more hS).less hR) (p1.params hl (hkk σ1 k1) p1.pend fun _ q => q)
  | exc x st1 =>
    rw [em] at post
    intro Hf1 H1 R1 σ1 cls dd t1 p1 k1
    exact wX_of (takes_of rfl rfl rfl rfl) (post Hf1 H1 _ cls dd ((t1.more hS).less hR) (p1.params hl (hkk σ1 k1) p1.pend fun _ q => q))
end

section
variable {ca : Nat → Addr} {Hf H Hf1 H1 Hf2 H2 : Hp} {S P : Rg} {R R1 R2 : Nat → Rg} {σ : L2.St} {st : Sl} {v : V} {d : D} {vs : List V} {ds : List D} {X : Cx} {L : List Nat}
/-- what a callee hands back, for a caller that lends nothing -/
theorem postC_of {m : MF} {Q : VK} (p : PR ca X.K Hf H P (RepL ca X.K Hf H P vs ds) R σ st) (h : Post ca X Hf H (jn P R) σ (match m ds with | .ok d _ => .ok d st | .exc x _ => .exc x st | .fail => .fail) Q) :
    PostC ca X.K Hf H P vs (m ds) Q (fun cls dd H' => wX X cls dd σ H') := by
  have wR : Wl Hf H (tot R) := p.w.mono fun b q => .inr q
  have old : ∀ {Hf' H' : Hp} {S' P' : Rg} {pp : Prop}, Tr P Hf H S' Hf' H' → Wl Hf' H' S' → (∀ b, P' b → S' b) → pp → PR ca X.K Hf' H' P' pp R σ st ∧ Tr (jn P R) Hf H (jn P' R) Hf' H' := fun {Hf' H' S' P' pp} t w hP q => by
    have bs := t.beside wR fun b q1 q2 => by obtain ⟨i, q1⟩ := q1; exact p.dp i b q2 q1
    refine ⟨⟨q, p.len, fun i d e => ?_, p.dj, fun i b q1 q2 => bs.2.1 b ⟨i, q2⟩ (hP b q1), ⟨w.ex, fun b q => ?_, fun b q => ?_⟩⟩, ?_⟩
    · obtain ⟨v, e1, r⟩ := p.at_ i d e
      exact ⟨v, e1, r.keep t.fx fun b q o e => bs.1 b ⟨i, q⟩ o e⟩
    · rcases q with q | q
      · exact w.dm b (hP b q)
      · exact (bs.2.2 b q).1
    · rcases q with q | q
      · exact w.nf b (hP b q)
      · exact (bs.2.2 b q).2
    · refine ((t.with (tot R)).more fun b q => ?_).less fun b q => ?_
      · exact q.elim .inr .inl
      · exact q.elim (fun q => .inr (hP b q)) .inl
  cases em : m ds with
  | fail => rw [em] at h; exact h
  | ok d ps =>
    rw [em] at h
    intro Hf' H' P' Rp v t q
    obtain ⟨p2, t2⟩ := old (P' := P') t (q.w) (fun b z => .inl z) q.pend
    exact h Hf' H' P' R v t2 p2
  | exc x ps =>
    rw [em] at h
    intro Hf' H' Rp cls dd t q
    obtain ⟨p2, t2⟩ := old (P' := Em) t (q.w) (fun b z => z.elim) q.pend
    exact h Hf' H' R cls dd t2 p2
theorem ce_callD {k : Nat} {f : Addr} {fd : FuncData} {ps : List Str} {x : Str} {p pos : Pos} {e : Expr} {es : List Expr} {m : MF} {ms : MA} (F : FnOk X.prog X.w X.K X.mg X.base (L2.CX X.prog X.w) k f fd ps (spM ca X.K m)) (hr : Room k X.A) (hg : Gl X x) (hm : X.mg x = some (.ref f))
    (hk : PySem.W.keepIn X.K (.ref f) = true) (hb : Binds X.K fd ps []) (ha : CL ca X (e :: es) ms) (hst : NoStar (e :: es)) (hdb : (x == ("__debug__" : Str)) = false := by decide) (hpl : (backTo pos (starEach es X.env)).any (·.1) = false := by rfl) :
    CE ca X (.Call (.Name x p) (e :: es) [] pos) (eCall m ms) := fun Hf H R σ st Q pr h => by
  refine we_of (pe_callS F hr hg hm hk hb (E := fun σ cls dd H' => wX X cls dd σ H') (fun σ => passAt (takes_wX X) σ) (wa_pa X (e :: es)) hdb (hst.1 _) hpl) (wa_wl (fun e' r' q => noStar_suf hst e' r' q _) (ha Hf H R σ st _ pr ?_))
  unfold eCall at h
  cases e1 : ms st with
  | fail => rw [e1] at h; exact h
  | exc x st1 => rw [e1] at h; exact h
  | ok ds st1 =>
    rw [e1] at h
    intro Hf1 H1 P1 R1 vs t1 p1
    exact ⟨Hf1, P1, ds, p1.pend, p1.w.mono fun b q => .inl q, postC_of p1 (Post.from t1 h)⟩
end
end DL

/-! DL8: a call with a slot lent; what is walked; list comprehensions; methods of lists. -/
namespace DL
open PySem L2 PyProof.Rows

def iR1 (m : ME) : Sl → Res (List D) := fun st => (m st).bind fun d st1 => match d with
  | .int j => if small62 j then .ok (rangeD 0 j.toNat) st1 else .fail
  | _ => .fail
def iR2 (a b : ME) : Sl → Res (List D) := fun st => (a st).bind fun d st1 => (b st1).bind fun e st2 => match d, e with
  | .int i, .int j => if small62 i && small62 j then .ok (rangeD i (j - i).toNat) st2 else .fail
  | _, _ => .fail
def iRD (a b : ME) : Sl → Res (List D) := fun st => (a st).bind fun d st1 => (b st1).bind fun e st2 => match d, e with
  | .int i, .int j => if small62 i && small62 j then .ok (rangeC i (-1) (i - j).toNat) st2 else .fail
  | _, _ => .fail
section
variable {ca : Nat → Addr} {K : PySem.W.Frag} {Hf H Hf1 H1 Hf2 H2 : Hp} {S S1 S2 P P1 P2 : Rg} {R R1 R2 : Nat → Rg} {pp qq : Prop} {σ σ' : L2.St} {st st' : Sl} {v : V} {d : D} {vs : List V} {ds : List D} {X : Cx} {L : List Nat}

/-- what goes to a call -/
theorem repL_app' {P : Rg} (r : RepL ca K Hf H S1 vs ds) {ws : List V} {es : List D} (r2 : RepL ca K Hf H S2 ws es) (h1 : ∀ b, S1 b → P b) (h2 : ∀ b, S2 b → P b) (h3 : ∀ b, S1 b → S2 b → False) : RepL ca K Hf H P (vs ++ ws) (ds ++ es) := by
  induction ds generalizing vs S1 P with
  | nil => cases r; exact r2.mono h2
  | cons d ds ih =>
    cases r with
    | cons q1 q2 k1 k2 k3 =>
      rename_i T1 T2 v vs
      refine .cons (S2 := fun b => T2 b ∨ S2 b) q1 (ih q2 (fun b q => .inl q) (fun b q => .inr q) fun b x y => h3 b (k2 b x) y) (fun b q => h1 b (k1 b q)) (fun b q => q.elim (fun q => h1 b (k2 b q)) (h2 b)) fun b x y => ?_
      rcases y with y | y
      · exact k3 b x y
      · exact h3 b (k1 b x) y
/-- what a callee hands back, one slot lent: place j among the arguments -/
theorem postC_lent {m : MF} {Q : VK} {i j : Nat} {a : V} (p : PR ca X.K Hf H P (RepL ca X.K Hf H P vs ds) R σ st) (hv : vs[j]? = some a) (hs : σ[i]? = some (some a)) (hi : getS st i = none) (hil : i < st.length)
    (h : Post ca X Hf H (jn P R) σ (match m ds with | .ok d ps => .ok d (st.set i (getS ps j)) | .exc x ps => .exc x (st.set i (getS ps j)) | .fail => .fail) Q) :
    PostC ca X.K Hf H P vs (m ds) Q (fun cls dd H' => wX X cls dd σ H') := by
  have wR : Wl Hf H (tot R) := p.w.mono fun b q => .inr q
  have old : ∀ {Hf' H' : Hp} {P' : Rg} {Rp : Nat → Rg} {ps : Sl} {pp : Prop}, Tr P Hf H (jn P' Rp) Hf' H' → PR ca X.K Hf' H' P' pp Rp (vs.map some) ps → PR ca X.K Hf' H' P' pp (fun k b => if k = i then Rp j b else R k b) σ (st.set i (getS ps j)) ∧ Tr (jn P R) Hf H (jn P' fun k b => if k = i then Rp j b else R k b) Hf' H' := fun {Hf' H' P' Rp ps pp} t w => by
    have bs := t.beside wR fun b q1 q2 => by obtain ⟨i, q1⟩ := q1; exact p.dp i b q2 q1
    refine ⟨⟨w.pend, by rw [List.length_set]; exact p.len, fun k d e => ?_, fun k l b q1 q2 => ?_, fun k b q1 q2 => ?_, ⟨w.w.ex, fun b q => ?_, fun b q => ?_⟩⟩, ?_⟩
    · rcases set_get e with ⟨z1, z2⟩ | ⟨z1, z2⟩
      · subst z1
        obtain ⟨v, e1, r⟩ := w.at_ j d z2
        rw [List.getElem?_map, hv] at e1
        cases e1
        exact ⟨_, hs, by simpa using r⟩
      · obtain ⟨v, e1, r⟩ := p.at_ k d z2
        refine ⟨v, e1, ?_⟩
        rw [show (fun b => if k = i then Rp j b else R k b) = R k from by funext b; rw [if_neg (Ne.symm z1)]]
        exact r.keep t.fx fun b q o e => bs.1 b ⟨k, q⟩ o e
    · split at q1 <;> split at q2
      · rename_i a c; exact a.trans c.symm
      · exact (bs.2.1 b ⟨l, q2⟩ (.inr ⟨j, q1⟩)).elim
      · exact (bs.2.1 b ⟨k, q1⟩ (.inr ⟨j, q2⟩)).elim
      · exact p.dj k l b q1 q2
    · split at q2
      · exact w.dp j b q1 q2
      · exact bs.2.1 b ⟨k, q2⟩ (.inl q1)
    · rcases q with q | ⟨k, q⟩
      · exact w.w.dm b (.inl q)
      · split at q
        · exact w.w.dm b (.inr ⟨j, q⟩)
        · exact (bs.2.2 b ⟨k, q⟩).1
    · rcases q with q | ⟨k, q⟩
      · exact w.w.nf b (.inl q)
      · split at q
        · exact w.w.nf b (.inr ⟨j, q⟩)
        · exact (bs.2.2 b ⟨k, q⟩).2
    · refine ((t.with (tot R)).more fun b q => ?_).less fun b q => ?_
      · exact q.elim .inr .inl
      · rcases q with q | ⟨k, q⟩
        · exact .inr (.inl q)
        · split at q
          · exact .inr (.inr ⟨j, q⟩)
          · exact .inl ⟨k, q⟩
  cases em : m ds with
  | fail => rw [em] at h; exact h
  | ok d ps =>
    rw [em] at h
    intro Hf' H' P' Rp v t q
    obtain ⟨p2, t2⟩ := old t q
    exact h Hf' H' P' _ v t2 p2
  | exc x ps =>
    rw [em] at h
    intro Hf' H' Rp cls dd t q
    obtain ⟨p2, t2⟩ := old t q
    exact h Hf' H' _ cls dd t2 p2
/-- the arguments of such a call: to the heap where the callee starts -/
theorem lent_args {es fs : List Expr} {e : Expr} {i : Nat} {ms ns : MA} {m : MF} {Q : VK} {E : L2.St → XK} (ha : CL ca X es ms) (he : PE X e (tVar i)) (hb : CL ca X fs ns) (p : PR ca X.K Hf H Em True R σ st)
    (h : Post ca X Hf H (jn Em R) σ (eCallL m ms i ns st) Q) (hE : E σ = fun cls dd H' => wX X cls dd σ H') : WL X (es ++ e :: fs) σ H fun vs H' => spM ca X.K m vs H' Q (E σ) := by
  refine wl_app (ha Hf H R σ st _ p ?_)
  unfold eCallL at h
  cases e1 : ms st with
  | fail => rw [e1] at h; exact h
  | exc x st1 => rw [e1] at h; exact h
  | ok ds st1 =>
    rw [e1] at h
    intro Hf1 H1 P1 R1 vs t1 p1
    have h1 := Post.from t1 h
    clear h
    dsimp only [Res.bind] at h1
    cases eg : getS st1 i with
    | none => rw [eg] at h1; exact h1.elim
    | some d0 =>
      rw [eg] at h1
      obtain ⟨v0, ev0, _⟩ := p1.at_ i d0 eg
      refine we_of he ⟨v0, ev0, hb Hf1 H1 R1 σ st1 _ p1.drop ?_⟩
      have h2 : Post ca X Hf1 H1 (jn P1 R1) σ ((ns st1).bind fun es st2 =>
          (match getS st2 i with
          | some d => if hot d then (match m (ds ++ d :: es) with
              | .ok r ps => .ok r (st2.set i (getS ps ds.length))
              | .exc x ps => .exc x (st2.set i (getS ps ds.length))
              | .fail => .fail) else (match m (ds ++ d :: es) with
              | .ok r _ => .ok r st2
              | .exc x _ => .exc x st2
              | .fail => .fail)
          | none => .fail)) Q := h1
      clear h1
      cases e2 : ns st1 with
      | fail => rw [e2] at h2; exact h2
      | exc x st2 => rw [e2] at h2; exact fun Hf' H' R' cls dd t q => h2 Hf' H' R' cls dd (t.more fun b q => q.elim (fun q => q.elim) .inr) q
      | ok es' st2 =>
        rw [e2] at h2
        intro Hf2 H2 P2 R2 ws t2 p2
        obtain ⟨c1, c2, c3, c4, c5⟩ := PR.carry (ppf := fun _ _ => True) p1 t2 p2
        have h3 := Post.from c5 h2
        clear h2
        dsimp only [Res.bind] at h3
        have r1 := p1.pend.keep t2.fx c1
        have r2 := p2.pend
        cases eg2 : getS st2 i with
        | none => rw [eg2] at h3; exact h3.elim
        | some d =>
          rw [eg2] at h3
          dsimp only at h3
          rw [hE]
          by_cases hh : hot d = true
          · rw [if_pos hh] at h3
            obtain ⟨v, ev, p3⟩ := p2.drop.take eg2
            rw [ev0] at ev
            cases ev
            -- the pending arguments, the lent slot's own
            have hd1 : ∀ b, (P1 b ∨ P2 b) → R2 i b → False := fun b q1 q2 => q1.elim (fun q => c3 i b q q2) fun q => p2.dp i b q q2
            have rr : RepL ca X.K Hf2 H2 (fun b => (P1 b ∨ P2 b) ∨ R2 i b) (vs ++ v0 :: ws) (ds ++ d :: es') :=
              repL_app' (S1 := P1) (S2 := fun b => R2 i b ∨ P2 b) r1 (.cons p3.pend r2 (fun _ q => .inl q) (fun _ q => .inr q) fun b q1 q2 => p2.dp i b q2 q1) (fun b q => .inl (.inl q)) (fun b q => q.elim .inr fun q => .inl (.inr q)) fun b q1 q2 => q2.elim (fun q => c3 i b q1 q) (c2 b q1)
            have p4 : PR ca X.K Hf2 H2 (fun b => (P1 b ∨ P2 b) ∨ R2 i b) (RepL ca X.K Hf2 H2 (fun b => (P1 b ∨ P2 b) ∨ R2 i b) (vs ++ v0 :: ws) (ds ++ d :: es')) (fun j b => j ≠ i ∧ R2 j b) σ (st2.set i none) :=
              ⟨rr, p3.len, p3.at_, p3.dj, fun k b q1 q2 => q1.elim (fun q => q.elim (fun q => c3 k b q q2.2) fun q => p2.dp k b q q2.2) fun q => q2.1 (p2.dj k i b q2.2 q), c4.mono fun b q => by
                rcases q with (q | q) | ⟨k, q⟩
                · exact .inl q
                · exact .inr ⟨i, q⟩
                · exact .inr ⟨k, q.2⟩⟩
            refine ⟨Hf2, _, _, rr, p4.w.mono fun b q => .inl q, postC_lent (i := i) (j := vs.length) (a := v0) p4 (by simp) ev0 (by rw [getS_set, if_pos rfl]; split <;> rfl) (by rw [List.length_set]; exact getS_lt eg2) ?_⟩
            rw [r1.length]
            have hset : ∀ o : Option D, (st2.set i none).set i o = st2.set i o := fun o => by rw [List.set_set]
            simp only [hset]
            refine Post.from (Tr.refl fun b q => ?_) h3
            rcases q with (q | q) | ⟨k, q⟩
            · exact .inl q
            · exact .inr ⟨i, q⟩
            · exact .inr ⟨k, q.2⟩
          · rw [if_neg hh] at h3
            have hh' : hot d = false := by simpa using hh
            obtain ⟨v, ev, rd⟩ := p2.drop.at_ i d eg2
            rw [ev0] at ev
            cases ev
            have rr : RepL ca X.K Hf2 H2 (fun b => P1 b ∨ P2 b) (vs ++ v0 :: ws) (ds ++ d :: es') :=
              repL_app' (S1 := P1) (S2 := P2) r1 (.cons (S1 := Em) (rd.cold hh') r2 (fun _ q => q.elim) (fun _ q => q) fun b q1 q2 => q1) (fun b q => .inl q) (fun b q => .inr q) c2
            have p4 : PR ca X.K Hf2 H2 (fun b => P1 b ∨ P2 b) (RepL ca X.K Hf2 H2 (fun b => P1 b ∨ P2 b) (vs ++ v0 :: ws) (ds ++ d :: es')) R2 σ st2 :=
              ⟨rr, p2.len, p2.at_, p2.dj, fun k b q1 q2 => q1.elim (fun q => c3 k b q q2) fun q => p2.dp k b q q2, c4⟩
            exact ⟨Hf2, _, _, rr, p4.w.mono fun b q => .inl q, postC_of p4 h3⟩
theorem ce_callL {k : Nat} {f : Addr} {fd : FuncData} {ps : List Str} {x : Str} {p pos : Pos} {e0 : Expr} {es : List Expr} (es1 fs : List Expr) (e : Expr) {i : Nat} {m : MF} {ms ns : MA} (F : FnOk X.prog X.w X.K X.mg X.base (L2.CX X.prog X.w) k f fd ps (spM ca X.K m)) (hr : Room k X.A) (hg : Gl X x) (hm : X.mg x = some (.ref f))
    (hk : PySem.W.keepIn X.K (.ref f) = true) (hb : Binds X.K fd ps []) (ha : CL ca X es1 ms) (he : PE X e (tVar i)) (hbs : CL ca X fs ns) (hes : e0 :: es = es1 ++ e :: fs) (hst : NoStar (e0 :: es)) (hdb : (x == ("__debug__" : Str)) = false := by decide) (hpl : (backTo pos (starEach es X.env)).any (·.1) = false := by rfl) :
    CE ca X (.Call (.Name x p) (e0 :: es) [] pos) (eCallL m ms i ns) := fun Hf H R σ st Q pr h => by
  refine we_of (pe_callS F hr hg hm hk hb (E := fun σ cls dd H' => wX X cls dd σ H') (fun σ => passAt (takes_wX X) σ) (wa_pa X (e0 :: es)) hdb (hst.1 _) hpl) (wa_wl (fun e' r' q => noStar_suf hst e' r' q _) ?_)
  rw [hes]
  exact lent_args (E := fun σ cls dd H' => wX X cls dd σ H') ha he hbs pr h rfl

/-! ### what is walked -/
theorem sqL_ex {a : Addr} {xs : List V} (hx : Ex Hf H) (h : SqL K Hf a xs) : SqL K H a xs := by
  rcases h with h | h
  · refine .inl ?_
    rcases h with h | ⟨o, h⟩
    · exact .inl (hx _ _ h)
    · exact .inr ⟨o, hx _ _ h⟩
  · exact .inr h
theorem sqT_ex {a : Addr} {xs : List V} (hx : Ex Hf H) (h : SqT K Hf a xs) : SqT K H a xs := by
  rcases h with h | h
  · refine .inl ?_
    rcases h with h | ⟨o, h⟩
    · exact .inl (hx _ _ h)
    · exact .inr ⟨o, hx _ _ h⟩
  · exact .inr h
theorem colds_at {ds : List D} (h : colds ds = true) {i : Nat} {d : D} (e : ds[i]? = some d) : hot d = false := by
  unfold colds at h
  have := List.all_eq_true.mp h d (List.mem_of_getElem? e)
  unfold cold at this
  simpa using this
/-- the end of an item that makes nothing -/
theorem itd_plain {J : It} {n : Nat} (hn : ds.length = n) (h1 : ∀ H', Ex Hf H' → ∀ i, i < n → J.go i H') (h2 : ∀ H', Ex Hf H' → J.stop n H') (h3 : ∀ H', Ex Hf H' → ∀ i d x H2, ds[i]? = some d → J.yld i H' x H2 → H2 = H' ∧ hot d = false ∧ ∀ Hf', Ex Hf Hf' → Rep ca K Hf' H' Em x d) : ItD ca K J Hf ds := by
  subst hn
  intro Hf' H' x1 x2
  have x3 : Ex Hf H' := fun a o e => x2 a o (x1 a o e)
  refine ⟨h1 H' x3, h2 H' x3, fun i d x H2 e y => ?_⟩
  obtain ⟨rfl, hd, r⟩ := h3 H' x3 i d x H2 e y
  exact ⟨hd, Hf', fun _ _ e => e, fun _ _ e => e, x2, fun _ _ e => .inl e, r Hf' x1⟩
theorem itd_list {a : Addr} (h : SqL K Hf a vs) (r : RepL ca K Hf H Em vs ds) (hc : colds ds = true) : ItD ca K (Itl K a) Hf ds := by
  refine itd_plain rfl (fun H' x i hi => ?_) (fun H' x => ⟨vs, sqL_ex x h, by rw [r.length]; exact Nat.le_refl _⟩) fun H' x i d v H2 e y => ?_
  · have : i < vs.length := by rw [r.length]; exact hi
    exact ⟨vs, vs[i], sqL_ex x h, by simp [this]⟩
  · obtain ⟨e1, y⟩ := y
    refine ⟨e1, colds_at hc e, fun Hf' x1 => ?_⟩
    obtain ⟨v', T, e2, r2, z⟩ := repL_at r e
    have := y vs (sqL_ex x h)
    rw [e2] at this
    cases this
    exact (r2.mono z).keep x1 fun _ q => q.elim
theorem itd_tup {a : Addr} (h : SqT K Hf a vs) (r : RepL ca K Hf H Em vs ds) (hc : colds ds = true) : ItD ca K (Itt K a) Hf ds := by
  refine itd_plain rfl (fun H' x i hi => ?_) (fun H' x => ⟨vs, sqT_ex x h, by rw [r.length]; exact Nat.le_refl _⟩) fun H' x i d v H2 e y => ?_
  · have : i < vs.length := by rw [r.length]; exact hi
    exact ⟨vs, vs[i], sqT_ex x h, by simp [this]⟩
  · obtain ⟨e1, y⟩ := y
    refine ⟨e1, colds_at hc e, fun Hf' x1 => ?_⟩
    obtain ⟨v', T, e2, r2, z⟩ := repL_at r e
    have := y vs (sqT_ex x h)
    rw [e2] at this
    cases this
    exact (r2.mono z).keep x1 fun _ q => q.elim
theorem itd_range {lo : Int} {n : Nat} : ItD ca K (Itr lo n) Hf (rangeD lo n) := by
  refine itd_plain (n := n) (by simp [rangeD]) (fun H' x i hi => hi) (fun H' x => Nat.le_refl _) fun H' x i d v H2 e y => ?_
  obtain ⟨rfl, rfl⟩ := y
  have hi : i < n := by
    have := (List.getElem?_eq_some_iff.mp e).1
    simpa [rangeD] using this
  have : d = .int (lo + (i : Nat)) := by
    simp only [rangeD, List.getElem?_map, List.getElem?_range hi, Option.map_some, Option.some.injEq] at e
    exact e.symm
  subst this
  exact ⟨rfl, rfl, fun _ _ => .int⟩
theorem itd_rangeC {lo c : Int} {n : Nat} : ItD ca K (Itc lo c n) Hf (rangeC lo c n) := by
  refine itd_plain (n := n) (by simp [rangeC]) (fun H' x i hi => hi) (fun H' x => Nat.le_refl _) fun H' x i d v H2 e y => ?_
  obtain ⟨rfl, rfl⟩ := y
  have hi : i < n := by
    have := (List.getElem?_eq_some_iff.mp e).1
    simpa [rangeC] using this
  have : d = .int (lo + (i : Nat) * c) := by
    simp only [rangeC, List.getElem?_map, List.getElem?_range hi, Option.map_some, Option.some.injEq] at e
    exact e.symm
  subst this
  exact ⟨rfl, rfl, fun _ _ => .int⟩
/-- the pairs of an enumeration -/
def enumD : Nat → List D → List D
  | _, [] => []
  | n, d :: ds => .tup [.int (n : Int), d] :: enumD (n + 1) ds
theorem enumD_get : ∀ {ds : List D} {n i : Nat} {e : D}, (enumD n ds)[i]? = some e → ∃ d, ds[i]? = some d ∧ e = .tup [.int ((n + i : Nat) : Int), d]
  | [], n, i, e, h => by simp [enumD] at h
  | d :: ds, n, 0, e, h => by
    simp [enumD] at h
    exact ⟨d, rfl, h.symm⟩
  | d :: ds, n, i + 1, e, h => by
    rw [enumD, List.getElem?_cons_succ] at h
    obtain ⟨d', h1, h2⟩ := enumD_get h
    refine ⟨d', by simpa using h1, ?_⟩
    rw [h2, show n + 1 + i = n + (i + 1) from by omega]
theorem enumD_length : ∀ {ds : List D} {n : Nat}, (enumD n ds).length = ds.length
  | [], _ => rfl
  | d :: ds, n => by simp [enumD, enumD_length]
theorem itd_enum {a : Addr} (h : SqL K Hf a vs) (r : RepL ca K Hf H Em vs ds) (hc : colds ds = true) : ItD ca K (Ite K a) Hf (enumD 0 ds) := by
  intro Hf' H' x1 x2
  have x3 : Ex Hf H' := fun a o e => x2 a o (x1 a o e)
  refine ⟨fun i hi => ?_, ⟨vs, sqL_ex x3 h, by rw [r.length, enumD_length]; exact Nat.le_refl _⟩, fun i d x H2 e y => ?_⟩
  · have : i < vs.length := by rw [r.length]; rw [enumD_length] at hi; exact hi
    exact ⟨vs, vs[i], sqL_ex x3 h, by simp [this]⟩
  · obtain ⟨T, xv, rfl, hT, rfl, y⟩ := y
    obtain ⟨d', e1, rfl⟩ := enumD_get e
    obtain ⟨v', T', e2, r2, z⟩ := repL_at r e1
    have := y vs (sqL_ex x3 h)
    rw [e2] at this
    have e3 : v' = xv := Option.some.inj this
    subst e3
    have hT' : Hf' T = none := by
      cases q : Hf' T with
      | none => rfl
      | some o => rw [x2 T o q] at hT; cases hT
    refine ⟨rfl, upd Hf' T (.tup [.int (i : Nat), v']), fun b o e => upd_keep hT' b o e, fun b o e => upd_keep hT b o e, fun b o e => ?_, fun b o e => ?_, ?_⟩
    · by_cases q : b = T
      · subst q; rw [upd_same] at e ⊢; exact e
      · rw [upd_ne q] at e ⊢; exact x2 b o e
    · by_cases q : b = T
      · subst q; exact .inr hT
      · rw [upd_ne q] at e; exact .inl e
    · refine .tup upd_same (.cons (S1 := Em) (S2 := Em) (by rw [Nat.zero_add]; exact .int) (.cons (S1 := Em) (S2 := Em) ((r2.mono z).keep (fun b o e => upd_keep hT' b o (x1 b o e)) fun _ q => q.elim) .nil (fun _ q => q) (fun _ q => q) fun _ q _ => q) (fun _ q => q) (fun _ q => q) fun _ q _ => q)
/-- a value that is walked: it is let stand -/
theorem PR.walked {xs : List D} (p : PR ca K Hf H P (Rep ca K Hf H P v d) R σ st) (h : lstItems d = some xs) (hc : colds xs = true) : ∃ Hf' a vs, v = .ref a ∧ SqL K Hf' a vs ∧ RepL ca K Hf' H Em vs xs ∧ PR ca K Hf' H Em True R σ st ∧ Tr (jn P R) Hf H (jn Em R) Hf' H := by
  obtain ⟨Hf', x1, x2, p', t'⟩ := p.standP
  refine ⟨Hf', ?_⟩
  have hr := p.pend
  cases hr with
  | lstF e r => cases h; exact ⟨_, _, rfl, .inl (.inl (x1 _ _ e)), repL_cold (r.keep x1 fun _ _ _ e => e) hc, p', t'⟩
  | lstO s e r => cases h; exact ⟨_, _, rfl, .inl (.inl (x2 _ s _ e)), repL_cold (r.keep x1 fun _ _ _ e => e) hc, p', t'⟩
  | scr e => cases h; exact ⟨_, _, rfl, sqL_ex x1 e, repL_mapInt _, p', t'⟩
  | _ => cases h
theorem PR.walkedT {xs : List D} (p : PR ca K Hf H P (Rep ca K Hf H P v (.tup xs)) R σ st) : ∃ Hf' a vs, v = .ref a ∧ SqT K Hf' a vs ∧ RepL ca K Hf' H Em vs xs ∧ PR ca K Hf' H Em True R σ st ∧ Tr (jn P R) Hf H (jn Em R) Hf' H := by
  obtain ⟨Hf', x1, x2, p', t'⟩ := p.standP
  have hr := p.pend
  cases hr with
  | tup e r => exact ⟨Hf', _, _, rfl, .inl (.inl (x1 _ _ e)), repL_em r x1, p', t'⟩
def tupItems : D → Option (List D)
  | .tup xs => some xs
  | _ => none
/-- an expression's answer, then what is walked -/
theorem post_iE {r : Res D} {p : D → Option (List D)} {Q : It → Hp → Prop} {Q' : VK} (h : PostI ca X Hf H S σ (r.bind fun d st1 => match p d with | some ds => if colds ds then .ok ds st1 else .fail | none => .fail) Q)
    (hk : ∀ d ds st Hf1 H1 P R1 v, p d = some ds → colds ds = true → Tr S Hf H (jn P R1) Hf1 H1 → PR ca X.K Hf1 H1 P (Rep ca X.K Hf1 H1 P v d) R1 σ st → PostI ca X Hf1 H1 (jn P R1) σ (.ok ds st) Q → Q' v H1) : Post ca X Hf H S σ r Q' := by
  cases r with
  | fail => exact h
  | exc x st => exact h
  | ok d st =>
    dsimp only [Res.bind] at h
    intro Hf1 H1 P R1 v t1 p1
    cases e : p d with
    | none => rw [e] at h; exact h.elim
    | some ds =>
      rw [e] at h
      dsimp only at h
      by_cases hc : colds ds = true
      · rw [if_pos hc] at h
        exact hk d ds st Hf1 H1 P R1 v e hc t1 p1 fun Hf2 H2 R2 J t2 p2 i2 => h Hf2 H2 R2 J (t1.trans t2) p2 i2
      · rw [if_neg hc] at h; exact h.elim
theorem ci_list {tg e : Expr} {m : ME} (hp : PI X tg e (iList X.K (We X e))) (he : CE ca X e m) : CI ca X tg e (iList X.K (We X e)) (iE m lstItems) := ⟨hp, fun Hf H R σ st Q p h => by
  refine he Hf H R σ st _ p (post_iE h fun d ds st1 Hf1 H1 P R1 v e1 hc t1 p1 h1 => ?_)
  obtain ⟨Hf', a, vs, rfl, s1, r1, p2, t2⟩ := p1.walked e1 hc
  exact ⟨a, rfl, ⟨vs, sqL_ex p2.w.ex s1⟩, h1 Hf' H1 R1 _ t2 p2 (itd_list s1 r1 hc)⟩⟩
theorem ci_tup {tg e : Expr} {m : ME} (hp : PI X tg e (iTup X.K (We X e))) (he : CE ca X e m) : CI ca X tg e (iTup X.K (We X e)) (iE m tupItems) := ⟨hp, fun Hf H R σ st Q p h => by
  refine he Hf H R σ st _ p (post_iE h fun d ds st1 Hf1 H1 P R1 v e1 hc t1 p1 h1 => ?_)
  cases d with
  | tup xs =>
    cases e1
    obtain ⟨Hf', a, vs, rfl, s1, r1, p2, t2⟩ := p1.walkedT
    exact ⟨a, rfl, ⟨vs, sqT_ex p2.w.ex s1⟩, h1 Hf' H1 R1 _ t2 p2 (itd_tup s1 r1 hc)⟩
  | _ => cases e1⟩
/-- enumerate(list) -/
def iEn (m : ME) : Sl → Res (List D) := fun st => (m st).bind fun d st1 => match lstItems d with
  | some ds => if colds ds then .ok (enumD 0 ds) st1 else .fail
  | none => .fail
theorem ci_enum {e : Expr} {m : ME} {p pos tpos : Pos} {elts : List Expr} {kk : Nat} (hg : Gl X "enumerate") (hm : X.mg "enumerate" = none) (he : CE ca X e m) (hs : starEach [e] X.env = [(false, eval e X.env)] := by rfl) :
    CI ca X (.Tuple elts kk tpos) (.Call (.Name "enumerate" p) [e] [] pos) (iEnum X.K (tCons (We X e) tNil)) (iEn m) := ⟨pi_enum hg hm (pa_cons (we_pe X e) pa_nil hs) hs, fun Hf H R σ st Q p h => by
  refine he Hf H R σ st _ p ?_
  unfold iEn at h
  cases r : m st with
  | fail => rw [r] at h; exact h
  | exc x st => rw [r] at h; exact h
  | ok d st1 =>
    rw [r] at h
    dsimp only [Res.bind] at h
    intro Hf1 H1 P R1 v t1 p1
    cases e : lstItems d with
    | none => rw [e] at h; exact h.elim
    | some ds =>
      rw [e] at h
      dsimp only at h
      by_cases hc : colds ds = true
      · rw [if_pos hc] at h
        obtain ⟨Hf', a, vs, rfl, s1, r1, p2, t2⟩ := p1.walked e hc
        exact ⟨a, vs, rfl, sqL_ex p2.w.ex s1, h Hf' H1 R1 _ (t1.trans t2) p2 (itd_enum s1 r1 hc)⟩
      · rw [if_neg hc] at h; exact h.elim⟩
theorem small62_ok {i : Int} (h : small62 i = true) : -(2 ^ 62) ≤ i ∧ i < 2 ^ 62 := of_decide_eq_true h
theorem ci_range1 {tg a : Expr} {m : ME} {p pos : Pos} (hg : Gl X "range") (hm : X.mg "range" = none) (ha : CE ca X a m) (hst : NoStar [a] := by exact ⟨fun _ => rfl, trivial⟩) : CI ca X tg (.Call (.Name "range" p) [a] [] pos) (iRng1 (Wa X [a])) (iR1 m) :=
  ⟨pi_range1 hg hm (wa_pa X [a]) (hst.1 _), fun Hf H R σ st Q p h => by
    refine wa_wl (fun e' r' q => noStar_suf hst e' r' q _) (ha Hf H R σ st _ p ?_)
    unfold iR1 at h
    cases r : m st with
    | fail => rw [r] at h; exact h
    | exc x st => rw [r] at h; exact h
    | ok d st1 =>
      rw [r] at h
      intro Hf1 H1 P R1 v t1 p1
      dsimp only [Res.bind] at h
      cases d with
      | int j =>
        dsimp only at h
        by_cases hj : small62 j = true
        · rw [if_pos hj] at h
          have := small62_ok hj
          show ∃ j : Int, _
          rw [rep_int p1.pend]
          exact ⟨j, rfl, this.1, this.2, h Hf1 H1 R1 _ (less0 t1) p1.drop itd_range⟩
        · rw [if_neg hj] at h; exact h.elim
      | _ => exact h.elim⟩
theorem ci_range2 {tg a b : Expr} {ma mb : ME} {p pos : Pos} (hg : Gl X "range") (hm : X.mg "range" = none) (ha : CE ca X a ma) (hb : CE ca X b mb) (hst : NoStar [a, b] := by exact ⟨fun _ => rfl, fun _ => rfl, trivial⟩) : CI ca X tg (.Call (.Name "range" p) [a, b] [] pos) (iRng2 (Wa X [a, b])) (iR2 ma mb) :=
  ⟨pi_range2 hg hm (wa_pa X [a, b]) (by rw [hst.1, hst.2.1]; rfl) (by rw [hst.2.1]; rfl), fun Hf H R σ st Q p h => by
    refine wa_wl (fun e' r' q => noStar_suf hst e' r' q _) (ha Hf H R σ st _ p ?_)
    unfold iR2 at h
    cases r : ma st with
    | fail => rw [r] at h; exact h
    | exc x st => rw [r] at h; exact h
    | ok d st1 =>
      rw [r] at h
      intro Hf1 H1 P R1 v t1 p1
      refine hb Hf1 H1 R1 σ st1 _ p1.drop ?_
      dsimp only [Res.bind] at h
      cases r2 : mb st1 with
      | fail => rw [r2] at h; exact h
      | exc x st => rw [r2] at h; exact fun Hf2 H2 R2 cls dd t2 p2 => h Hf2 H2 R2 cls dd ((less0 t1).trans t2) p2
      | ok e st2 =>
        rw [r2] at h
        dsimp only [Res.bind] at h
        intro Hf2 H2 P2 R2 v2 t2 p2
        cases d with
        | int i =>
          cases e with
          | int j =>
            dsimp only at h
            by_cases hj : (small62 i && small62 j) = true
            · rw [if_pos hj] at h
              rw [Bool.and_eq_true] at hj
              have h3 := small62_ok hj.1
              have h4 := small62_ok hj.2
              show ∃ i j : Int, _
              rw [rep_int p1.pend, rep_int p2.pend]
              exact ⟨i, j, rfl, ⟨h3.1, h3.2, h4.1, h4.2⟩, h Hf2 H2 R2 _ ((less0 t1).trans (less0 t2)) p2.drop itd_range⟩
            · rw [if_neg hj] at h; exact h.elim
          | _ => exact h.elim
        | _ => exact h.elim⟩
/-- range(a, b, -1) -/
theorem ci_rangeD {tg a b : Expr} {ma mb : ME} {p pos p1 p2 : Pos} {j1 : Nat} (hg : Gl X "range") (hm : X.mg "range" = none) (ha : CE ca X a ma) (hb : CE ca X b mb) (hst : NoStar [a, b, .UnaryOp .USub (.Constant (.int 1) j1 p1) p2] := by exact ⟨fun _ => rfl, fun _ => rfl, fun _ => rfl, trivial⟩)
    (hpl : (backTo pos (starEach [b, .UnaryOp .USub (.Constant (.int 1) j1 p1) p2] X.env)).any (·.1) = false := by rfl) : CI ca X tg (.Call (.Name "range" p) [a, b, .UnaryOp .USub (.Constant (.int 1) j1 p1) p2] [] pos) (iRng3 (Wa X [a, b, .UnaryOp .USub (.Constant (.int 1) j1 p1) p2])) (iRD ma mb) :=
  ⟨pi_range3 hg hm (wa_pa X _) (hst.1 _) hpl, fun Hf H R σ st Q p h => by
    refine wa_wl (fun e' r' q => noStar_suf hst e' r' q _) (ha Hf H R σ st _ p ?_)
    unfold iRD at h
    cases r : ma st with
    | fail => rw [r] at h; exact h
    | exc x st => rw [r] at h; exact h
    | ok d st1 =>
      rw [r] at h
      intro Hf1 H1 P R1 v t1 p1
      refine hb Hf1 H1 R1 σ st1 _ p1.drop ?_
      dsimp only [Res.bind] at h
      cases r2 : mb st1 with
      | fail => rw [r2] at h; exact h
      | exc x st => rw [r2] at h; exact fun Hf2 H2 R2 cls dd t2 p2 => h Hf2 H2 R2 cls dd ((less0 t1).trans t2) p2
      | ok e st2 =>
        rw [r2] at h
        dsimp only [Res.bind] at h
        intro Hf2 H2 P2 R2 v2 t2 p2
        cases d with
        | int i =>
          cases e with
          | int j =>
            dsimp only at h
            by_cases hj : (small62 i && small62 j) = true
            · rw [if_pos hj] at h
              rw [Bool.and_eq_true] at hj
              have h3 := small62_ok hj.1
              have h4 := small62_ok hj.2
              refine we_of (pe_un un_neg pe_int) ⟨1, rfl, ?_⟩
              show ∃ (i j c : Int) (n : Nat), _
              rw [rep_int p1.pend, rep_int p2.pend]
              exact ⟨i, j, -1, _, rfl, RgC.neg h3.1 h3.2 h4.1 h4.2, h Hf2 H2 R2 _ ((less0 t1).trans (less0 t2)) p2.drop itd_rangeC⟩
            · rw [if_neg hj] at h; exact h.elim
          | _ => exact h.elim
        | _ => exact h.elim⟩
end
end DL

/-! DL9: comprehensions; lists of ranges; slices; methods of lists. -/
namespace DL
open PySem L2 PyProof.Rows

/-- what is raised is not followed -/
def Res.noX {α : Type} (r : Res α) : Res α :=
  match r with
  | .exc _ _ => .fail
  | r => r
def wipeS (st : Sl) : List Nat → Sl
  | [] => st
  | v :: vs => (wipeS st vs).set v none
def compD (g : MG) (t : MT) (e : ME) (vs : List Nat) : List D → Sl → List D → Res (List D)
  | [], st, acc => .ok acc st
  | d :: ds, st, acc => (g d st).noX.bind fun _ st1 => (t st1).noX.bind fun k st2 => if k then (e st2).noX.bind fun y st3 => if acc.length < 16777216 then compD g t e vs ds (wipeS st3 vs) (acc ++ [y]) else .fail
    else compD g t e vs ds (wipeS st2 vs) acc
def eLc (src : Sl → Res (List D)) (g : MG) (t : MT) (e : ME) (vs : List Nat) : ME := fun st => (src st).bind fun ds st1 => (compD g t e vs ds (wipeS st1 vs) []).bind fun acc st2 => .ok (.lst true acc) st2
def tYesM : MT := fun st => .ok true st

section
variable {ca : Nat → Addr} {K : PySem.W.Frag} {Hf H Hf1 H1 Hf2 H2 : Hp} {S S1 S2 P P1 P2 : Rg} {R R1 R2 : Nat → Rg} {pp qq : Prop} {σ σ' : L2.St} {st st' : Sl} {v : V} {d : D} {vs : List V} {ds : List D} {X : Cx} {L : List Nat}

theorem wipe_get {w : List Nat} {σ : L2.St} {i : Nat} : (wipe σ w)[i]? = if i ∈ w then (if i < σ.length then some none else none) else σ[i]? := by
  induction w with
  | nil => simp [wipe]
  | cons v w ih =>
    show ((wipe σ w).set v none)[i]? = _
    by_cases e : v = i
    · subst e
      rw [List.getElem?_set_self']
      simp only [List.mem_cons_self, if_true]
      by_cases h : v < σ.length
      · rw [if_pos h]
        have : v < (wipe σ w).length := by rw [wipe_length]; exact h
        rw [List.getElem?_eq_getElem this]; rfl
      · rw [if_neg h, List.getElem?_eq_none (by rw [wipe_length]; omega)]; rfl
    · rw [List.getElem?_set_ne e, ih]
      have : (i ∈ v :: w) = (i ∈ w) := by simp [List.mem_cons, Ne.symm e]
      simp only [this]
theorem wipe_eq {w : List Nat} (hl : σ'.length = σ.length) (h : ∀ i, i ∉ w → σ'[i]? = σ[i]?) : wipe σ' w = wipe σ w := by
  apply List.ext_getElem?
  intro i
  rw [wipe_get, wipe_get, hl]
  split
  · rfl
  · exact h i (by assumption)
/-- all places but w -/
def but (n : Nat) (w : List Nat) : List Nat := (List.range n).filter fun i => decide (i ∉ w)
theorem wipe_lk {w : List Nat} (k : Lk (but σ.length w) σ σ') : wipe σ' w = wipe σ w := wipe_eq k.1 fun i hi => by
  by_cases h : i < σ.length
  · exact k.2 i (List.mem_filter.mpr ⟨List.mem_range.mpr h, by simpa using hi⟩)
  · rw [List.getElem?_eq_none (by rw [k.1]; omega), List.getElem?_eq_none (by omega)]
theorem wipe_wipe {w : List Nat} : wipe (wipe σ w) w = wipe σ w := wipe_eq (wipe_length σ w) fun i hi => by rw [wipe_get, if_neg hi]
theorem wipeS_len {w : List Nat} {st : Sl} : (wipeS st w).length = st.length := by
  induction w with
  | nil => rfl
  | cons v w ih => show ((wipeS st w).set v none).length = _; rw [List.length_set, ih]
theorem wipeS_get {w : List Nat} {st : Sl} {i : Nat} (h : getS (wipeS st w) i = some d) : i ∉ w ∧ getS st i = some d := by
  induction w with
  | nil => exact ⟨by simp, h⟩
  | cons v w ih =>
    rcases set_get (show getS ((wipeS st w).set v none) i = some d from h) with ⟨h1, h2⟩ | ⟨h1, h2⟩
    · cases h2
    · obtain ⟨h3, h4⟩ := ih h2
      exact ⟨by simp [h3, Ne.symm h1], h4⟩
/-- the slots w forgotten, on both sides -/
theorem PR.wipe (w : List Nat) (p : PR ca K Hf H P pp R σ st) : PR ca K Hf H P pp R (wipe σ w) (wipeS st w) :=
  ⟨p.pend, by rw [wipeS_len, wipe_length]; exact p.len, fun i d e => by
    obtain ⟨h1, h2⟩ := wipeS_get e
    obtain ⟨v, e1, r⟩ := p.at_ i d h2
    exact ⟨v, by rw [wipe_get, if_neg h1]; exact e1, r⟩, p.dj, p.dp, p.w⟩
/-- the slots w forgotten in the data alone -/
theorem PR.wipeD (w : List Nat) (p : PR ca K Hf H P pp R (L2.wipe σ w) st) : PR ca K Hf H P pp R σ (wipeS st w) :=
  ⟨p.pend, by rw [wipeS_len, p.len, wipe_length], fun i d e => by
    obtain ⟨h1, h2⟩ := wipeS_get e
    obtain ⟨v, e1, r⟩ := p.at_ i d h2
    rw [wipe_get, if_neg h1] at e1
    exact ⟨v, e1, r⟩, p.dj, p.dp, p.w⟩
theorem PR.wipeD' (w : List Nat) (p : PR ca K Hf H P pp R (L2.wipe σ w) st) : PR ca K Hf H P pp R (L2.wipe σ w) (wipeS st w) := by
  have := p.wipe w
  rw [wipe_wipe] at this
  exact this
theorem PR.unwipe {w : List Nat} (p : PR ca K Hf H P pp R (L2.wipe σ w) st) : PR ca K Hf H P pp R σ st :=
  ⟨p.pend, by rw [p.len, wipe_length], fun i d e => by
    obtain ⟨v, e1, r⟩ := p.at_ i d e
    rw [wipe_get] at e1
    split at e1
    · split at e1 <;> cases e1
    · exact ⟨v, e1, r⟩, p.dj, p.dp, p.w⟩
/-- the new list, beside all -/
structure Acc (ca : Nat → Addr) (K : PySem.W.Frag) (Hf H : Hp) (Dl : Addr) (A : Rg) (acc : List D) (R : Nat → Rg) (σ : L2.St) (st : Sl) : Prop where
  pr : PR ca K Hf H (fun b => b = Dl ∨ A b) (∃ vs, H Dl = some (.lst vs) ∧ RepL ca K Hf H A vs acc ∧ ¬ A Dl) R σ st
theorem repL_snoc {A B : Rg} (r : RepL ca K Hf H A vs ds) (q : Rep ca K Hf H B v d) (dj : ∀ b, A b → B b → False) : RepL ca K Hf H (fun b => A b ∨ B b) (vs ++ [v]) (ds ++ [d]) :=
  repL_app' (S1 := A) (S2 := B) r (RepL.one q) (fun _ q => .inl q) (fun _ q => .inr q) dj

theorem eLc_src {src : Sl → Res (List D)} {g : MG} {t : MT} {e : ME} {w : List Nat} {Q : VK} (h : Post ca X Hf H S σ (eLc src g t e w st) Q) {Q' : It → Hp → Prop}
    (hk : ∀ ds st1 Hf1 H1 R1 J, Tr S Hf H (jn Em R1) Hf1 H1 → PR ca X.K Hf1 H1 Em True R1 σ st1 → ItD ca X.K J Hf1 ds → Post ca X Hf1 H1 (jn Em R1) σ ((compD g t e w ds (wipeS st1 w) []).bind fun acc st2 => .ok (.lst true acc) st2) Q → Q' J H1) : PostI ca X Hf H S σ (src st) Q' := by
  unfold eLc at h
  cases r : src st with
  | fail => rw [r] at h; exact h
  | exc x st1 => rw [r] at h; exact h
  | ok ds st1 =>
    rw [r] at h
    exact fun Hf1 H1 R1 J t1 p1 i1 => hk ds st1 Hf1 H1 R1 J t1 p1 i1 (Post.from t1 h)
theorem noX_ok {α : Type} {r : Res α} {a : α} {st : Sl} (h : r.noX = .ok a st) : r = .ok a st := by
  cases r with
  | ok a st => exact h
  | exc x st => cases h
  | fail => cases h
/-- the reading of a list comprehension, from its parts' meanings in the blocks -/
theorem lc_read {wi : TI} {src : Sl → Res (List D)} {tg elt iter : Expr} {t : TG} {g : MG} {tt : TT} {mt : MT} {te : TE} {me : ME} {w : List Nat}
    (hi : CI ca X tg iter wi src)
    (hg : ∀ (Hf H : Hp) (P : Rg) (R : Nat → Rg) (σ : L2.St) (st : Sl) (v : V) (d : D) (Q : L2.St → Hp → Prop), PR ca X.K Hf H P (Rep ca X.K Hf H P v d) R σ st →
      (match g d st with
        | .ok _ st' => ∀ Hf' H' R' σ', Tr (jn P R) Hf H (jn Em R') Hf' H' → PR ca X.K Hf' H' Em True R' σ' st' → Lk (but σ.length w) σ σ' → Q σ' H'
        | _ => False) → t v σ H Q)
    (ht : ∀ (Hf H : Hp) (R : Nat → Rg) (σ : L2.St) (st : Sl) (Q : Bool → Hp → Prop), PR ca X.K Hf H Em True R σ st → (match mt st with
        | .ok k st' => ∀ Hf' H' R', Tr (jn Em R) Hf H (jn Em R') Hf' H' → PR ca X.K Hf' H' Em True R' σ st' → Q k H'
        | _ => False) → tt σ H Q)
    (he : ∀ (Hf H : Hp) (R : Nat → Rg) (σ : L2.St) (st : Sl) (Q : VK), PR ca X.K Hf H Em True R σ st → (match me st with
        | .ok d st' => ∀ Hf' H' P R' v, Tr (jn Em R) Hf H (jn P R') Hf' H' → PR ca X.K Hf' H' P (Rep ca X.K Hf' H' P v d) R' σ st' → Q v H'
        | _ => False) → te σ H Q)
    {Q : VK} (p : PR ca X.K Hf H Em True R σ st) (h : Post ca X Hf H (jn Em R) σ (eLc src g mt me w st) Q) : tLc wi t tt te w σ H Q := by
  refine hi.2 Hf H R σ st _ p (eLc_src h fun ds st1 Hf1 H1 R1 J t1 p1 it h1 => ?_)
  clear h t1 p
  intro Dl hD
  have hD1 : Hf1 Dl = none := (wl_new (o := .lst []) p1.w hD).2
  refine ⟨fun i m H' => m = ds.length - i ∧ i ≤ ds.length ∧ ∃ Hf' R' st' A acc, Tr (jn Em R1) Hf1 H1 (jn (fun b => b = Dl ∨ A b) R') Hf' H' ∧ Acc ca X.K Hf' H' Dl A acc R' (L2.wipe σ w) st' ∧ compD g mt me w (ds.drop i) st' acc = compD g mt me w ds (wipeS st1 w) [],
    ⟨ds.length, by simp, Nat.zero_le _, Hf1, R1, wipeS st1 w, Em, [], ?_, ⟨?_⟩, rfl⟩, ?_⟩
  · refine ⟨fun _ _ e => e, fun b o e _ => upd_keep hD b o e, fun b q => ?_, fun _ _ e => .inl e⟩
    rcases q with (q | q) | q
    · subst q; exact .inr hD
    · exact q.elim
    · exact .inl (.inr q)
  · have := (p1.wipe w).grow (o := .lst []) hD (P' := fun b => b = Dl ∨ Em b) (qq := ∃ vs, (upd H1 Dl (.lst [])) Dl = some (.lst vs) ∧ RepL ca X.K Hf1 (upd H1 Dl (.lst [])) Em vs [] ∧ ¬ Em Dl) ⟨[], upd_same, .nil, fun q => q⟩ (fun b q => q.elim id fun q => q.elim)
    exact this
  rintro i m H' ⟨rfl, hi', Hf', R', st', A, acc, t', ac, ef⟩
  have p' := ac.pr
  obtain ⟨g1, g2, g3⟩ := it Hf' H' t'.fx p'.w.ex
  by_cases hlt : i < ds.length
  · refine .inr ⟨g1 i hlt, fun H2 => i + 1 ≤ ds.length ∧ ∃ Hf2 R2 st2 A2 acc2, Tr (jn Em R1) Hf1 H1 (jn (fun b => b = Dl ∨ A2 b) R2) Hf2 H2 ∧ Acc ca X.K Hf2 H2 Dl A2 acc2 R2 (L2.wipe σ w) st2 ∧ compD g mt me w (ds.drop (i + 1)) st2 acc2 = compD g mt me w ds (wipeS st1 w) [],
      fun H2 ⟨q1, q2⟩ => ⟨ds.length - (i + 1), by omega, rfl, q1, q2⟩, fun x H2 hy => ?_⟩
    obtain ⟨d, ed⟩ : ∃ d, ds[i]? = some d := ⟨ds[i], by simp [hlt]⟩
    obtain ⟨hd, Hf2, x1, x2, x3, x4, rx⟩ := g3 i d x H2 ed hy
    obtain ⟨p2, t2⟩ := p'.drop.yield x1 x2 x3 x4
    have edr : ds.drop i = d :: ds.drop (i + 1) := by
      rw [List.drop_eq_getElem_cons
          hlt]
      simp only [List.getElem?_eq_getElem hlt, Option.some.injEq] at ed
      rw [ed]
    rw [edr, compD] at ef
    have hnf : compD g mt me w ds (wipeS st1 w) [] = .fail → False := fun z => by rw [z] at h1; exact h1
    -- the new list is beside the slots, all the way
    obtain ⟨vs0, eD, rA, nA⟩ := p'.pend
    refine hg Hf2 H2 Em R' (L2.wipe σ w) st' x d _ (p2.put rx) ?_
    cases eg : g d st' with
    | fail => rw [eg] at ef; exact hnf ef.symm
    | exc x0 st2 => rw [eg] at ef; exact hnf ef.symm
    | ok a st2 =>
      rw [eg] at ef
      intro Hf3 H3 R3 σ3 t3 p3 k3
      have ew : L2.wipe σ3 w = L2.wipe σ w := by rw [wipe_lk k3, wipe_wipe]
      refine ⟨ew, ?_⟩
      refine ht Hf3 H3 R3 σ3 st2 _ p3 ?_
      dsimp only [Res.bind, Res.noX] at ef
      cases et : mt st2 with
      | fail => rw [et] at ef; exact hnf ef.symm
      | exc x0 st4 => rw [et] at ef; exact hnf ef.symm
      | ok k st4 =>
        rw [et] at ef
        dsimp only at ef
        intro Hf4 H4 R4 t4 p4
        have tA := (t2.trans t3).trans t4
        have pAcc : PR ca X.K Hf' H' (fun b => b = Dl ∨ A b) True R' (L2.wipe σ w) st' := p'.imp fun _ => trivial
        cases k with
        | false =>
          show _ ≤ _ ∧ _
          rw [if_neg (by decide)] at ef
          obtain ⟨c1, c2, c3, c4, c5⟩ := PR.carry (ppf := fun _ _ => True) pAcc tA p4
          refine ⟨by omega, Hf4, R4, wipeS st4 w, A, acc, (t'.trans c5).less (fun b q => ?_), ⟨?_⟩, ef⟩
          · rcases q with q | q
            · exact .inl (.inl q)
            · exact .inr q
          · have p5 : PR ca X.K Hf4 H4 (fun b => b = Dl ∨ A b) (∃ vs, H4 Dl = some (.lst vs) ∧ RepL ca X.K Hf4 H4 A vs acc ∧ ¬ A Dl) R4 σ3 st4 :=
              ⟨⟨vs0, c1 Dl (.inl rfl) _ eD, rA.keep tA.fx (fun b q => c1 b (.inr q)), nA⟩, p4.len, p4.at_, p4.dj, c3, c4.mono fun b q => by
                rcases q with q | q
                · exact .inl (.inl q)
                · exact .inr q⟩
            have := p5.wipe w
            rw [ew] at this
            exact this
        | true =>
          show te σ3 H4 _
          rw [if_pos rfl] at ef
          refine he Hf4 H4 R4 σ3 st4 _ p4 ?_
          cases ee : me st4 with
          | fail => rw [ee] at ef; exact hnf ef.symm
          | exc x0 st5 => rw [ee] at ef; exact hnf ef.symm
          | ok y st5 =>
            rw [ee] at ef
            dsimp only at ef
            intro Hf5 H5 P5 R5 vy t5 p5
            obtain ⟨c1, c2, c3, c4, c5⟩ := PR.carry (ppf := fun _ _ => True) pAcc (tA.trans t5) p5
            by_cases hl : acc.length < 16777216
            · rw [if_pos hl] at ef
              have eD5 := c1 Dl (.inl rfl) _ eD
              have rA5 := rA.keep (tA.trans t5).fx (fun b q => c1 b (.inr q))
              refine ⟨vs0, eD5, by rw [rA.length, ← sz_eq]; exact hl, by omega, Hf5, R5, wipeS st5 w, fun b => A b ∨ P5 b, acc ++ [y], ?_, ⟨?_⟩, ef⟩
              · refine ((t'.trans c5).trans ⟨fun _ _ e => e, fun b o e n => ?_, fun b q => .inl q, fun _ _ e => .inl e⟩).less fun b q => ?_
                · rw [upd_ne fun z => n (.inl (.inl (.inl z)))]; exact e
                · rcases q with (q | q | q) | q
                  · exact .inl (.inl (.inl q))
                  · exact .inl (.inl (.inr q))
                  · exact .inl (.inr q)
                  · exact .inr q
              · have hnD : ∀ b, (A b ∨ P5 b) → b ≠ Dl := fun b q z => by
                  subst z
                  rcases q with q | q
                  · exact nA q
                  · exact c2 b (.inl rfl) q
                have hk : ∀ b o, b ≠ Dl → H5 b = some o → upd H5 Dl (.lst (vs0 ++ [vy])) b = some o := fun b o n e => by rw [upd_ne n]; exact e
                have rN := (repL_snoc rA5 p5.pend fun b q1 q2 => c2 b (.inr q1) q2).keep (H' := upd H5 Dl (.lst (vs0 ++ [vy]))) (fun _ _ e => e) fun b q o e => hk b o (hnD b q) e
                have p6 : PR ca X.K Hf5 (upd H5 Dl (.lst (vs0 ++ [vy]))) (fun b => b = Dl ∨ A b ∨ P5 b) (∃ vs, (upd H5 Dl (.lst (vs0 ++ [vy]))) Dl = some (.lst vs) ∧ RepL ca X.K Hf5 (upd H5 Dl (.lst (vs0 ++ [vy]))) (fun b => A b ∨ P5 b) vs (acc ++ [y]) ∧ ¬ (A Dl ∨ P5 Dl)) R5 σ3 st5 :=
                  ⟨⟨_, upd_same, rN, fun q => hnD Dl q rfl⟩, p5.len, fun k d e => by
                    obtain ⟨v, e1, r⟩ := p5.at_ k d e
                    exact ⟨v, e1, r.keep (fun _ _ e => e) fun b q o e => hk b o (fun z => c3 k b (.inl z) q) e⟩, p5.dj, fun k b q1 q2 => by
                    rcases q1 with q | q | q
                    · exact c3 k b (.inl q) q2
                    · exact c3 k b (.inr q) q2
                    · exact p5.dp k b q q2, ⟨fun b o e => by
                      by_cases z : b = Dl
                      · subst z
                        have := c4.nf b (.inl (.inl (.inl rfl)))
                        rw [this] at e; cases e
                      · exact hk b o z (c4.ex b o e), fun b q => by
                      by_cases z : b = Dl
                      · subst z; exact ⟨_, upd_same⟩
                      · obtain ⟨o, e⟩ := c4.dm b (by
                          rcases q with (q | q | q) | q
                          · exact .inl (.inl (.inl q))
                          · exact .inl (.inl (.inr q))
                          · exact .inl (.inr q)
                          · exact .inr q)
                        exact ⟨o, hk b o z e⟩, fun b q => c4.nf b (by
                          rcases q with (q | q | q) | q
                          · exact .inl (.inl (.inl q))
                          · exact .inl (.inl (.inr q))
                          · exact .inl (.inr q)
                          · exact .inr q)⟩⟩
                have := p6.wipe w
                rw [ew] at this
                exact this
            · rw [if_neg hl] at ef; exact (hnf ef.symm).elim
  · have e1 : i = ds.length := by omega
    subst e1
    refine .inl ⟨g2, ?_⟩
    rw [List.drop_length, compD] at ef
    rw [← ef] at h1
    have h2 : Post ca X Hf1 H1 (jn Em R1) σ (.ok (.lst true acc) st') Q := h1
    obtain ⟨vs0, eD, rA, nA⟩ := p'.pend
    exact h2 Hf' H' (fun b => b = Dl ∨ A b) R' (.ref Dl) t' ((p'.unwipe).imp fun _ => .lstO (.inl rfl) eD (rA.mono fun b q => ⟨.inr q, fun z => nA (z ▸ q)⟩))

/-- a reading keeps a meaning -/
def CER (ca : Nat → Addr) (X : Cx) (te : TE) (m : ME) : Prop := ∀ (Hf H : Hp) (R : Nat → Rg) (σ : L2.St) (st : Sl) (Q : VK), PR ca X.K Hf H Em True R σ st → Post ca X Hf H (jn Em R) σ (m st) Q → te σ H Q
theorem ce_of {e : Expr} {te : TE} {m : ME} (hp : PE X e te) (h : CER ca X te m) : CE ca X e m := fun Hf H R σ st Q p hq => we_of hp (h Hf H R σ st Q p hq)
theorem cs_asgR {s : Stmt} {te : TE} {m : ME} {t : TG} {tg : Expr} {g : MG} (he : CER ca X te m) (hg : CG ca X L tg t g) (hp : PS X s (tAsg te t)) : CS ca X L s (sAsg m g) := fun Hf H R σ st E p h => by
  refine ws_of hp (he Hf H R σ st _ p ?_)
  refine post_toS h fun d st1 Hf1 H1 P1 R1 v e1 t1 p1 h1 => ?_
  refine hg.2 Hf1 H1 P1 R1 σ st1 v d _ p1 ?_
  cases eg : g d st1 with
  | fail => rw [eg] at h1; exact h1
  | exc x st2 => rw [eg] at h1; exact h1
  | ok a st2 =>
    rw [eg] at h1
    exact fun Hf2 H2 R2 σ2 t2 p2 k2 => h1 Hf2 H2 R2 σ2 t2 p2 k2
theorem not_but {n i : Nat} {w : List Nat} (h : i ∈ w) : i ∉ but n w := fun q => by
  have := (List.mem_filter.mp q).2
  simp at this
  exact this h
/-- the block of a comprehension -/
abbrev bk (X : Cx) (scope : Scope) (s : Shared) (H : Hp) (C : Addr) (cl : List (Str × Addr)) (fp : List Addr) : Cx := X.blk s H scope (compEnvC scope cl C X.env) fp
def TeB (X : Cx) (scope : Scope) (e : Expr) : TE := fun σ H Q => ∀ s H0 C cl fp, We (bk X scope s H0 C cl fp) e σ H Q
def TtB (X : Cx) (scope : Scope) (e : Expr) : TT := fun σ H Q => ∀ s H0 C cl fp, Wt (bk X scope s H0 C cl fp) e σ H Q
theorem lc_cer {wi : TI} {src : Sl → Res (List D)} {tg elt iter : Expr} {scope : Scope} {t : TG} {g : MG} {me : ME} {w : List Nat}
    (hi : CI ca X tg iter wi src) (hg : ∀ n s H C cl fp, CG ca (bk X scope s H C cl fp) (but n w) tg t g) (he : ∀ s H C cl fp, CE ca (bk X scope s H C cl fp) elt me) : CER ca X (tLc wi t tYes (TeB X scope elt) w) (eLc src g tYesM me w) :=
  fun Hf H R σ st Q p h => lc_read (elt := elt) (mt := tYesM) hi (fun Hf H P R σ st v d Q p h => (hg σ.length {} H 0 [] []).2 Hf H P R σ st v d Q p h) (fun Hf H R σ st Q p h => h Hf H R (Tr.refl fun _ q => q) p)
    (fun Hf H R σ st Q p h s H0 C cl fp => he s H0 C cl fp Hf H R σ st Q p (by
      cases e : me st with
      | ok d st1 => rw [e] at h; exact h
      | exc x st1 => rw [e] at h; exact h.elim
      | fail => rw [e] at h; exact h)) p h
theorem lc_cerIf {wi : TI} {src : Sl → Res (List D)} {tg elt iter c : Expr} {scope : Scope} {t : TG} {g : MG} {me : ME} {mt : MT} {w : List Nat}
    (hi : CI ca X tg iter wi src) (hg : ∀ n s H C cl fp, CG ca (bk X scope s H C cl fp) (but n w) tg t g) (ht : ∀ s H C cl fp, CT ca (bk X scope s H C cl fp) c mt) (he : ∀ s H C cl fp, CE ca (bk X scope s H C cl fp) elt me) : CER ca X (tLc wi t (TtB X scope c) (TeB X scope elt) w) (eLc src g mt me w) :=
  fun Hf H R σ st Q p h => lc_read (elt := elt) (mt := mt) hi (fun Hf H P R σ st v d Q p h => (hg σ.length {} H 0 [] []).2 Hf H P R σ st v d Q p h) (fun Hf H R σ st Q p h s H0 C cl fp => ht s H0 C cl fp Hf H R σ st Q p (by
      cases e : mt st with
      | ok d st1 => rw [e] at h; exact h
      | exc x st1 => rw [e] at h; exact h.elim
      | fail => rw [e] at h; exact h))
    (fun Hf H R σ st Q p h s H0 C cl fp => he s H0 C cl fp Hf H R σ st Q p (by
      cases e : me st with
      | ok d st1 => rw [e] at h; exact h
      | exc x st1 => rw [e] at h; exact h.elim
      | fail => rw [e] at h; exact h)) p h
theorem pe_teB {scope : Scope} {elt : Expr} : ∀ (s : Shared) (H : Hp) (C : Addr) (cl : List (Str × Addr)) (fp : List Addr), PE (bk X scope s H C cl fp) elt (TeB X scope elt) := fun s H C cl fp => ⟨fun pins s1 σ H1 Q I h => h s H C cl fp pins s1 I⟩
theorem pt_ttB {scope : Scope} {c : Expr} : ∀ (s : Shared) (H : Hp) (C : Addr) (cl : List (Str × Addr)) (fp : List Addr), PTs (bk X scope s H C cl fp) [c] (TtB X scope c) := fun s H C cl fp => pts_one ⟨fun pins s1 σ H1 Q I h => h s H C cl fp pins s1 I⟩
/-- [elt for tg in iter] -/
theorem ce_lc {wi : TI} {src : Sl → Res (List D)} {tg elt iter : Expr} {scope : Scope} {own : List (Str × Nat)} {pos : Pos} {t : TG} {g : MG} {me : ME} (hc : X.calm = true) (hN : X.N.Nodup) (hi : CI ca X tg iter wi src) (ok : BlkOk X.N X.env.scope scope own)
    (hg : ∀ n s H C cl fp, CG ca (bk X scope s H C cl fp) (but n (own.map (·.2))) tg t g) (he : ∀ s H C cl fp, CE ca (bk X scope s H C cl fp) elt me) (hs : ∀ x, foldedSetIterable iter X.env x = pure x := by intro _; rfl) :
    CE ca X (.ListComp elt [⟨tg, iter, [], 0⟩] scope pos) (eLc src g tYesM me (own.map (·.2))) :=
  ce_of (pe_lc hc hN hi.1 ok (fun s H C cl fp => (hg 0 s H C cl fp).1) (fun _ _ _ _ _ => pts_nil) pe_teB hs) (lc_cer hi hg he)
theorem ce_lcIf {wi : TI} {src : Sl → Res (List D)} {tg elt iter c : Expr} {scope : Scope} {own : List (Str × Nat)} {pos : Pos} {t : TG} {g : MG} {me : ME} {mt : MT} (hc : X.calm = true) (hN : X.N.Nodup) (hi : CI ca X tg iter wi src) (ok : BlkOk X.N X.env.scope scope own)
    (hg : ∀ n s H C cl fp, CG ca (bk X scope s H C cl fp) (but n (own.map (·.2))) tg t g) (ht : ∀ s H C cl fp, CT ca (bk X scope s H C cl fp) c mt) (he : ∀ s H C cl fp, CE ca (bk X scope s H C cl fp) elt me) (hs : ∀ x, foldedSetIterable iter X.env x = pure x := by intro _; rfl) :
    CE ca X (.ListComp elt [⟨tg, iter, [c], 0⟩] scope pos) (eLc src g mt me (own.map (·.2))) :=
  ce_of (pe_lc hc hN hi.1 ok (fun s H C cl fp => (hg 0 s H C cl fp).1) pt_ttB pe_teB hs) (lc_cerIf hi hg ht he)
/-- name = [elt for tg in iter] -/
theorem cs_setLc {i : Nat} {y : Str} {py spos : Pos} {wi : TI} {src : Sl → Res (List D)} {tg elt iter : Expr} {scope : Scope} {own : List (Str × Nat)} {pos : Pos} {t : TG} {g : MG} {me : ME} (hc : X.calm = true) (hN : X.N.Nodup) (hy : X.N[i]? = some y) (hyl : X.env.scope.names.lookup y = some .local) (hL : i ∉ L) (hpg : PG X (.Name y py) (gName i))
    (hsw : swapsWith (.ListComp elt [⟨tg, iter, [], 0⟩] scope pos) (some (.Name y py)) spos.line X.env = pure true) (hi : CI ca X tg iter wi src) (ok : BlkOk X.N X.env.scope scope own)
    (hg : ∀ n s H C cl fp, CG ca (bk X scope s H C cl fp) (but n (own.map (·.2))) tg t g) (he : ∀ s H C cl fp, CE ca (bk X scope s H C cl fp) elt me) (hs : ∀ x, foldedSetIterable iter X.env x = pure x := by intro _; rfl) :
    CS ca X L (.Assign [.Name y py] (.ListComp elt [⟨tg, iter, [], 0⟩] scope pos) spos) (sAsg (eLc src g tYesM me (own.map (·.2))) (gN i)) :=
  cs_asgR (lc_cer hi hg he) (cg_name hpg hL) (ps_setLc hc hN hy hyl hsw hi.1 ok (fun s H C cl fp => (hg 0 s H C cl fp).1) (fun _ _ _ _ _ => pts_nil) pe_teB hs)
theorem cs_setLcIf {i : Nat} {y : Str} {py spos : Pos} {wi : TI} {src : Sl → Res (List D)} {tg elt iter c : Expr} {scope : Scope} {own : List (Str × Nat)} {pos : Pos} {t : TG} {g : MG} {me : ME} {mt : MT} (hc : X.calm = true) (hN : X.N.Nodup) (hy : X.N[i]? = some y) (hyl : X.env.scope.names.lookup y = some .local) (hL : i ∉ L) (hpg : PG X (.Name y py) (gName i))
    (hsw : swapsWith (.ListComp elt [⟨tg, iter, [c], 0⟩] scope pos) (some (.Name y py)) spos.line X.env = pure true) (hi : CI ca X tg iter wi src) (ok : BlkOk X.N X.env.scope scope own)
    (hg : ∀ n s H C cl fp, CG ca (bk X scope s H C cl fp) (but n (own.map (·.2))) tg t g) (ht : ∀ s H C cl fp, CT ca (bk X scope s H C cl fp) c mt) (he : ∀ s H C cl fp, CE ca (bk X scope s H C cl fp) elt me) (hs : ∀ x, foldedSetIterable iter X.env x = pure x := by intro _; rfl) :
    CS ca X L (.Assign [.Name y py] (.ListComp elt [⟨tg, iter, [c], 0⟩] scope pos) spos) (sAsg (eLc src g mt me (own.map (·.2))) (gN i)) :=
  cs_asgR (lc_cerIf hi hg ht he) (cg_name hpg hL) (ps_setLc hc hN hy hyl hsw hi.1 ok (fun s H C cl fp => (hg 0 s H C cl fp).1) pt_ttB pe_teB hs)

/-! ### list(range(..)) -/
def rgOk (a b : Int) : Bool := decide (-(2 ^ 62) ≤ a ∧ a < 2 ^ 62 ∧ -(2 ^ 62) ≤ b ∧ b < 2 ^ 62 ∧ (b - a).toNat ≤ 16777216)
def oLRg : List D → Option Out
  | [.int i, .int j] => if rgOk i j then some (.newL (rangeD i (j - i).toNat)) else none
  | _ => none
def oLRg1 : List D → Option Out
  | [.int j] => if rgOk 0 j then some (.newL (rangeD 0 j.toNat)) else none
  | _ => none
def oLRgD : List D → Option Out
  | [.int i, .int j] => if small62 i && small62 j && decide ((i - j).toNat ≤ 16777216) then some (.newL (rangeC i (-1) (i - j).toNat)) else none
  | _ => none
theorem repL_rangeC {c : Int} : ∀ (n k : Nat) (lo : Int), RepL ca K Hf H Em ((List.range' k n).map fun i => V.int (lo + (i : Nat) * c)) ((List.range' k n).map fun i => D.int (lo + (i : Nat) * c))
  | 0, _, _ => .nil
  | n + 1, k, lo => by
    rw [List.range'_succ, List.map_cons, List.map_cons]
    exact .cons (S1 := Em) (S2 := Em) .int (repL_rangeC n (k + 1) lo) (fun _ q => q) (fun _ q => q) fun _ q _ => q
theorem repL_rangeD : ∀ (n k : Nat) (lo : Int), RepL ca K Hf H Em ((List.range' k n).map fun i => V.int (lo + (i : Nat))) ((List.range' k n).map fun i => D.int (lo + (i : Nat)))
  | 0, _, _ => .nil
  | n + 1, k, lo => by
    rw [List.range'_succ, List.map_cons, List.map_cons]
    exact .cons (S1 := Em) (S2 := Em) .int (repL_rangeD n (k + 1) lo) (fun _ q => q) (fun _ q => q) fun _ q _ => q
theorem rgOk_ok {a b : Int} (h : rgOk a b = true) : RgOk a b := by
  have := of_decide_eq_true h
  exact ⟨this.1, this.2.1, this.2.2.1, this.2.2.2.1, by have := this.2.2.2.2; omega⟩
theorem ce_listRg {a b : Expr} {oa ob : Opd} {p p2 pos pos2 : Pos} (hc : X.calm = true) (hg : Gl X "list") (hm : X.mg "list" = none) (hg2 : Gl X "range") (hm2 : X.mg "range" = none) (ha : CO ca X a oa) (hb : CO ca X b ob)
    (na : starEach [.Call (.Name "range" p2) [a, b] [] pos2] X.env = (false, eval (.Call (.Name "range" p2) [a, b] [] pos2) X.env) :: starEach [] X.env := by rfl)
    (n1 : starEach [a, b] X.env = (false, eval a X.env) :: starEach [b] X.env := by rfl) (n2 : starEach [b] X.env = (false, eval b X.env) :: starEach [] X.env := by rfl) (hp : (backTo pos2 (starEach [b] X.env)).any (·.1) = false := by rfl) :
    CE ca X (.Call (.Name "list" p) [.Call (.Name "range" p2) [a, b] [] pos2] [] pos) (eOp oLRg [oa, ob]) :=
  ce_op (es := [a, b]) (rl := rl2 fun x y H Q => ∃ i j, x = .int i ∧ y = .int j ∧ RgOk i j ∧ ∀ q, H q = none → Q (.ref q) (upd H q (.lst (rgV i j)))) (fun σ H Q h => we_of (pe_listRg hc hg hm (prg_2 hg2 hm2 (we_pe X a) (we_pe X b) n1 n2 hp) na) h) (.cons ha (.cons hb .nil)) fun Hf H vs ds o Q hx rd h q => by
    match ds, h with
    | [.int i, .int j], h =>
      dsimp only [oLRg] at h
      split at h
      · rename_i c
        cases h
        obtain ⟨v, w, S, S', e1, r1, r2⟩ := rdl2 rd rfl
        subst e1
        refine ⟨i, j, rep_int r1, rep_int r2, rgOk_ok c, fun p hp => q p _ hp ?_⟩
        unfold rgV rangeD
        rw [List.range_eq_range']
        exact repL_rangeD _ _ _
      · cases h
theorem ce_listRg1 {a : Expr} {oa : Opd} {p p2 pos pos2 : Pos} (hc : X.calm = true) (hg : Gl X "list") (hm : X.mg "list" = none) (hg2 : Gl X "range") (hm2 : X.mg "range" = none) (ha : CO ca X a oa)
    (na : starEach [.Call (.Name "range" p2) [a] [] pos2] X.env = (false, eval (.Call (.Name "range" p2) [a] [] pos2) X.env) :: starEach [] X.env := by rfl)
    (n1 : starEach [a] X.env = (false, eval a X.env) :: starEach [] X.env := by rfl) :
    CE ca X (.Call (.Name "list" p) [.Call (.Name "range" p2) [a] [] pos2] [] pos) (eOp oLRg1 [oa]) :=
  ce_op (es := [a]) (rl := rl1 fun y H Q => ∃ j, y = .int j ∧ RgOk 0 j ∧ ∀ q, H q = none → Q (.ref q) (upd H q (.lst (rgV 0 j)))) (fun σ H Q h => we_of (pe_listRg hc hg hm (prg_1 hg2 hm2 (we_pe X a) n1) na) h) (.cons ha .nil) fun Hf H vs ds o Q hx rd h q => by
    match ds, h with
    | [.int j], h =>
      dsimp only [oLRg1] at h
      split at h
      · rename_i c
        cases h
        obtain ⟨v, S, e1, r1⟩ := rdl1 rd rfl
        subst e1
        refine ⟨j, rep_int r1, rgOk_ok c, fun p hp => q p _ hp ?_⟩
        unfold rgV rangeD
        simp only [List.range_eq_range', Int.sub_zero]
        exact repL_rangeD _ _ _
      · cases h
/-- list(range(a, b, -1)) -/
theorem pe_listRg3 {a b c : Expr} {ta : TA} {p p2 pos pos2 : Pos} (hc : X.calm = true) (hg : Gl X "list") (hm : X.mg "list" = none) (hg2 : Gl X "range") (hm2 : X.mg "range" = none) (ha : PA X [a, b, c] ta)
    (na : starEach [.Call (.Name "range" p2) [a, b, c] [] pos2] X.env = (false, eval (.Call (.Name "range" p2) [a, b, c] [] pos2) X.env) :: starEach [] X.env := by rfl)
    (hs : starEach [a, b, c] X.env = (false, eval a X.env) :: starEach [b, c] X.env := by rfl) (hpl : (backTo pos2 (starEach [b, c] X.env)).any (·.1) = false := by rfl) :
    PE X (.Call (.Name "list" p) [.Call (.Name "range" p2) [a, b, c] [] pos2] [] pos) (fun σ H Q => ta σ H fun vs H1 => ∃ (i j k : Int) (n : Nat), vs = [.int i, .int j, .int k] ∧ RgC i j k n ∧ n ≤ 16777216 ∧ ∀ q, H1 q = none → Q (.ref q) (upd H1 q (.lst ((List.range n).map fun m => V.int (i + (m : Nat) * k))))) := by
  refine ⟨fun pins
      s σ H Q I h => ?_⟩
  refine Call_ (ld_blt I hg hm boot_list (PyProof.Rows.callWith_type1 (args_cons (thn (Q := fun x s1 => ∃ (r : Addr) (i j k : Int) (n : Nat) (t u v : Tok) (H1 : Hp), x = .ref r ∧ IsRange s1.heap r i j k t u v ∧ Inv X pins σ H1 s1 ∧ RgC i j k n ∧ n ≤ 16777216 ∧ ∀ q, H1 q = none → Q (.ref q) (upd H1 q (.lst ((List.range n).map fun m => V.int (i + (m : Nat) * k))))) ?_ fun x s1 ⟨r, i, j, k, n, t, u, v, H1, ex, hr, I1, ok, hn, q⟩ => args_nil ?_) na) na))
  · refine Call_ (ld_blt I hg2 hm2 boot_range (PyProof.Rows.callWith_type1 (thn (ha.run pos2 pins s σ H _ I h) fun us s1 ⟨vs, H1, I1, r1, q1⟩ => ?_) hs hpl))
    obtain ⟨i, j, k, n, e, hC, hn, q⟩ := q1
    subst e
    cases r1 with
    | cons r rr =>
      cases rr with
      | cons r' rr =>
        cases rr with
        | cons r'' rr =>
          cases rr
          obtain ⟨t, rfl⟩ := r
          obtain ⟨t', rfl⟩ := r'
          obtain ⟨t'', rfl⟩ := r''
          refine call_range_3 hC.1 ?_ (.inl (PyProof.noPylong_small hC.2.1))
          exact ⟨_, i, j, k, n, t, t', t'', H1, rfl, IsRange.new .., I1.kept fun b o e => Heap.get?_push_of_some _ e, hC, hn, q⟩
  · subst ex
    refine call_list_range (n := n) (I1.ok.hd hc) hr ok.2.2.1 ok.2.2.2 hn fun h' tk acc c' hk e' hi => ?_
    have hv : Vals ((List.range n).map fun m => V.int (i + (m : Nat) * k)) acc.toList := by
      have e : acc.toList.length = n := by rw [Array.length_toList]; exact hi.1
      rw [← e]
      refine vals_of_get acc.toList _ fun j u hj
          => ?_
      obtain ⟨t, rfl⟩ := hi.2 j u (by rw [← hj, Array.getElem?_toList])
      exact ⟨t, rfl⟩
    refine ⟨.ref s1.heap.objs.size, upd H1 s1.heap.objs.size (.lst _), I1.laid hk (Nat.le_refl _) (show ObjOk X.prog X.w _ _ _ (.lst _) from ⟨?_, acc.toList, c', hv, ?_⟩), rfl, q _ (I1.hok.fresh (Nat.le_refl _))⟩
    · rw [List.length_map, List.length_range, ← sz_eq]; exact hn
    · rw [Array.toArray_toList]
      exact e'
theorem ce_listRgD {a b : Expr} {oa ob : Opd} {p p2 pos pos2 p3 p4 : Pos} {j1 : Nat} (hc : X.calm = true) (hg : Gl X "list") (hm : X.mg "list" = none) (hg2 : Gl X "range") (hm2 : X.mg "range" = none) (ha : CO ca X a oa) (hb : CO ca X b ob) (hst : NoStar [a, b, .UnaryOp .USub (.Constant (.int 1) j1 p3) p4] := by exact ⟨fun _ => rfl, fun _ => rfl, fun _ => rfl, trivial⟩)
    (na : starEach [.Call (.Name "range" p2) [a, b, .UnaryOp .USub (.Constant (.int 1) j1 p3) p4] [] pos2] X.env = (false, eval (.Call (.Name "range" p2) [a, b, .UnaryOp .USub (.Constant (.int 1) j1 p3) p4] [] pos2) X.env) :: starEach [] X.env := by rfl)
    (hpl : (backTo pos2 (starEach [b, .UnaryOp .USub (.Constant (.int 1) j1 p3) p4] X.env)).any (·.1) = false := by rfl) :
    CE ca X (.Call (.Name "list" p) [.Call (.Name "range" p2) [a, b, .UnaryOp .USub (.Constant (.int 1) j1 p3) p4] [] pos2] [] pos) (eOp oLRgD [oa, ob]) :=
  ce_op (es := [a, b]) (rl := rl2 fun x y H Q => ∃ i j, x = .int i ∧ y = .int j ∧ RgC i j (-1) (i - j).toNat ∧ (i - j).toNat ≤ 16777216 ∧ ∀ q, H q = none → Q (.ref q) (upd H q (.lst ((List.range (i - j).toNat).map fun m => V.int (i + (m : Nat) * (-1)))))) (fun σ H Q h => we_of (pe_listRg3 hc hg hm hg2 hm2 (wa_pa X _) na (hst.1 _) hpl) (wa_wl (fun e' r' q => noStar_suf hst e' r' q _)
    (fun pins s I => thn (h pins s I) fun u s1 ⟨x, H1, I1, r1, q1⟩ => ⟨x, H1, I1, r1, fun pins s I => thn (q1 pins s I) fun u s1 ⟨y, H2, I2, r2, ⟨i, j, e1, e2, q2⟩⟩ => ⟨y, H2, I2, r2, we_of (pe_un un_neg pe_int) ⟨1, rfl, i, j, -1, _, by rw [e1, e2], q2⟩⟩⟩))) (.cons ha (.cons hb .nil)) fun Hf H vs ds o Q hx rd h q => by
    match ds, h with
    | [.int i, .int j], h =>
      dsimp only [oLRgD] at h
      split at h
      · rename_i c
        rw [Bool.and_eq_true, Bool.and_eq_true, decide_eq_true_eq] at c
        cases h
        obtain ⟨v, w, S, S', e1, r1, r2⟩ := rdl2 rd rfl
        subst e1
        have h3 := small62_ok c.1.1
        have h4 := small62_ok c.1.2
        refine ⟨i, j, rep_int r1, rep_int r2, RgC.neg h3.1 h3.2 h4.1 h4.2, c.2, fun p hp => q p _ hp ?_⟩
        unfold rangeC
        rw [List.range_eq_range']
        exact repL_rangeC _ _ _
      · cases h
end
end DL

/-! DL10: slices; methods of lists; is of truth values. -/
namespace DL
open PySem L2 PyProof.Rows

def cutO (lo hi : Option Int) : List D → Option Out
  | [x] => match lstItems x with
    | some xs => newLc (cutD xs lo hi)
    | none => none
  | _ => none
def oSl00 : List D → Option Out := cutO none none
def oSl10 : List D → Option Out
  | [x, .int a] => cutO (some a) none [x]
  | _ => none
def oSl01 : List D → Option Out
  | [x, .int b] => cutO none (some b) [x]
  | _ => none
def oRev : List D → Option Out
  | [x] => match lstItems x with
    | some xs => newLc xs.reverse
    | none => none
  | _ => none
def oIsB : List D → Option Out
  | [.bl a, .bl b] => some (.val (.bl (decide (a = b))))
  | _ => none
def oNotB : List D → Option Out
  | [.bl a, .bl b] => some (.val (.bl (!decide (a = b))))
  | _ => none
/-- the place of the first equal item -/
def findD (y : D) : List D → Nat → Option Nat
  | [], _ => none
  | d :: ds, n => if eqF d y then some n else findD y ds (n + 1)
def oIndex : List D → Option Out
  | [x, y] => match lstItems x with
    | some xs => if flat y && xs.all flat then (findD y xs 0).map fun n => .val (.int (n : Nat)) else none
    | none => none
  | _ => none
def isLst (d : D) : Bool := (lstItems d).isSome
/-- a method that only looks: the receiver a slot -/
def eMt (i : Nat) (f : List D → Option Out) (os : List Opd) : ME := fun st => match getS st i with
  | some d0 => if isLst d0 then opds os st fun gs st2 => (match (getS st2 i).bind fun x => (gs st2).bind fun ys => f (x :: ys) with
    | some o => .ok o.d st2
    | none => .fail) else .fail
  | none => .fail
/-- xs.append(e), xs the slot i's own list -/
def eApp (i : Nat) (m : ME) : ME := fun st => match getS st i with
  | some d0 => if isLst d0 then (m st).bind fun d st1 => (match getS st1 i with
    | some (.lst true xs) => if xs.length < 16777216 then .ok .non (st1.set i (some (.lst true (xs ++ [d])))) else .fail
    | _ => .fail) else .fail
  | none => .fail
def ext2 : Option D → D → Option (List D)
  | some (.lst true xs), .lst _ ys => if colds ys && decide (xs.length + ys.length ≤ 16777216) then some (xs ++ ys) else none
  | _, _ => none
theorem ext2_some {o : Option D} {d : D} {zs : List D} (h : ext2 o d = some zs) : ∃ xs w ys, o = some (.lst true xs) ∧ d = .lst w ys ∧ colds ys = true ∧ xs.length + ys.length ≤ 16777216 ∧ zs = xs ++ ys := by
  unfold ext2 at h
  split at h
  · split at h
    · rename_i c
      rw [Bool.and_eq_true, decide_eq_true_eq] at c
      cases h
      exact ⟨_, _, _, rfl, rfl, c.1, c.2, rfl⟩
    · cases h
  · cases h
/-- xs.extend(e) -/
def eExt (i : Nat) (m : ME) : ME := fun st => match getS st i with
  | some d0 => if isLst d0 then (m st).bind fun d st1 => (match ext2 (getS st1 i) d with
    | some zs => .ok .non (st1.set i (some (.lst true zs)))
    | none => .fail) else .fail
  | none => .fail
/-- xs[a:b], xs at the slot i -/
def eSl11 (i : Nat) (ma mb : ME) : ME := fun st => if (getS st i).isSome then (ma st).bind fun a st2 => (match a with
  | .int x => (mb st2).bind fun b st3 => (match b with
    | .int y => (match (getS st3 i).bind fun d => cutO (some x) (some y) [d] with
      | some o => .ok o.d st3
      | none => .fail)
    | _ => .fail)
  | _ => .fail) else .fail
/-- xs.clear(), xs.reverse() -/
def eMut0 (i : Nat) (f : List D → List D) : ME := fun st => match getS st i with
  | some (.lst true xs) => .ok .non (st.set i (some (.lst true (f xs))))
  | _ => .fail
/-- xs.pop() -/
def ePop (i : Nat) : ME := fun st => match getS st i with
  | some (.lst true xs) => match xs.getLast? with
    | some d => if cold d then .ok d (st.set i (some (.lst true xs.dropLast))) else .fail
    | none => .fail
  | _ => .fail

section
variable {ca : Nat → Addr} {K : PySem.W.Frag} {Hf H Hf1 H1 Hf2 H2 : Hp} {S S1 S2 P P1 P2 : Rg} {R R1 R2 : Nat → Rg} {pp qq : Prop} {σ σ' : L2.St} {st st' : Sl} {v : V} {d : D} {vs : List V} {ds xs : List D} {X : Cx} {L : List Nat}

/-! ### slices of lists -/
theorem repL_cut {lo hi : Option Int} (r : RepL ca K Hf H S vs xs) (hc : colds (cutD xs lo hi) = true) : RepL ca K Hf H Em (cutV vs lo hi) (cutD xs lo hi) := by
  have rd : ∀ (n : Nat) {S : Rg} {vs : List V} {xs : List D}, RepL ca K Hf H S vs xs → RepL ca K Hf H S (vs.drop n) (xs.drop n) := by
    intro n
    induction n with
    | zero => intro S vs xs r; exact r
    | succ n ih =>
      intro S vs xs r
      cases r with
      | nil => exact .nil
      | cons r1 r2 h1 h2 h3 => exact (ih r2).mono h2
  have rt : ∀ (n : Nat) {S : Rg} {vs : List V} {xs : List D}, RepL ca K Hf H S vs xs → RepL ca K Hf H S (vs.take n) (xs.take n) := by
    intro n
    induction n with
    | zero => intro S vs xs r; exact .nil
    | succ n ih =>
      intro S vs xs r
      cases r with
      | nil => exact .nil
      | cons r1 r2 h1 h2 h3 => exact .cons r1 (ih r2) h1 h2 h3
  refine repL_cold (S := S) ?_ hc
  unfold cutV cutD
  rw [r.length]
  exact rt _ (rd _ r)
theorem os_cut {lo hi : Option Int} {x : D} {o : Out} {Q : VK} (hx : Ex Hf H) (r1 : Rep ca K Hf H S v x) (h : cutO lo hi [x] = some o) (q : OutQ ca K Hf H o Q) : rSlL K v lo hi H Q := by
  dsimp only [cutO] at h
  split at h
  · rename_i xs ei
    obtain ⟨rfl, hc, hl⟩ := newLc_some h
    obtain ⟨a, vs, T, rfl, e2, r3⟩ := rep_lstItems hx r1 ei
    exact ⟨a, vs, rfl, e2, fun p hp => q p _ hp (repL_cut r3 hc)⟩
  · cases h
theorem ce_sl00 {e : Expr} {oe : Opd} {p2 pos : Pos} (he : CO ca X e oe) : CE ca X (.Subscript e (.Slice none none none p2) pos) (eOp oSl00 [oe]) :=
  ce_op (es := [e]) (rl := rl1 fun x H Q => rSlL X.K x none none H Q) (fun σ H Q h => we_of (pe_slice sl_list (we_pe X e) po_none po_none) h) (.cons he .nil) fun Hf H vs ds o Q hx rd h q => by
    match ds, h with
    | [x], h =>
      obtain ⟨v, S, e1, r1⟩ := rdl1 rd rfl
      subst e1
      exact os_cut hx r1 h q
theorem ce_sl10 {e a : Expr} {oe oa : Opd} {p2 pos : Pos} (he : CO ca X e oe) (ha : CO ca X a oa) : CE ca X (.Subscript e (.Slice (some a) none none p2) pos) (eOp oSl10 [oe, oa]) :=
  ce_op (es := [e, a]) (rl := rl2 fun x y H Q => ∃ i, y = .int i ∧ rSlL X.K x (some i) none H Q) (fun σ H Q h => we_of (pe_slice sl_list (we_pe X e) (po_some (we_pe X a)) po_none) h) (.cons he (.cons ha .nil)) fun Hf H vs ds o Q hx rd h q => by
    match ds, h with
    | [x, .int i], h =>
      obtain ⟨v, w, S, S', e1, r1, r2⟩ := rdl2 rd rfl
      subst e1
      exact ⟨i, rep_int r2, os_cut hx r1 h q⟩
theorem ce_sl01 {e a : Expr} {oe oa : Opd} {p2 pos : Pos} (he : CO ca X e oe) (ha : CO ca X a oa) : CE ca X (.Subscript e (.Slice none (some a) none p2) pos) (eOp oSl01 [oe, oa]) :=
  ce_op (es := [e, a]) (rl := rl2 fun x y H Q => ∃ i, y = .int i ∧ rSlL X.K x none (some i) H Q) (fun σ H Q h => we_of (pe_slice sl_list (we_pe X e) po_none (po_some (we_pe X a))) h) (.cons he (.cons ha .nil)) fun Hf H vs ds o Q hx rd h q => by
    match ds, h with
    | [x, .int i], h =>
      obtain ⟨v, w, S, S', e1, r1, r2⟩ := rdl2 rd rfl
      subst e1
      exact ⟨i, rep_int r2, os_cut hx r1 h q⟩
theorem ce_sl11 {e a b : Expr} {i : Nat} {ma mb : ME} {p2 pos : Pos} (he : PE X e (tVar i)) (ha : CE ca X a ma) (hb : CE ca X b mb) : CE ca X (.Subscript e (.Slice (some a) (some b) none p2) pos) (eSl11 i ma mb) := fun Hf H R σ st Q p h => by
  refine we_of (pe_slice sl_list he (po_some (we_pe X a)) (po_some (we_pe X b))) ?_
  unfold eSl11 at h
  cases g : getS st i with
  | none => rw [g] at h; exact h.elim
  | some d0 =>
    rw [g] at h
    obtain ⟨x, ex, rx⟩ := p.at_ i d0 g
    refine ⟨x, ex, ha Hf H R σ st _ p ?_⟩
    have h0 : Post ca X Hf H (jn Em R) σ ((ma st).bind fun a st2 => (match a with
      | .int x => (mb st2).bind fun b st3 => (match b with
        | .int y => (match (getS st3 i).bind fun d => cutO (some x) (some y) [d] with
          | some o => .ok o.d st3
          | none => .fail)
        | _ => .fail)
      | _ => .fail)) Q := h
    clear h
    cases em : ma st with
    | fail => rw [em] at h0; exact h0
    | exc x0 st1 => rw [em] at h0; exact h0
    | ok d1 st1 =>
      rw [em] at h0
      intro Hf1 H1 P1 R1 v1 t1 p1
      cases d1 with
      | int k =>
        refine ⟨k, rep_int p1.pend, hb Hf1 H1 R1 σ st1 _ p1.drop ?_⟩
        have h1 : Post ca X Hf1 H1 (jn Em R1) σ ((mb st1).bind fun b st3 => (match b with
          | .int y => (match (getS st3 i).bind fun d => cutO (some k) (some y) [d] with
            | some o => .ok o.d st3
            | none => .fail)
          | _ => .fail)) Q := Post.from (less0 t1) h0
        clear h0
        cases eb : mb st1 with
        | fail => rw [eb] at h1; exact h1
        | exc x0 st2 => rw [eb] at h1; exact h1
        | ok d2 st2 =>
          rw [eb] at h1
          intro Hf2 H2 P2 R2 v2 t2 p2
          cases d2 with
          | int m =>
            refine ⟨m, rep_int p2.pend, ?_⟩
            have h2 : Post ca X Hf2 H2 (jn Em R2) σ (match (getS st2 i).bind fun d => cutO (some k) (some m) [d] with
              | some o => .ok o.d st2
              | none => .fail) Q := Post.from (less0 t2) h1
            clear h1
            cases g2 : getS st2 i with
            | none => rw [g2] at h2; exact h2.elim
            | some dx =>
              rw [g2] at h2
              obtain ⟨x2, ex2, rx2⟩ := p2.at_ i dx g2
              rw [ex] at ex2
              cases ex2
              cases g3 : cutO (some k) (some m) [dx] with
              | none => simp only [Option.bind_some, g3] at h2; exact h2.elim
              | some o =>
                simp only [Option.bind_some, g3] at h2
                exact os_cut p2.w.ex rx2 g3 (outQ_of p2 h2 fun b q => .inr q)
          | _ => exact h1.elim
      | _ => exact h0.elim
/-- xs[::-1] -/
theorem repL_rev (r : RepL ca K Hf H Em vs xs) : RepL ca K Hf H Em vs.reverse xs.reverse := by
  induction xs generalizing vs with
  | nil => cases r; exact .nil
  | cons d ds ih =>
    cases r with
    | cons r1 r2 h1 h2 h3 =>
      rw [List.reverse_cons,
          List.reverse_cons]
      exact repL_app' (S1 := Em) (S2 := Em) (ih (r2.mono h2)) (RepL.one (r1.mono h1)) (fun _ q => q) (fun _ q => q) fun _ q _ => q
theorem colds_rev (h : colds xs.reverse = true) : colds xs = true := by
  unfold colds at h ⊢
  rw [List.all_reverse] at h; exact h
theorem ce_rev {e : Expr} {oe : Opd} {k : Nat} {p1 p2 p3 pos : Pos} (he : CO ca X e oe) : CE ca X (.Subscript e (.Slice none none (some (.UnaryOp .USub (.Constant (.int 1) k p1) p2)) p3) pos) (eOp oRev [oe]) :=
  ce_op (es := [e]) (rl := rl1 fun x H Q => ∃ a xs, x = .ref a ∧ SqL X.K H a xs ∧ ∀ p, H p = none → Q (.ref p) (upd H p (.lst xs.reverse))) (fun σ H Q h => we_of (pe_revL (we_pe X e)) h) (.cons he .nil) fun Hf H vs ds o Q hx rd h q => by
    match ds, h with
    | [x], h =>
      dsimp only [oRev] at h
      split at h
      · rename_i xs ei
        obtain ⟨rfl, hc, hl⟩ := newLc_some h
        obtain ⟨v, S, e1, r1⟩ := rdl1 rd rfl
        subst e1
        obtain ⟨a, vs, T, rfl, e2, r3⟩ := rep_lstItems hx r1 ei
        exact ⟨a, vs, rfl, e2, fun p hp => q p _ hp (repL_rev (repL_cold r3 (colds_rev hc)))⟩
      · cases h
theorem os_isB : OpS ca K (rl2 rIsB) oIsB := fun Hf H vs ds o Q hx rd h q => by
  match ds, h with
  | [.bl i, .bl j], h =>
    cases h
    obtain ⟨v, w, S, S', e1, r1, r2⟩ := rdl2 rd rfl
    subst e1
    exact ⟨i, j, rep_bl r1, rep_bl r2, q _ .bl⟩
theorem os_notB : OpS ca K (rl2 rNotB) oNotB := fun Hf H vs ds o Q hx rd h q => by
  match ds, h with
  | [.bl i, .bl j], h =>
    cases h
    obtain ⟨v, w, S, S', e1, r1, r2⟩ := rdl2 rd rfl
    subst e1
    exact ⟨i, j, rep_bl r1, rep_bl r2, q _ .bl⟩
/-! ### methods that look -/
theorem rep_isLst (hx : Ex Hf H) (r : Rep ca K Hf H S v d) (h : isLst d = true) : tyV K "list" v H := by
  obtain ⟨xs, e⟩ := Option.isSome_iff_exists.mp h
  obtain ⟨a, vs, T, rfl, e2, r3⟩ := rep_lstItems hx r e
  exact .inl ⟨rfl, vs, e2⟩
theorem ce_mt {o : Expr} {i : Nat} {name : Str} {apos cpos : Pos} {id : String} {r : V → List V → Hp → VK → Prop} {e : Expr} {es : List Expr} {os : List Opd} {f : List D → Option Out} (slot : Slot "list" name id) (hty : typeOf (.builtin id) = pure (.type "method_descriptor")) (hm : MtR X id r)
    (ho : PE X o (tVar i)) (hs : OpS ca X.K (fun vs H Q => match vs with | x :: xs => r x xs H Q | [] => False) f) (ha : COs ca X (e :: es) os) (hst : NoStar (e :: es))
    (hbase : attributeBase o name X.env
        (eval o X.env) = eval o X.env := by rfl)
    (hfew : ((backTo cpos (starEach (e :: es) X.env)).all (fun x => !x.1)
        && (backToKw cpos (keywordEach [] X.env)).all (fun x => x.1.isSome)
      && decide ((e :: es).length + ([] : List Keyword).length + (if ([]
          : List Keyword).isEmpty then 0 else 1) < 30)) = true := by rfl)
    (hline : (apos.endLine == cpos.line) = true := by rfl) (hplain : (backTo cpos (starEach es X.env)).any (·.1) = false := by rfl) :
    CE ca X (.Call (.Attribute o name apos) (e :: es) [] cpos) (eMt i f os) := fun Hf H R σ st Q p h => by
  refine we_of (pe_bm PySem.F.plainAttrs_list slot hty hm ho (wa_pa X (e :: es)) hbase hfew hline (hst.1 _) hplain) ?_
  unfold eMt at h
  cases g : getS st i with
  | none => rw [g] at h; exact h.elim
  | some d0 =>
    rw [g] at h
    dsimp only at h
    by_cases hl : isLst d0 = true
    · rw [if_pos hl] at h
      obtain ⟨x, ex, rx⟩ := p.at_ i d0 g
      refine ⟨x, ex, rep_isLst p.w.ex rx hl, wa_wl (fun e' r' q => noStar_suf hst e' r' q _) (ops_sound ha p h fun gs st2 Hf2 H2 R2 vs t2 p2 hr hk => ?_)⟩
      cases g2 : getS st2 i with
      | none => simp only [g2] at hk; exact hk.elim
      | some dx =>
        cases g3 : gs st2 with
        | none => simp only [g2, g3] at hk; exact hk.elim
        | some ys =>
          simp only [g2, g3, Option.bind_some] at hk
          cases g4 : f (dx :: ys) with
          | none => simp only [g4] at hk; exact hk.elim
          | some o =>
            simp only [g4] at hk
            obtain ⟨x2, ex2, rx2⟩ := p2.at_ i dx g2
            rw [ex] at ex2
            cases ex2
            exact hs Hf2 H2 (x :: vs) (dx :: ys) o Q p2.w.ex (.cons rx2 (hr ys g3)) g4 (outQ_of p2 hk fun b q => .inr q)
    · rw [if_neg hl] at h; exact h.elim
theorem findD_ok {y : D} {w : V} (rw' : Rep ca K Hf H S1 w y) (hy : flat y = true) : ∀ {xs : List D} {vs : List V} {S : Rg} {n m : Nat}, RepL ca K Hf H S vs xs → xs.all flat = true → findD y xs n = some m → n ≤ m ∧ ∃ z, vs[m - n]? = some z ∧ eqV z w = true ∧ ∀ (k : Nat) (z' : V), k < m - n → vs[k]? = some z' → eqV z' w = false
  | [], _, _, _, _, _, _, h => by cases h
  | d :: ds, _, _, n, m, .cons r1 r2 _ _ _, hf, h => by
    rw [List.all_cons,
        Bool.and_eq_true] at hf
    rw [findD] at h
    have e1 := rep_eqF r1 rw' hf.1 hy
    split at h
    · rename_i c
      cases h
      exact ⟨Nat.le_refl _, _, by rw [Nat.sub_self]; rfl, by rw [e1]; exact c, fun k z' hk => by omega⟩
    · rename_i c
      obtain ⟨h1, z, h2, h3, h4⟩ := findD_ok rw' hy r2 hf.2 h
      refine ⟨by omega, z, ?_, h3, fun k z' hk e => ?_⟩
      · rw [show m - n = (m - (n + 1)) + 1 by omega]; simpa using h2
      · cases k with
        | zero => simp at e; subst e; rw [e1]; simpa using c
        | succ k => exact h4 k z' (by omega) (by simpa using e)
theorem os_index : OpS ca K (fun vs H Q => match vs with | x :: xs => rIndex K x xs H Q | [] => False) oIndex := fun Hf H vs ds o Q hx rd h q => by
  match ds, h with
  | [x, y], h =>
    dsimp only [oIndex] at h
    split at h
    · rename_i xs ei
      split at h
      · rename_i c
        rw [Bool.and_eq_true] at c
        cases ef : findD y xs 0 with
        | none => rw [ef] at h; cases h
        | some n =>
          rw [ef] at h
          cases h
          obtain ⟨v, w, S, S', e1, r1, r2⟩ := rdl2 rd rfl
          subst e1
          obtain ⟨a, vs, T, rfl, e2, r3⟩ := rep_lstItems hx r1 ei
          obtain ⟨_, z, h2, h3, h4⟩ := findD_ok r2 c.1 r3 c.2 ef
          exact ⟨a, vs, w, n, z, rfl, rfl, e2, rep_flat r2 c.1, repL_flat r3 c.2, h2, h3, fun m z' hm e => h4 m z' hm e, q _ .int⟩
      · cases h
    · cases h
/-! ### methods that write -/
theorem ce_app {o e : Expr} {i : Nat} {m : ME} {apos cpos : Pos} (ho : PE X o (tVar i)) (he : CE ca X e m)
    (hbase : attributeBase o "append" X.env (eval o X.env) = eval o X.env := by rfl)
    (hfew : ((backTo cpos (starEach [e] X.env)).all (fun x => !x.1) &&
        (backToKw cpos (keywordEach [] X.env)).all (fun x => x.1.isSome)
      && decide ([e].length + ([] : List Keyword).length + (if ([] : List Keyword).isEmpty then 0 else 1) < 30)) = true := by rfl)
    (hline : (apos.endLine == cpos.line) = true := by rfl) (hs : starEach [e] X.env = (false, eval e X.env) :: starEach [] X.env := by rfl) :
    CE ca X (.Call (.Attribute o "append" apos) [e] [] cpos) (eApp i m) := fun Hf H R σ st Q p h => by
  refine we_of (pe_bm PySem.F.plainAttrs_list PySem.F.slot_list_append PySem.F.type_list_append mt_append ho (pa_cons (we_pe X e) pa_nil hs) hbase hfew hline hs rfl) ?_
  unfold eApp at h
  cases g : getS st i with
  | none => rw [g] at h; exact h.elim
  | some d0 =>
    rw [g] at h
    dsimp only at h
    by_cases hl : isLst d0 = true
    · rw [if_pos hl] at h
      obtain ⟨x, ex, rx⟩ := p.at_ i d0 g
      refine ⟨x, ex, rep_isLst p.w.ex rx hl, he Hf H R σ st _ p ?_⟩
      cases em : m st with
      | fail => rw [em] at h; exact h
      | exc x0 st1 => rw [em] at h; exact h
      | ok d st1 =>
        rw [em] at h
        have h0 : Post ca X Hf H (jn Em R) σ (match getS st1 i with
          | some (.lst true xs) => if xs.length < 16777216 then .ok .non (st1.set i (some (.lst true (xs ++ [d])))) else .fail
          | _ => .fail) Q := h
        clear h
        intro Hf1 H1 P1 R1 v t1 p1
        cases g1 : getS st1 i with
        | none => rw [g1] at h0; exact h0.elim
        | some dx =>
          rw [g1] at h0
          cases dx with
          | lst ow xs =>
            cases ow with
            | false => exact h0.elim
            | true =>
              dsimp only at h0
              by_cases hz : xs.length < 16777216
              · rw [if_pos hz] at h0
                obtain ⟨a, vs, e1, ra, e2, r2⟩ := p1.drop.ownList g1
                rw [ex] at e1
                cases e1
                refine ⟨a, vs, v, rfl, rfl, e2, by rw [r2.length, ← sz_eq]; exact hz, ?_⟩
                have hk : ∀ b o, b ≠ a → H1 b = some o → upd H1 a (.lst (vs ++ [v])) b = some o := fun b o n e => by rw [upd_ne n]; exact e
                have hPa : ∀ b, P1 b → b ≠ a := fun b q z => by subst z; exact p1.dp i b q ra
                have rN := (repL_snoc r2 p1.pend fun b q1 q2 => p1.dp i b q2 q1.1).keep (H' := upd H1 a (.lst (vs ++ [v]))) (fun _ _ e => e) fun b q o e => hk b o (q.elim (fun q => q.2) (hPa b)) e
                refine h0 Hf1 (upd H1 a (.lst (vs ++ [v]))) Em (fun j b => if j = i then R1 i b ∨ P1 b else R1 j b) .non (t1.trans ⟨fun _ _ e => e, fun b o e n => hk b o (fun z => n (.inr ⟨i, z ▸ ra⟩)) e, fun b q => ?_, fun _ _ e => .inl e⟩) ⟨.non, by rw [List.length_set]; exact p1.len, fun j d' e => ?_, fun j k b q1 q2 => ?_, fun _ _ q => q.elim, ⟨fun b o e => ?_, fun b q => ?_, fun b q => ?_⟩⟩
                · rcases q with q | ⟨j, q⟩
                  · exact q.elim
                  · split at q
                    · exact .inl (q.elim (fun q => .inr ⟨i, q⟩) .inl)
                    · exact .inl (.inr ⟨j, q⟩)
                · rcases set_get e with ⟨q1, q2⟩ | ⟨q1, q2⟩
                  · subst q1
                    cases q2
                    refine ⟨_, ex, ?_⟩
                    rw [show (fun b => if i = i then R1 i b ∨ P1 b else R1 i b) = (fun b => R1 i b ∨ P1 b) from by funext b; rw [if_pos rfl]]
                    exact .lstO (.inl ra) upd_same (rN.mono fun b q => q.elim (fun q => ⟨.inl q.1, q.2⟩) fun q => ⟨.inr q, hPa b q⟩)
                  · obtain ⟨v', e3, r3⟩ := p1.at_ j d' q2
                    refine ⟨v', e3, ?_⟩
                    rw [show (fun b => if j = i then R1 i b ∨ P1 b else R1 j b) = R1 j from by funext b; rw [if_neg (Ne.symm q1)]]
                    exact r3.keep (fun _ _ e => e) fun b q o e => hk b o (fun z => q1 (p1.dj i j a ra (z ▸ q))) e
                · split at q1 <;> split at q2
                  · rename_i z1 z2; exact z1.trans z2.symm
                  · rename_i z1 z2
                    rcases q1 with q1 | q1
                    · exact z1.trans (p1.dj i k b q1 q2)
                    · exact (p1.dp k b q1 q2).elim
                  · rename_i z1 z2
                    rcases q2 with q2 | q2
                    · exact (p1.dj j i b q1 q2).trans z2.symm
                    · exact (p1.dp j b q2 q1).elim
                  · exact p1.dj j k b q1 q2
                · have hf : Hf1 a = none := p1.w.nf a (.inr ⟨i, ra⟩)
                  have := p1.w.ex b o e
                  exact hk b o (fun z => by subst z; rw [hf] at e; cases e) this
                · have : jn P1 R1 b := by
                    rcases q with q | ⟨j, q⟩
                    · exact q.elim
                    · split at q
                      · exact q.elim (fun q => .inr ⟨i, q⟩) .inl
                      · exact .inr ⟨j, q⟩
                  obtain ⟨o, e⟩ := p1.w.dm b this
                  by_cases z : b = a
                  · subst z; exact ⟨_, upd_same⟩
                  · exact ⟨o, hk b o z e⟩
                · have : jn P1 R1 b := by
                    rcases q with q | ⟨j, q⟩
                    · exact q.elim
                    · split at q
                      · exact q.elim (fun q => .inr ⟨i, q⟩) .inl
                      · exact .inr ⟨j, q⟩
                  exact p1.w.nf b this
              · rw [if_neg hz] at h0; exact h0.elim
          | _ => exact h0.elim
    · rw [if_neg hl] at h; exact h.elim
theorem ce_ext {o e : Expr} {i : Nat} {m : ME} {apos cpos : Pos} (ho : PE X o (tVar i)) (he : CE ca X e m)
    (hbase : attributeBase o "extend" X.env (eval o X.env) = eval o X.env := by rfl)
    (hfew : ((backTo cpos (starEach [e] X.env)).all (fun x => !x.1) &&
        (backToKw cpos (keywordEach [] X.env)).all (fun x => x.1.isSome)
      && decide ([e].length + ([] : List Keyword).length + (if ([] : List Keyword).isEmpty then 0 else 1) < 30)) = true := by rfl)
    (hline : (apos.endLine == cpos.line) = true := by rfl) (hs : starEach [e] X.env = (false, eval e X.env) :: starEach [] X.env := by rfl) :
    CE ca X (.Call (.Attribute o "extend" apos) [e] [] cpos) (eExt i m) := fun Hf H R σ st Q p h => by
  refine we_of (pe_bm PySem.F.plainAttrs_list PySem.F.slot_list_extend PySem.F.type_list_extend mt_extend ho (pa_cons (we_pe X e) pa_nil hs) hbase hfew hline hs rfl) ?_
  unfold eExt at h
  cases g : getS st i with
  | none => rw [g] at h; exact h.elim
  | some d0 =>
    rw [g] at h
    dsimp only at h
    by_cases hl : isLst d0 = true
    · rw [if_pos hl] at h
      obtain ⟨x, ex, rx⟩ := p.at_ i d0 g
      refine ⟨x, ex, rep_isLst p.w.ex rx hl, he Hf H R σ st _ p ?_⟩
      cases em : m st with
      | fail => rw [em] at h; exact h
      | exc x0 st1 => rw [em] at h; exact h
      | ok d st1 =>
        rw [em] at h
        have h0 : Post ca X Hf H (jn Em R) σ (match ext2 (getS st1 i) d with
          | some zs => .ok .non (st1.set i (some (.lst true zs)))
          | none => .fail) Q := h
        clear h
        intro Hf1 H1 P1 R1 v t1 p1
        cases g1 : ext2 (getS st1 i) d with
        | none => rw [g1] at h0; exact h0.elim
        | some zs =>
          rw [g1] at h0
          obtain ⟨xs, ow2, ys, g2, rfl, hz1, hz2, rfl⟩ := ext2_some g1
          obtain ⟨a, vs, e1, ra, e2, r2⟩ := p1.drop.ownList g2
          rw [ex] at e1
          cases e1
          obtain ⟨b, ws, T, rfl, e4, r4⟩ := rep_lst p1.w.ex p1.pend
          refine ⟨a, b, vs, ws, rfl, rfl, e2, e4, by rw [r2.length, r4.length, ← sz_eq]; exact hz2, ?_⟩
          have rN : RepL ca X.K Hf1 H1 (fun b => R1 i b ∧ b ≠ a) (vs ++ ws) (xs ++ ys) := repL_app' (S1 := fun b => R1 i b ∧ b ≠ a) (S2 := Em) r2 (repL_cold r4 hz1) (fun _ q => q) (fun _ q => q.elim) fun _ _ q => q
          obtain ⟨p2, t2⟩ := p1.drop.write g2 ex ra rN
          exact h0 Hf1 _ Em R1 .non ((less0 t1).trans t2) (p2.put .non)
    · rw [if_neg hl] at h; exact h.elim
end
end DL

/-! DL11: instances: made, their fields stored and read, properties, methods. -/
namespace DL
open PySem L2 PyProof.Rows

/-- C(..): a new instance goes to __init__ (f), which keeps its parameter 0 -/
def eMake (C : Nat) (f : MF) (ms : MA) : ME := fun st => (ms st).bind fun ds st1 => match f (.ins true C [] :: ds) with
  | .ok .non ps => (match getS ps 0 with
    | some d => .ok d st1
    | none => .fail)
  | .exc x _ => .exc x st1
  | _ => .fail
def putD (f : Str) (d : D) : List (Str × D) → List (Str × D)
  | [] => [(f, d)]
  | (g, x) :: r => if g = f then (g, d) :: r else (g, x) :: putD f d r
/-- self.f = e, self the slot i's own instance of the class C -/
def sFldM (C i : Nat) (f : Str) (m : ME) : MS := fun st => (m st).toS fun d st1 => match getS st1 i with
  | some (.ins true C' fs) => if C' = C ∧ fs.length < 1000 ∧ cold d = true then .next (st1.set i (some (.ins true C' (putD f d fs)))) else .fail
  | _ => .fail
/-- o.f -/
def oFld (C : Nat) (f : Str) : List D → Option Out
  | [.ins _ C' fs] => if C' = C then (match fs.lookup f with
    | some d => if cold d then some (.val d) else none
    | none => none) else none
  | _ => none

section
variable {ca : Nat → Addr} {K : PySem.W.Frag} {Hf H Hf1 H1 Hf2 H2 : Hp} {S S1 S2 P P1 P2 : Rg} {R R1 R2 : Nat → Rg} {pp qq : Prop} {σ σ' : L2.St} {st st' : Sl} {v : V} {d : D} {vs : List V} {ds xs : List D} {X : Cx} {L : List Nat}

/-! ### reading a field -/
theorem lookup_keys {α β : Type} : ∀ {fs : List (Str × α)} {gs : List (Str × β)} {f : Str} {j : Nat} {b : β}, fs.map (·.1) = gs.map (·.1) → gs.lookup f = some b → ∃ (j : Nat) (a : α), fs.lookup f = some a ∧ (fs.map (·.2))[j]? = some a ∧ (gs.map (·.2))[j]? = some b
  | [], [], _, _, _, _, h => by cases h
  | [], _ :: _, _, _, _, e, _ => by cases e
  | _ :: _, [], _, _, _, e, _ => by cases e
  | (x, a) :: fs, (y, b') :: gs, f, j, b, e, h => by
    simp only [List.map_cons,
        List.cons.injEq] at e
    obtain ⟨rfl, e⟩ := e
    rw [List.lookup_cons] at h ⊢
    cases hq : (f == x) with
    | true =>
      rw [hq] at h
      cases h
      exact ⟨0, a, rfl, rfl, rfl⟩
    | false =>
      rw [hq] at h
      obtain ⟨k, a', h1, h2, h3⟩ := lookup_keys (j := 0) e h
      exact ⟨k + 1, a', h1, by simpa using h2, by simpa using h3⟩
theorem rep_ins {o : Bool} {C : Nat} {gs : List (Str × D)} (hx : Ex Hf H) (r : Rep ca K Hf H S v (.ins o C gs)) : ∃ a dx fs T, v = .ref a ∧ H a = some (.ins (ca C) dx fs) ∧ fs.map (·.1) = gs.map (·.1) ∧ RepL ca K Hf H T (fs.map (·.2)) (gs.map (·.2)) := by
  cases r with
  | insF e k r => exact ⟨_, _, _, Em, rfl, hx _ _ e, k, r⟩
  | insO s e k r => exact ⟨_, _, _, _, rfl, e, k, r⟩
theorem os_fld {C : Nat} {f : Str} : OpS ca K (rl1 fun x H Q => ∃ a dx fs v, x = .ref a ∧ H a = some (.ins (ca C) dx fs) ∧ fs.lookup f = some v ∧ Q v H) (oFld C f) := fun Hf H vs ds o Q hx rd h q => by
  match ds, h with
  | [.ins ow C' gs], hh =>
    dsimp only [oFld] at hh
    by_cases hC : C' = C
    · rw [if_pos hC] at hh
      subst hC
      cases el : gs.lookup f with
      | none => rw [el] at hh; cases hh
      | some dd =>
        rw [el] at hh
        dsimp only at hh
        by_cases hc : cold dd = true
        · rw [if_pos hc] at hh
          cases hh
          obtain ⟨v, S, e1, r1⟩ := rdl1 rd rfl
          subst e1
          obtain ⟨a, dx, fs, T, rfl, e2, k, r⟩ := rep_ins hx r1
          obtain ⟨j, v', h1, h2, h3⟩ := lookup_keys (j := 0) k el
          obtain ⟨v2, T2, e3, r2, _⟩ := repL_at r h3
          rw [h2] at e3
          cases e3
          have hd : hot dd = false := by unfold cold at hc; simpa using hc
          exact ⟨a, dx, fs, v', rfl, e2, h1, q v' (r2.cold hd)⟩
        · rw [if_neg hc] at hh; cases hh
    · rw [if_neg hC] at hh; cases hh
theorem ce_fld {e : Expr} {oe : Opd} {C : Nat} {f : Str} {pos : Pos} (c : Cls X.K (ca C)) (n : NoAttr X.K (ca C) f) (he : CO ca X e oe) (hb : attributeBase e f X.env (eval e X.env) = eval e X.env := by rfl) : CE ca X (.Attribute e f pos) (eOp (oFld C f) [oe]) :=
  ce_op (es := [e]) (fun σ H Q h => we_of (pe_fld (we_pe X e) hb) (by
    intro pins s I
    refine thn (h pins s I) fun u s1 hh => ?_
    obtain ⟨x, H1, I1, r1, a, dx, fs, v, e1, e2, e3, q⟩ := hh
    exact ⟨x, H1, I1, r1, a, ca C, dx, fs, v, e1, e2, c, n, e3, q⟩)) (.cons he .nil) os_fld
/-- a property whose getter hands back the field f' -/
theorem ce_prop {e : Expr} {oe : Opd} {C : Nat} {f f' : Str} {p g : Addr} {k : Nat} {fd : FuncData} {ps : List Str} {pos : Pos} (c : Cls X.K (ca C)) (hp : PropOf X.K (ca C) f p g) (F : FnOk X.prog X.w X.K X.mg X.base (L2.CX X.prog X.w) k g fd ps (getSp (ca C) f')) (hr : Room (k + 1) X.A) (hb : Binds X.K fd ps []) (he : CO ca X e oe)
    (hab : attributeBase e f X.env (eval e X.env) = eval e X.env := by rfl) : CE ca X (.Attribute e f pos) (eOp (oFld C f') [oe]) :=
  ce_op (es := [e]) (fun σ H Q h => we_of (pe_prop (E := E0) (we_pe X e) c hp F hr hb .nil passL hab) (by
    intro pins s I
    refine thn (h pins s I) fun u s1 hh => ?_
    obtain ⟨x, H1, I1, r1, a, dx, fs, v, e1, e2, e3, q⟩ := hh
    exact ⟨x, H1, I1, r1, a, dx, fs, e1, e2, a, dx, fs, v, rfl, e2, e3, q⟩)) (.cons he .nil) os_fld

/-! ### storing a field -/
theorem putD_keys {f : Str} {y : V} {d : D} : ∀ {fs : List (Str × V)} {gs : List (Str × D)}, fs.map (·.1) = gs.map (·.1) → (putF f y fs).map (·.1) = (putD f d gs).map (·.1)
  | [], [], _ => rfl
  | [], _ :: _, e => by cases e
  | _ :: _, [], e => by cases e
  | (x, a) :: fs, (y', b) :: gs, e => by
    simp only [List.map_cons,
        List.cons.injEq] at e
    obtain ⟨rfl, e⟩ := e
    rw [putF, putD]
    split
    · simp [e]
    · simp [putD_keys (f := f) (y := y) (d := d) e]
theorem putD_rep {f : Str} {y : V} {d : D} (rd : Rep ca K Hf H Em y d) : ∀ {S : Rg} {fs : List (Str × V)} {gs : List (Str × D)}, fs.map (·.1) = gs.map (·.1) → RepL ca K Hf H S (fs.map (·.2)) (gs.map (·.2)) → RepL ca K Hf H S ((putF f y fs).map (·.2)) ((putD f d gs).map (·.2))
  | _, [], [], _, _ => (RepL.one rd).mono fun _ q => q.elim
  | _, [], _ :: _, e, _ => by cases e
  | _, _ :: _, [], e, _ => by cases e
  | _, (x, a) :: fs, (y', b) :: gs, e, r => by
    simp only [List.map_cons,
        List.cons.injEq] at e
    obtain ⟨rfl, e⟩ := e
    rw [putF, putD]
    cases r with
    | cons r1 r2 h1 h2 h3 =>
      split
      · exact .cons (S1 := Em) rd r2 (fun _ q => q.elim) h2 fun _ q _ => q
      · exact .cons r1 (putD_rep rd e r2) h1 h2 h3
theorem PR.ownIns {i C : Nat} {gs : List (Str × D)} (p : PR ca K Hf H Em True R σ st) (h : getS st i = some (.ins true C gs)) : ∃ a dx fs, σ[i]? = some (some (.ref a)) ∧ R i a ∧ H a = some (.ins (ca C) dx fs) ∧ fs.map (·.1) = gs.map (·.1) ∧ RepL ca K Hf H (fun b => R i b ∧ b ≠ a) (fs.map (·.2)) (gs.map (·.2)) := by
  obtain ⟨v, e, r⟩ := p.at_ i _ h
  cases r with
  | insO s e2 k r => exact ⟨_, _, _, e, s, e2, k, r⟩
theorem PR.writeIns {i C : Nat} {gs ys : List (Str × D)} {a dx : Addr} {ws : List (Str × V)} (p : PR ca K Hf H Em True R σ st) (h : getS st i = some (.ins true C gs)) (hv : σ[i]? = some (some (.ref a))) (ha : R i a) (hk : ws.map (·.1) = ys.map (·.1))
    (r : RepL ca K Hf H (fun b => R i b ∧ b ≠ a) (ws.map (·.2)) (ys.map (·.2))) : PR ca K Hf (upd H a (.ins (ca C) dx ws)) Em True R σ (st.set i (some (.ins true C ys))) ∧ Tr (jn Em R) Hf H (jn Em R) Hf (upd H a (.ins (ca C) dx ws)) := by
  have hk' : ∀ b o, b ≠ a → H b = some o → upd H a (.ins (ca C) dx ws) b = some o := fun b o n e => by rw [upd_ne n]; exact e
  have hf : Hf a = none := p.w.nf a (.inr ⟨i, ha⟩)
  refine ⟨⟨trivial, ?_, fun j d e => ?_, p.dj, fun _ _ q => q.elim, ⟨fun b o e => ?_, fun b q => ?_, p.w.nf⟩⟩, ⟨fun _ _ e => e, fun b o e n => hk' b o (fun z => n (.inr ⟨i, z ▸ ha⟩)) e, fun b q => .inl q, fun _ _ e => .inl e⟩⟩
  · rw [List.length_set]; exact p.len
  · rcases set_get e with ⟨q1, q2⟩ | ⟨q1, q2⟩
    · subst q1
      cases q2
      exact ⟨_, hv, .insO ha upd_same hk (r.keep (fun _ _ e => e) fun b q o e => hk' b o q.2 e)⟩
    · obtain ⟨v', e2, r2⟩ := p.at_ j d q2
      exact ⟨v', e2, r2.keep (fun _ _ e => e) fun b q o e => hk' b o (fun z => q1 (p.dj i j a ha (z ▸ q))) e⟩
  · have := p.w.ex b o e
    exact hk' b o (fun z => by subst z; rw [hf] at e; cases e) this
  · obtain ⟨o, e⟩ := p.w.dm b q
    by_cases z : b = a
    · subst z; exact ⟨_, upd_same⟩
    · exact ⟨o, hk' b o z e⟩
theorem cs_fld {o value : Expr} {i C : Nat} {f : Str} {m : ME} {pos pos' : Pos} (c : Cls X.K (ca C)) (n : NoAttr X.K (ca C) f) (ho : PE X o (tVar i)) (he : CE ca X value m) (hs : swapsWith value (some (.Attribute o f pos')) pos.line X.env = pure false := by rfl) :
    CS ca X L (.Assign [.Attribute o f pos'] value pos) (sFldM C i f m) := fun Hf H R σ st E p h => by
  refine ws_of (ps_fld ho (we_pe X value) hs) (he Hf H R σ st _ p ?_)
  refine post_toS h fun d st1 Hf1 H1 P1 R1 v e1 t1 p1 h1 => ?_
  cases g : getS st1 i with
  | none => rw [g] at h1; exact h1.elim
  | some dx =>
    rw [g] at h1
    cases dx with
    | ins ow C' gs =>
      cases ow with
      | false => exact h1.elim
      | true =>
        dsimp only at h1
        by_cases hc : C' = C ∧ gs.length < 1000 ∧ cold d = true
        · rw [if_pos hc] at h1
          obtain ⟨rfl, hl, hcd⟩ := hc
          have hd : hot d = false := by unfold cold at hcd; simpa using hcd
          obtain ⟨a, dx, fs, ev, ra, e2, kk, r2⟩ := p1.drop.ownIns g
          have hlen : fs.length = gs.length := by
            have := congrArg List.length kk
            simpa using this
          refine ⟨.ref a, ev, a, _, dx, fs, rfl, e2, c, n, by omega, ?_⟩
          obtain ⟨p2, t2⟩ := p1.drop.writeIns (dx := dx) g ev ra (putD_keys (f := f) (y := v) (d := d) kk) (putD_rep (p1.pend.cold hd) kk r2)
          exact h1 Hf1 _ R1 σ (t2.more fun b q => q.elim (fun q => q.elim) .inr) p2 Lk.refl
        · rw [if_neg hc] at h1; exact h1.elim
    | _ => exact h1.elim

/-! ### an instance made -/
theorem run_makeA {CX : CXT} {k : Nat} {f C : Addr} {fd : FuncData} {ps : List Str} {sp : Sp} {E : XK} {pins : List (Addr × Obj)} {s : Shared} {Q : VK} {us : List Value}
    (M : Mk X.K C f) (F : FnOk X.prog X.w X.K X.mg X.base CX k f fd ps sp) (hr : Room (k + 1) X.A) (hb : Binds X.K fd ps []) (hx : PassesAt CX X σ E) (I : Inv X pins σ H s) (r : Vals vs us)
    (h : ∀ x dx, H x = none → H dx = none → dx ≠ x → sp (.ref x :: vs) (upd (upd H dx (.own x)) x (.ins C dx [])) (fun v H2 => v = .non ∧ Q (.ref x) H2) E) : wpAny (model X.prog X.w) X.A (call (.ref C) us) (EP X pins σ Q) X.xe s := by
  have wish := h (s.heap.objs.size + 1) s.heap.objs.size (I.hok.fresh (Nat.le_succ _)) (I.hok.fresh (Nat.le_refl _)) (Nat.ne_of_lt (Nat.lt_succ_self _))
  have J := Inv.made (C := C) I
  have rs : Vals (V.ref (s.heap.objs.size + 1) :: vs) (Value.ref (s.heap.objs.size + 1) :: us) := .cons rfl r
  have len : (Value.ref (s.heap.objs.size + 1) :: us ++ []).length = ps.length := by
    rw [List.append_nil, ← rs.length]; exact F.len _ _ _ _ wish
  have bnd := hb _ (Value.ref (s.heap.objs.size + 1) :: us) J.kIn len
  rw [List.append_nil] at bnd
  refine wpAny_call (make_map (f := f) I.kIn M.makes M.init (beq_iff_eq.mp M.fn) (codeAny_mono (F.run _ X.stack _ _ _ _ _ _ E (hr.make C us []) (J.env0.make C us []) bnd rs wish) fun res s' got => ?_))
  cases res with
  | error e => exact hx pins _ _ e s' J got
  | ok fl => cases fl with
    | ret u =>
      obtain ⟨v, H', I3, rv, ev, q3⟩ := J.after got
      subst ev
      exact ⟨rv, ⟨V.ref (s.heap.objs.size
          + 1), H', I3, rfl, q3⟩⟩
    | next => exact got.elim
    | brk => exact got.elim
    | cont => exact got.elim
/-- what __init__ hands back -/
theorem postC_make {C : Nat} {m : MF} {Q : VK} {x dx : Addr} (p : PR ca X.K Hf H P (RepL ca X.K Hf H P vs ds) R σ st) (hx : H x = none) (hdx : H dx = none) (hne : dx ≠ x)
    (h : Post ca X Hf H (jn P R) σ (match m (.ins true C [] :: ds) with
      | .ok .non ps => (match getS ps 0 with | some d => .ok d st | none => .fail)
      | .exc x _ => .exc x st
      | _ => .fail) Q) :
    spM ca X.K m (.ref x :: vs) (upd (upd H dx (.own x)) x (.ins (ca C) dx [])) (fun v H2 => v = .non ∧ Q (.ref x) H2) (fun cls dd H' => wX X cls dd σ H') := by
  have hx' : (upd H dx (.own x)) x = none := by rw [upd_ne (Ne.symm hne)]; exact hx
  have k1 : Ex H (upd H dx (.own x)) := upd_keep hdx
  have k2 : Ex H (upd (upd H dx (.own x)) x (.ins (ca C) dx [])) := fun b o e => upd_keep hx' b o (k1 b o e)
  have w1 := (wl_new (o := .own x) p.w hdx)
  have w2 := (wl_new (o := .ins (ca C) dx []) w1.1 hx')
  have hnx : ∀ b, jn P R b → b ≠ x := fun b q z => by subst z; obtain ⟨o, e⟩ := p.w.dm b q; rw [hx] at e; cases e
  have rr : RepL ca X.K Hf (upd (upd H dx (.own x)) x (.ins (ca C) dx [])) (fun b => b = x ∨ P b) (.ref x :: vs) (.ins true C [] :: ds) :=
    .cons (S1 := fun b => b = x) (S2 := P) (.insO rfl upd_same rfl .nil) (p.pend.keep (fun _ _ e => e) fun b _ o e => k2 b o e) (fun b q => .inl q) (fun b q => .inr q) fun b q1 q2 => hnx b (.inl q2) q1
  have pr : PR ca X.K Hf (upd (upd H dx (.own x)) x (.ins (ca C) dx [])) (fun b => b = x ∨ P b) (RepL ca X.K Hf (upd (upd H dx (.own x)) x (.ins (ca C) dx [])) (fun b => b = x ∨ P b) (.ref x :: vs) (.ins true C [] :: ds)) R σ st :=
    ⟨rr, p.len, fun i d e => by
      obtain ⟨v, e1, r⟩ := p.at_ i d e
      exact ⟨v, e1, r.keep (fun _ _ e => e) fun b _ o e => k2 b o e⟩, p.dj, fun i b q1 q2 => q1.elim (fun q => hnx b (.inr ⟨i, q2⟩) q) fun q => p.dp i b q q2, ⟨w2.1.ex, fun b q => by
      rcases q with (q | q) | q
      · subst q; exact ⟨_, upd_same⟩
      · exact w2.1.dm b (.inl q)
      · exact w2.1.dm b (.inr q), fun b q => by
      rcases q with (q | q) | q
      · subst q; exact w2.2
      · exact w2.1.nf b (.inl q)
      · exact w2.1.nf b (.inr q)⟩⟩
  have t0 : Tr (jn P R) Hf H (jn (fun b => b = x ∨ P b) R) Hf (upd (upd H dx (.own x)) x (.ins (ca C) dx [])) := ⟨fun _ _ e => e, fun b o e _ => k2 b o e, fun b q => by
    rcases q with (q | q) | q
    · subst q; exact .inr hx
    · exact .inl (.inl q)
    · exact .inl (.inr q), fun _ _ e => .inl e⟩
  refine ⟨Hf, fun b => b = x ∨ P b, .ins true C [] :: ds, rr, pr.w.mono fun b q => .inl q, ?_⟩
  have wR : Wl Hf (upd (upd H dx (.own x)) x (.ins (ca C) dx [])) (tot R) := pr.w.mono fun b q => .inr q
  have old : ∀ {Hf' H' : Hp} {S' P' : Rg} {pp : Prop}, Tr (fun b => b = x ∨ P b) Hf (upd (upd H dx (.own x)) x (.ins (ca C) dx [])) S' Hf' H' → Wl Hf' H' S' → (∀ b, P' b → S' b) → pp → PR ca X.K Hf' H' P' pp R σ st ∧ Tr (jn P R) Hf H (jn P' R) Hf' H' := fun {Hf' H' S' P' pp} t w hP q => by
    have bs := t.beside wR fun b q1 q2 => by obtain ⟨i, q1⟩ := q1; exact pr.dp i b q2 q1
    refine ⟨⟨q, p.len, fun i d e => ?_, p.dj, fun i b q1 q2 => bs.2.1 b ⟨i, q2⟩ (hP b q1), ⟨w.ex, fun b q => ?_, fun b q => ?_⟩⟩, ?_⟩
    · obtain ⟨v, e1, r⟩ := pr.at_ i d e
      exact ⟨v, e1, r.keep t.fx fun b q o e => bs.1 b ⟨i, q⟩ o e⟩
    · rcases q with q | q
      · exact w.dm b (hP b q)
      · exact (bs.2.2 b q).1
    · rcases q with q | q
      · exact w.nf b (hP b q)
      · exact (bs.2.2 b q).2
    · refine t0.trans (((t.with (tot R)).more fun b q => ?_).less fun b q => ?_)
      · exact q.elim .inr .inl
      · exact q.elim (fun q => .inr (hP b q)) .inl
  cases em : m (.ins true C [] :: ds) with
  | fail => rw [em] at h; exact h
  | ok d ps =>
    rw [em] at h
    cases d with
    | non =>
      dsimp only at h
      cases eg : getS ps 0 with
      | none => rw [eg] at h; exact h.elim
      | some d' =>
        rw [eg] at h
        intro Hf' H' P' Rp v t q
        obtain ⟨v', e1, r0⟩ := q.at_ 0 d' eg
        cases e1
        obtain ⟨p2, t2⟩ := old (P' := Rp 0) (pp := Rep ca X.K Hf' H' (Rp 0) (.ref x) d') t q.w (fun b z => .inr ⟨0, z⟩) r0
        exact ⟨rep_non q.pend, h Hf' H' (Rp 0) R (.ref x) t2 p2⟩
    | _ => exact h.elim
  | exc y ps =>
    rw [em] at h
    intro Hf' H' Rp cls dd t q
    obtain ⟨p2, t2⟩ := old (P' := Em) t q.w (fun b z => z.elim) q.pend
    exact h Hf' H' R cls dd t2 p2
theorem ce_make {k C : Nat} {f : Addr} {fd : FuncData} {ps : List Str} {x : Str} {p pos : Pos} {e : Expr} {es : List Expr} {m : MF} {ms : MA} (M : Mk X.K (ca C) f) (F : FnOk X.prog X.w X.K X.mg X.base (L2.CX X.prog X.w) k f fd ps (spM ca X.K m)) (hr : Room (k + 1) X.A) (hg : Gl X x) (hm : X.mg x = some (.ref (ca C)))
    (hb : Binds X.K fd ps []) (ha : CL ca X (e :: es) ms) (hst : NoStar (e :: es)) (hdb : (x == ("__debug__" : Str)) = false := by decide) (hpl : (backTo pos (starEach es X.env)).any (·.1) = false := by rfl) :
    CE ca X (.Call (.Name x p) (e :: es) [] pos) (eMake C m ms) := fun Hf H R σ st Q pr h => by
  have hw : Wa X (e :: es) σ H fun vs H1 => ∀ x dx, H1 x = none → H1 dx = none → dx ≠ x → spM ca X.K m (.ref x :: vs) (upd (upd H1 dx (.own x)) x (.ins (ca C) dx [])) (fun v H2 => v = .non ∧ Q (.ref x) H2) (fun cls dd H' => wX X cls dd σ H') := by
    refine wa_wl (fun e' r' q => noStar_suf hst e' r' q _) (ha Hf H R σ st _ pr ?_)
    unfold eMake at h
    cases e1 : ms st with
    | fail => rw [e1] at h; exact h
    | exc x st1 => rw [e1] at h; exact h
    | ok ds st1 =>
      rw [e1] at h
      intro Hf1 H1 P1 R1 vs t1 p1 x dx n1 n2 n3
      exact postC_make p1 n1 n2 n3 (Post.from t1 h)
  intro pins s I
  refine wpAny_Call_Name_kw (ld_glob
      I hg hm ?_ hdb)
  refine PySem.W.callWith_K (h₀ := X.base) I.ok.mod.kin M.kp (thn (hw pos pins s I) fun us s1 ⟨vs, H1, I1, r, q⟩ => ⟨I1.kIn, ?_⟩) (hst.1 _) hpl
  exact run_makeA M F hr hb (passAt (takes_wX X) σ) I1 r q
end
end DL

/-! DL12: == and != of instances by an own __eq__; isinstance; methods called. -/
namespace DL
open PySem L2 PyProof.Rows

/-- a value is let stand -/
def eFz (m : ME) : ME := fun st => (m st).bind fun d st1 => .ok (frz d) st1
def insC : D → Option Nat
  | .ins false C _ => some C
  | _ => none
/-- a == b (a != b: neg) of two instances of the class C that stand, by the meaning of __eq__ -/
def eEqI (neg : Bool) (C : Nat) (f : MF) (oa ob : Opd) : ME := fun st => opds [oa, ob] st fun gs st2 => match gs st2 with
  | some [x, y] => if insC x = some C ∧ insC y = some C then (match f [x, y] with
    | .ok (.bl k) _ => .ok (.bl (if neg then !k else k)) st2
    | _ => .fail) else .fail
  | _ => .fail

section
variable {ca : Nat → Addr} {K : PySem.W.Frag} {Hf H Hf1 H1 Hf2 H2 : Hp} {S S1 S2 P P1 P2 : Rg} {R R1 R2 : Nat → Rg} {pp qq : Prop} {σ σ' : L2.St} {st st' : Sl} {v : V} {d : D} {vs : List V} {ds xs : List D} {X : Cx} {L : List Nat}
theorem ce_fz {e : Expr} {m : ME} (h : CE ca X e m) : CE ca X e (eFz m) := fun Hf H R σ st Q p hq => by
  refine h Hf H R σ st Q p ?_
  unfold eFz at hq
  cases r : m st with
  | fail => rw [r] at hq; exact hq
  | exc x st1 => rw [r] at hq; exact hq
  | ok d st1 =>
    rw [r] at hq
    intro Hf1 H1 P1 R1 v t1 p1
    obtain ⟨Hf2, x1, x2, p2, t2⟩ := p1.standP
    exact hq Hf2 H1 Em R1 v (t1.trans t2) (p2.put (p1.pend.frz x1 x2))

/-! ### rich comparison by an own __eq__ -/
/-- what the written part says of a class with an own __eq__ and no own __ne__ -/
structure OwnEqC (K : PySem.W.Frag) (C f : Addr) : Prop where
  eq : PySem.W.findIn K (.ref C) "__eq__" = some (some (.ref f))
  fn : PySem.W.isFn K (.ref
      f) = true
  ne : ∃ (of : Obj) (nm q : Str) (N : Addr) (bs : List Value) (hdct : Bool) (sn : List Str) (sub : List Value) (ab : Bool) (col : Option Bool) (dd : Option Addr) (k0 k1 k2 k3 k5 : Option Value) (newId : String),
    K.lookup C = some (excClassObj nm q C N bs [.type "object"] hdct sn sub ab col dd k0 k1 k2 k3 k5 newId) ∧ PySem.W.nsOkIn K N = true ∧ PySem.W.nsIn K N "__eq__" = some (some (.ref f)) ∧ PySem.W.nsIn K N "__ne__" = some none ∧ K.lookup f = some of ∧ of.cls = .type "function"
theorem ns_some {h : Heap} {N : Addr} {m : Str → Option Value} {x : Str} {u : Value} (k : K.In h) (G : h.Ns N m) (e : PySem.W.nsIn K N x = some (some u)) : m x = some u := by
  obtain ⟨ob, ents, epoch, gets, dat, _, finds⟩ := G
  unfold PySem.W.nsIn at e
  split at e
  · rename_i c d ents' n' sl look
    have same := k _ _ look
    rw [gets] at same
    cases same
    cases dat
    split at e
    · rename_i en found
      cases e
      rw [← finds]
      show (findBy _ _ _) = _
      unfold findBy
      rw [← Array.find?_toList, found]
      rfl
    · split at e <;> cases e
  · cases e
/-- the call of __eq__, within the comparison -/
theorem eq_run {CX : CXT} {k : Nat} {f : Addr} {fd : FuncData} {ps : List Str} {sp : Sp} {E : XK} {A : Around} {pins : List (Addr × Obj)} {s : Shared} {a b : Addr} {Q : VK} (F : FnOk X.prog X.w X.K X.mg X.base CX k f fd ps sp) (hr : Room k A) (hfr : A.frames = X.A.frames) (hb : Binds X.K fd ps [])
    (hx : PassesAt CX X σ E) (I : Inv X pins σ H s) (h : sp [.ref a, .ref b] H Q E) : wpAny (model X.prog X.w) A (call (.ref f) [.ref a, .ref b]) (EP X pins σ Q) X.xe s := by
  have e0 : Env0 X.prog X.w X.K X.mg X.base A X.stack s H
      := by
    have e := I.env0
    exact ⟨hfr.trans e.frames, e.mod, e.bs, e.bsz, e.funs, e.frf, e.hok, e.bare⟩
  have hl := F.len _ _ _ _ h
  have r2 : Vals [V.ref a, V.ref b] [Value.ref a, Value.ref b] :=
      .cons rfl (.cons rfl .nil)
  have bnd := hb s [.ref a, .ref b] I.kIn (by simpa using hl)
  rw [List.append_nil] at bnd
  refine wpAny_call (codeAny_mono (F.run A X.stack s H _ _ _ Q E hr e0 bnd r2 h) fun res s' got => ?_)
  cases res with
  | error e => exact hx pins _ _ e s' I got
  | ok fl => cases fl with
    | ret w => exact I.after got
    | next => exact got.elim
    | brk => exact got.elim
    | cont => exact got.elim
def rEqI (neg : Bool) (C : Addr) (sp : Sp) (E : L2.St → XK) (σ : L2.St) : L2.R2 := fun x y H Q => ∃ a b dx dy fs gs, x = .ref a ∧ y = .ref b ∧ H a = some (.ins C dx fs) ∧ H b = some (.ins C dy gs) ∧
  sp [.ref a, .ref b] H (fun v H' => ∃ k, v = .bl k ∧ Q (.bl (if neg then !k else k)) H') (E σ)
theorem rc_eqI {CX : CXT} {k : Nat} {f C : Addr} {fd : FuncData} {ps : List Str} {sp : Sp} {E : L2.St → XK} (F : FnOk X.prog X.w X.K X.mg X.base CX k f fd ps sp) (c : OwnEqC X.K C f) (hr : Room (k + 1) X.A) (hb : Binds X.K fd ps []) (hx : ∀ σ, PassesAt CX X σ (E σ)) (neg : Bool)
    {pins : List (Addr × Obj)} {s : Shared} {x y : V} {u v : Value} {Q : VK} (I : Inv X pins σ H s) (rx : RelV x u) (ry : RelV y v) (h : rEqI neg C sp E σ x y H Q) :
    wpAny (model X.prog X.w) X.A (compareOp (if neg then .NotEq else .Eq) u v) (EP X pins σ Q) X.xe s := by
  obtain ⟨a, b, dx, dy, fs, gs, rfl, rfl, ha, hb', hs⟩ := h
  cases rx
  cases ry
  obtain ⟨mA, J, _⟩ :=
      ins_get I.hok ha
  obtain ⟨mB, J', _⟩ :=
      ins_get I.hok hb'
  cases neg with
  | false =>
    obtain ⟨od, J, _⟩ := J.look
    obtain ⟨od', J', _⟩ :=
        J'.look
    obtain ⟨m, hF⟩ := I.fr
    show wpAny _ _ (richCompare .Eq _ _) _ _ _
    refine PySem.W.cmp_K (op := .Eq) (tb := .ref C) hr.units0 hF I.ok.mod.kin J J'.type (by simp [PySem.W.notFirst]) c.eq c.fn ?_
    refine thn (eq_run F (hr.mono (Nat.le_succ k)) rfl hb (hx σ) I hs) fun v s' ⟨vv, H', I', rv, kk, ev, q⟩ => ?_
    subst ev
    cases rv
    exact ⟨.bl kk, H', I', rfl, q⟩
  | true =>
    obtain ⟨of, nm, q, N, bs, hdct, sn, sub, ab, col, dd, k0, k1, k2, k3, k5, newId, hC, hN0, hN1, hN2, hf, hfc⟩ := c.ne
    obtain ⟨hp, g, dr, tk, os⟩ :=
        s
    have hk : X.K.In hp := I.kIn
    have hNs : hp.Ns N (hp.nsMap N) := .of_isNs (PySem.W.isNs_of_in hk hN0)
    have fin := eq_run F (hr.in1) (show X.A.in1.frames = X.A.frames from rfl) hb (hx σ) I hs
    refine compareOp_ne_ownEq PySem.F.cmp_object ⟨_, of, nm, q, N, bs, hdct, sn, sub, ab, col, dd, k0, k1, k2, k3, k5, newId, _, _, J.obj, rfl, hk _ _ hC, hNs, ns_some hk hNs hN1, hk _ _ hf, hfc, PySem.F.cmp_object.mro, PySem.F.cmp_object.eq.lookup, PySem.W.nsMap_none_of_in hk hN0 hN2⟩ J'.obj rfl (Nat.lt_of_le_of_lt (Nat.le_add_right _ 0) ?_) ?_
    · have := hr.units
      omega
    · refine thn fin fun v s' ⟨vv, H', I', rv, kk, ev, q⟩ => ?_
      subst ev
      cases rv
      exact ⟨kk, rfl, .bl (!kk), H', I', rfl, q⟩
end

section
variable {ca : Nat → Addr} {Hf H Hf1 H1 Hf2 H2 : Hp} {S P : Rg} {R R1 R2 : Nat → Rg} {σ : L2.St} {st : Sl} {v : V} {d : D} {vs : List V} {ds : List D} {X : Cx} {L : List Nat}
theorem rdl_ins2 {x y : D} {C : Nat} (hx : Ex Hf H) (rd : RdL ca X.K Hf H vs [x, y]) (c1 : insC x = some C) (c2 : insC y = some C) : ∃ a b dx dy fs gs, vs = [.ref a, .ref b] ∧ H a = some (.ins (ca C) dx fs) ∧ H b = some (.ins (ca C) dy gs) ∧ RepL ca X.K Hf H Em vs [x, y] := by
  obtain ⟨v, w, S, S', e1, r1, r2⟩ := rdl2 rd rfl
  subst e1
  have h1 : hot x = false := by
    cases x <;> try (cases c1; done)
    rename_i o _ _
    cases o
    · rfl
    · cases c1
  have h2 : hot y = false := by
    cases y <;> try (cases c2; done)
    rename_i o _ _
    cases o
    · rfl
    · cases c2
  have q1 := r1.cold (S' := Em) h1
  have q2 := r2.cold (S' := Em) h2
  have hl : RepL ca X.K Hf H Em [v, w] [x, y] := .cons (S1 := Em) (S2 := Em) q1 (RepL.one q2) (fun _ q => q) (fun _ q => q) fun _ q _ => q
  cases x <;> try (cases c1; done)
  cases y <;> try (cases c2; done)
  rename_i o1 C1 g1 o2 C2 g2
  obtain ⟨a, dx, fs, T, rfl, e2, _, _⟩ := rep_ins hx q1
  obtain ⟨b, dy, gs, T', rfl, e3, _, _⟩ := rep_ins hx q2
  have d1 : C1 = C := by
    cases o1
    · exact Option.some.inj c1
    · cases c1
  have d2 : C2 = C := by
    cases o2
    · exact Option.some.inj c2
    · cases c2
  subst d1
  subst d2
  exact ⟨a, b, dx, dy, fs, gs, rfl, e2, e3, hl⟩
theorem ce_eqI {k C : Nat} {f : Addr} {fd : FuncData} {ps : List Str} {a b : Expr} {oa ob : Opd} {m : MF} {pos : Pos} {op : CmpOp} (neg : Bool) (hop : op = if neg then .NotEq else .Eq) (F : FnOk X.prog X.w X.K X.mg X.base (L2.CX X.prog X.w) k f fd ps (spM ca X.K m)) (c : OwnEqC X.K (ca C) f) (hr : Room (k + 1) X.A) (hb : Binds X.K fd ps [])
    (ha : CO ca X a oa) (hbb : CO ca X b ob) : CE ca X (.Compare a [op] [b] pos) (eEqI neg C m oa ob) := fun Hf H R σ st Q p h => by
  have ho : ∀ (pins : List (Addr × Obj)) (s : Shared) (σ : L2.St) (H : Hp) (x y : V) (u v : Value) (Q : VK), Inv X pins σ H s → RelV x u → RelV y v → rEqI neg (ca C) (spM ca X.K m) (fun σ cls dd H' => wX X cls dd σ H') σ x y H Q →
      wpAny (model X.prog X.w) X.A (compareOp (if neg then .NotEq else .Eq) u v) (EP X pins σ Q) X.xe s := fun pins s σ H x y u v Q I rx ry h => rc_eqI F c hr hb (fun σ => passAt (takes_wX X) σ) neg I rx ry h
  have hm : behindInMarks op b = false := nomark b (by rw [hop]; cases neg <;> decide) (by rw [hop]; cases neg <;> decide)
  have key : WL X [a, b] σ H fun vs H2 => rl2 (rEqI neg (ca C) (spM ca X.K m) (fun σ cls dd H' => wX X cls dd σ H') σ) vs H2 Q := by
    refine ops_sound (.cons ha (.cons hbb .nil)) p h fun gs st2 Hf2 H2 R2 vs t2 p2 hr2 hk => ?_
    cases g : gs st2 with
    | none => rw [g] at hk; exact hk.elim
    | some ds =>
      rw [g] at hk
      match ds, hk with
      | [x, y], hk =>
        dsimp only at hk
        by_cases hc : insC x = some C ∧ insC y = some C
        · rw [if_pos hc] at hk
          obtain ⟨a, b, dx, dy, fs, gs', rfl, e1, e2, rl⟩ := rdl_ins2 (X := X) p2.w.ex (hr2 _ g) hc.1 hc.2
          refine ⟨a, b, dx, dy, fs, gs', rfl, rfl, e1, e2, Hf2, Em, [x, y], rl, p2.w.mono fun _ q => q.elim, ?_⟩
          refine postC_of (σ := σ) (st := st2) (R := R2) (p2.imp fun _ => rl) ?_
          cases em : m [x, y] with
          | fail => rw [em] at hk; exact hk
          | exc x0 ps => rw [em] at hk; exact hk.elim
          | ok d ps =>
            rw [em] at hk
            cases d with
            | bl kk =>
              intro Hf3 H3 P3 R3 v3 t3 p3
              exact ⟨kk, rep_bl p3.pend, hk Hf3 H3 Em R3 _ (less0 t3) (p3.drop.put .bl)⟩
            | _ => exact hk.elim
        · rw [if_neg hc] at hk; exact hk.elim
  intro pins s I
  refine wpAny_Compare1 (binT (R := fun x y H => rEqI neg (ca C) (spM ca X.K m) (fun σ cls dd H' => wX X cls dd σ H') σ x y H Q) (we_pe X a) (we_pe X b) I key fun v u s2 x y H2 I2 rx ry q => ?_) hm
  rw [hop]
  exact ho pins s2 σ H2 x y v u Q I2 rx ry q
/-! ### isinstance -/
/-- what the written part says of an own class, for isinstance of its instances -/
structure InsTy (K : PySem.W.Frag) (C : Addr) : Prop where
  cl : Cls K C
  ha : PySem.W.findIn K (.ref C) "__class__" = some (some
      (.builtin "object.__class__"))
  hn : PySem.W.specialIn K (.builtin "object.__class__") "__get__" = some (some
      (.builtin "getset_descriptor.__get__"))
  htk : PySem.W.takesIn K (.builtin
      "object.__class__") = some true
  hm : PySem.W.mroIn K C (.type
      "object") = some true
def noScr : D → Bool
  | .scr _ => false
  | _ => true
/-- isinstance(x, T), T a built-in type -/
def oIsiB (T : String) : List D → Option Out
  | [x, .ty t] => if t = T ∧ noScr x = true then ((tyName x).bind fun n => L2.kitB n T).map fun b => .val (.bl b) else none
  | _ => none
theorem os_isiB {K : PySem.W.Frag} {T : String} : OpS ca K (rIsi K) (oIsiB T) := fun Hf H vs ds o Q hx rd h q => by
  match ds, h with
  | [x, .ty t], hh =>
    dsimp only [oIsiB] at hh
    by_cases hc : t = T ∧ noScr x = true
    · rw [if_pos hc] at hh
      obtain ⟨rfl, hs⟩ := hc
      cases en : tyName x with
      | none => rw [en] at hh; cases hh
      | some n =>
        rw [en] at hh
        cases ek : L2.kitB n t with
        | none => simp [ek] at hh
        | some b =>
          simp only [Option.bind_some, ek, Option.map_some, Option.some.injEq] at hh
          subst hh
          obtain ⟨v, w, S, S', e1, r1, r2⟩ := rdl2 rd rfl
          subst e1
          cases r2
          exact ⟨v, .ty t, .type n, .type t, b, rfl, .ty t, rep_ty hx r1 en (fun xs e => by subst e; cases hs), kit_ty ek, q _ .bl⟩
    · rw [if_neg hc] at hh; cases hh
/-- isinstance(x, (T, U)) of two built-in types -/
def oIsi2 (T U : String) : List D → Option Out
  | [x, .tup [.ty t, .ty u]] => if t = T ∧ u = U ∧ noScr x = true then (match (tyName x).bind fun n => L2.kitB n T, (tyName x).bind fun n => L2.kitB n U with
    | some a, some b => some (.val (.bl (a || b)))
    | _, _ => none) else none
  | _ => none
theorem os_isi2 {K : PySem.W.Frag} {T U : String} : OpS ca K (rIsiT K) (oIsi2 T U) := fun Hf H vs ds o Q hx rd h q => by
  match ds, h with
  | [x, .tup [.ty t, .ty u]], hh =>
    dsimp only [oIsi2] at hh
    by_cases hc : t = T ∧ u = U ∧ noScr x = true
    · rw [if_pos hc] at hh
      obtain ⟨rfl, rfl, hs⟩ := hc
      cases en : tyName x with
      | none => rw [en] at hh; cases hh
      | some n =>
        rw [en] at hh
        simp only [Option.bind_some] at hh
        cases ek : L2.kitB n t with
        | none => simp [ek] at hh
        | some b =>
          cases ek2 : L2.kitB n u with
          | none => simp [ek, ek2] at hh
          | some b2 =>
            simp only [ek, ek2, Option.some.injEq] at hh
            subst hh
            obtain ⟨v, w, S, S', e1, r1, r2⟩ := rdl2 rd rfl
            subst e1
            obtain ⟨a, vs, rfl, e2, r3⟩ := rep_tup hx r2
            cases r3 with
            | cons q1 q2 _ _ _ => cases q2 with
              | cons q3 q4 _ _ _ =>
                cases q4
                cases q1
                cases q3
                refine ⟨v, a, [.ty t, .ty u], .type n, [.type t, .type u], b || b2, rfl, e2, .cons (.ty t) (.cons (.ty u) .nil), rep_ty hx r1 en (fun xs e => by subst e; cases hs), ?_, q _ .bl⟩
                refine kitAny_cons (kit_ty ek) (fun hb => ?_) fun hb => by rw [hb]; rfl
                subst hb
                exact kitAny_cons (kit_ty ek2) (fun hb => by subst hb; exact kitAny_nil) fun hb => by rw [hb]; rfl
    · rw [if_neg hc] at hh; cases hh
/-- isinstance(x, C), C a class of the text; T: how the instances of other classes are told, B: the built-in types -/
def oIsiC (C : Nat) (T : Nat → Option Bool) : List D → Option Out
  | [.ins _ C' _, .cls c] => if c = C then (T C').map fun b => .val (.bl b) else none
  | [x, .cls c] => if c = C ∧ noScr x = true then (tyName x).map fun _ => .val (.bl false) else none
  | _ => none
theorem os_isiC {K : PySem.W.Frag} {C : Nat} {T : Nat → Option Bool} (hI : ∀ C' b, T C' = some b → InsTy K (ca C') ∧ PySem.W.kitOne K (.ref (ca C')) (.ref (ca C)) = some b)
    (hB : ∀ d n, tyName d = some n → PySem.W.kitOne K (.type n) (.ref (ca C)) = some false) : OpS ca K (rIsi K) (oIsiC C T) := fun Hf H vs ds o Q hx rd h q => by
  obtain ⟨x, c, rfl⟩ : ∃ x c, ds = [x, .cls c] := by
    unfold oIsiC at h
    split at h
    · exact ⟨_, _, rfl⟩
    · exact ⟨_, _, rfl⟩
    · cases h
  obtain ⟨v, w, S, S', e1, r1, r2⟩ := rdl2 rd rfl
  subst e1
  cases r2
  by_cases hi : ∃ o C' gs, x = .ins o C' gs
  · obtain ⟨o', C', gs, rfl⟩ := hi
    dsimp only [oIsiC] at h
    by_cases hc : c = C
    · rw [if_pos hc] at h
      subst hc
      cases et : T C' with
      | none => rw [et] at h; cases h
      | some b =>
        rw [et] at h
        cases h
        obtain ⟨h1, h2⟩ := hI C' b et
        obtain ⟨a, dx, fs, T', rfl, e2, _, _⟩ := rep_ins hx r1
        exact ⟨.ref a, .ref (ca c), .ref (ca C'), .ref (ca c), b, rfl, .own _, .base (.ins e2 h1.cl h1.ha h1.hn h1.htk h1.hm), h2, q _ .bl⟩
    · rw [if_neg hc] at h; cases h
  · have h' : (if c = C ∧ noScr x = true then (tyName x).map fun _ => Out.val (.bl false) else none) = some o := by
      have := h
      unfold oIsiC at this
      cases x <;> first | exact this | exact absurd ⟨_, _, _, rfl⟩ hi
    by_cases hc : c = C ∧ noScr x = true
    · rw [if_pos hc] at h'
      obtain ⟨rfl, hs⟩ := hc
      cases en : tyName x with
      | none => rw [en] at h'; cases h'
      | some n =>
        rw [en] at h'
        cases h'
        exact ⟨v, .ref (ca c), .type n, .ref (ca c), false, rfl, .own _, rep_ty hx r1 en (fun xs e => by subst e; cases hs), hB x n en, q _ .bl⟩
    · rw [if_neg hc] at h'; cases h'

/-! ### methods called -/
theorem pe_methA {C f : Addr} {CX : CXT} {k : Nat} {fd : FuncData} {ps : List Str} {sp : Sp} {E : L2.St → XK} {m : Str} {o : Expr} {es : List Expr} {to : TE} {t : TA} {apos pos : Pos} {pl : Sem Bool} (he : PE X o to) (c : Cls X.K C) (hm : Meth X.K C m f) (F : FnOk X.prog X.w X.K X.mg X.base CX k f fd ps sp) (hr : Room k X.A) (hb : Binds X.K fd ps [])
    (hx : ∀ σ, PassesAt CX X σ (E σ)) (ha : PA X es t) (hes : (∃ e r, es = e :: r ∧ starEach (e :: r) X.env = (false, eval e X.env) :: starEach r X.env ∧ (backTo pos (starEach r X.env)).any (·.1) = false))
    (ht : eval (.Call (.Attribute o m apos) es [] pos) X.env = (do
      let ov ← eval o X.env
      standAt apos.atName
      let (g, first) ← holding [ov] (getMethod ov m pl)
      callWith pos g first (backTo pos (starEach es X.env)) (backToKw pos (keywordEach [] X.env)))) :
    PE X (.Call (.Attribute o m apos) es [] pos) (fun σ H Q => to σ H fun x H1 => ∃ a dx fs, x = .ref a ∧ H1 a = some (.ins C dx fs) ∧ fs.lookup m = none ∧ t σ H1 fun vs H2 => sp (x :: vs) H2 Q (E σ)) := ⟨fun pins s σ H Q I h => by
  obtain ⟨e, r, rfl, hst, hpl⟩ := hes
  refine PySem.W.methodCall_KW (pl := pl) (thn (he.run pins s σ H _ I h) fun u s1 hh => ?_) ht
  obtain ⟨x, H1, I1, rx, a, dx, fs, ex, ea, lk, q⟩ := hh
  subst ex
  cases rx
  refine getmeth_ok I1 ea c hm lk (PySem.W.callWith_K (first := [.ref a]) (h₀ := X.base) I.ok.mod.kin hm.kp (thn (ha.run pos pins s1 σ H1 _ I1 q) fun us s2 hh => ?_) hst hpl)
  obtain ⟨vs, H2, I2, rs, q2⟩ := hh
  exact ⟨I2.kIn, run_fnS (us := .ref a :: us) (vs := .ref a :: vs) F hr hb (hx σ) I2 (.cons rfl rs) q2⟩⟩
end
end DL

/-! DL13: a, b = x, y; len of instances; tests; what is not followed; [.. for .. for ..]. -/
namespace DL
open PySem L2 PyProof.Rows

def eLenI (C : Nat) (f : MF) (oa : Opd) : ME := fun st => opds [oa] st fun gs st2 => match gs st2 with
  | some [x] => if insC x = some C then (match f [x] with
    | .ok (.int n) _ => if 0 ≤ n ∧ n < 2 ^ 63 then .ok (.int n) st2 else .fail
    | _ => .fail) else .fail
  | _ => .fail
def sFail : MS := fun _ => .fail
def eFail : ME := fun _ => .fail

section
variable {ca : Nat → Addr} {K : PySem.W.Frag} {Hf H Hf1 H1 Hf2 H2 : Hp} {S S1 S2 P P1 P2 : Rg} {R R1 R2 : Nat → Rg} {pp qq : Prop} {σ σ' : L2.St} {st st' : Sl} {v w : V} {d e : D} {vs : List V} {ds xs : List D} {X : Cx} {L : List Nat}
theorem cs_fail {s : Stmt} : CS ca X L s sFail := fun Hf H R σ st E p h => h.elim
theorem css_fail {s : List Stmt} : CSs ca X L s sFail := fun Hf H R σ st E p h => h.elim
theorem ce_fail {s : Expr} : CE ca X s eFail := fun Hf H R σ st E p h => h.elim

/-! ### a, b = x, y -/
theorem PR.store2 {i j : Nat} (hij : i ≠ j) (p : PR ca K Hf H P (RepL ca K Hf H P [v, w] [d, e]) R σ st) : ∃ R', PR ca K Hf H Em True R' ((σ.set i (some v)).set j (some w)) ((st.set i (some d)).set j (some e)) ∧ Tr (jn P R) Hf H (jn Em R') Hf H := by
  obtain ⟨S1, S2, q1, q2, h1, h2, h3⟩ : ∃ S1 S2 : Rg, Rep ca K Hf H S1 v d ∧ Rep ca K Hf H S2 w e ∧ (∀ b, S1 b → P b) ∧ (∀ b, S2 b → P b) ∧ ∀ b, S1 b → S2 b → False := by
    have r := p.pend
    cases r with
    | cons a b c1 c2 c3 =>
      cases b with
      | cons a' b' c1' c2' c3' => exact ⟨_, _, a, a', c1, fun b q => c2 b (c1' b q), fun b q1 q2 => c3 b q1 (c1' b q2)⟩
  have p1 : PR ca K Hf H S1 (Rep ca K Hf H S1 v d) R σ st := p.toP h1 q1
  have p2 := p1.store i
  have p3 : PR ca K Hf H S2 (Rep ca K Hf H S2 w e) (fun k b => if k = i then S1 b else R k b) (σ.set i (some v)) (st.set i (some d)) :=
    ⟨q2, p2.len, p2.at_, p2.dj, fun k b x y => by
      split at y
      · exact h3 b y x
      · exact p.dp k b (h2 b x) y, p.w.mono fun b q => by
      rcases q with q | ⟨k, q⟩
      · exact .inl (h2 b q)
      · split at q
        · exact .inl (h1 b q)
        · exact .inr ⟨k, q⟩⟩
  refine ⟨_, p3.store j, Tr.refl fun b q => ?_⟩
  rcases q with q | ⟨k, q⟩
  · exact q.elim
  · split at q
    · exact .inl (h2 b q)
    · split at q
      · exact .inl (h1 b q)
      · exact .inr ⟨k, q⟩
theorem cs_par {i j : Nat} {x y : Str} {a b : Expr} {ms : MA} {px py pt pos : Pos} {kt k2 pt2} (hc : X.calm = true) (hN : X.N.Nodup) (hi : X.N[i]? = some x) (hj : X.N[j]? = some y) (hij : i ≠ j)
    (hx : X.env.scope.names.lookup x = some .local) (hy : X.env.scope.names.lookup y = some .local) (hL1 : i ∉ L) (hL2 : j ∉ L) (ha : CL ca X [a, b] ms) (hst : NoStar [a, b])
    (hw : swappedStores [.Tuple [.Name x px, .Name y py] kt
        pt] (.Tuple [a, b] k2 pt2) X.env = pure (some [x, y]))
    (hs : swapsWithSole [.Tuple [.Name x px, .Name y py] kt pt]
        (.Tuple [a, b] k2 pt2) pos.line X.env = pure false := by rfl) :
    CS ca X L (.Assign [.Tuple [.Name x px, .Name y py] kt pt] (.Tuple [a, b] k2 pt2) pos) (sPar i j ms) := fun Hf H R σ st E p h => by
  refine ws_of (ps_par hc hN hi hj hij hx hy (wa_pa X [a, b]) hw hs) ?_
  refine wa_wl (fun e' r' q => noStar_suf hst e' r' q _) (ha Hf H R σ st _ p ?_)
  unfold sPar at h
  cases e1 : ms st with
  | fail => rw [e1] at h; exact h
  | exc x st1 => rw [e1] at h; exact fun Hf' H' R' cls dd t q => h Hf' H' R' σ cls dd t q Lk.refl
  | ok ds st1 =>
    rw [e1] at h
    intro Hf1 H1 P1 R1 vs t1 p1
    dsimp only [Res.toS] at h
    match ds, h with
    | [d1, d2], h =>
      obtain ⟨v1, v2, rfl⟩ : ∃ v1 v2, vs = [v1, v2] := by
        have := p1.pend
        cases this with
        | cons a b _ _ _ => cases b with
          | cons a' b' _ _ _ => cases b'; exact ⟨_, _, rfl⟩
      obtain ⟨R', p2, t2⟩ := PR.store2 hij p1
      exact ⟨v1, v2, rfl, h Hf1 H1 R' _ (t1.trans t2) p2 ((Lk.set hL1).trans (Lk.set hL2))⟩

/-! ### tests -/
theorem isTrue_cmpV {l r : Expr} {op : CmpOp} {pos : Pos} {env : Env} {whole : Sem Value} : isTrue (.Compare l [op] [r] pos) env whole = (do let c ← eval (.Compare l [op] [r] pos) env; holding [c] (truthy c)) := by
  rw [isTrue_Compare1, eval_Compare1]
  simp only [bind_assoc]
theorem ct_cmp {a b : Expr} {op : CmpOp} {pos : Pos} {m : ME} (h : CE ca X (.Compare a [op] [b] pos) m) : CT ca X (.Compare a [op] [b] pos) (tE m) := by
  refine ct_e ⟨fun pins s σ H Q I hw => ?_⟩ h
  rw [isTrue_cmpV]
  refine wpAny_bind (thn (hw pins s I) fun v s1 ⟨x, H1, I1, r1, q1⟩ => wpAny_holding ?_)
  obtain ⟨d, rfl, q⟩ := q1
  cases r1
  exact wpAny_truthy_bool ⟨H1,
      I1, q⟩
/-- an expression of any other form -/
theorem ct_val {e : Expr} {m : ME} (h : CE ca X e m) (he : ∀ whole, isTrue e X.env whole = (do let v ← whole; standAt e.pos; holding [v] (truthy v)) := by intro _; rfl) : CT ca X e (tE m) :=
  ct_e (pt_val (we_pe X e) he) h
def Ww (X : Cx) (e : Expr) : TT := fun σ H Q => ∀ (whole : Sem Value) (pins : List (Addr × Obj)) (s : Shared), Inv X pins σ H s → wpAny (model X.prog X.w) X.A (isTrue e X.env whole) (TP X pins σ Q) X.xe s
def CW (ca : Nat → Addr) (X : Cx) (e : Expr) (m : MT) : Prop := ∀ (Hf H : Hp) (R : Nat → Rg) (σ : L2.St) (st : Sl) (Q : Bool → Hp → Prop), PR ca X.K Hf H Em True R σ st → PostB ca X Hf H (jn Em R) σ (m st) Q → Ww X e σ H Q
theorem ww_pw (X : Cx) (e : Expr) : PW X e (Ww X e) := ⟨fun wh pins s _ _ _ I h => h wh pins s I⟩
theorem ct_w {e : Expr} {m : MT} (h : CW ca X e m) : CT ca X e m := fun Hf H R σ st Q p hq pins s I => h Hf H R σ st Q p hq _ pins s I
theorem cw_and1 {a : Expr} {m : MT} {pos : Pos} (h : CT ca X a m) : CW ca X (.BoolOp .And [a] pos) m := fun Hf H R σ st Q p hq wh pins s I => (pw_and1 (wt_pt X a)).run wh pins s σ H Q I (h Hf H R σ st Q p hq)
theorem cw_or1 {a : Expr} {m : MT} {pos : Pos} (h : CT ca X a m) : CW ca X (.BoolOp .Or [a] pos) m := fun Hf H R σ st Q p hq wh pins s I => (pw_or1 (wt_pt X a)).run wh pins s σ H Q I (h Hf H R σ st Q p hq)
theorem post_tB {r : Res Bool} {k : Bool → Sl → Res Bool} {Q Q' : Bool → Hp → Prop} (h : PostB ca X Hf H S σ (r.bind k) Q) (hk : ∀ b st Hf1 H1 R1, Tr S Hf H (jn Em R1) Hf1 H1 → PR ca X.K Hf1 H1 Em True R1 σ st → PostB ca X Hf1 H1 (jn Em R1) σ (k b st) Q → Q' b H1) : PostB ca X Hf H S σ r Q' := by
  cases r with
  | fail => exact h
  | exc x st1 => exact h
  | ok b st1 => exact fun Hf1 H1 R1 t1 p1 => hk b st1 Hf1 H1 R1 t1 p1 (PostB.from t1 h)
theorem cw_and {a b : Expr} {r : List Expr} {ma mb : MT} {pos : Pos} (ha : CT ca X a ma) (hb : CW ca X (.BoolOp .And (b :: r) pos) mb) : CW ca X (.BoolOp .And (a :: b :: r) pos) (tAndM ma mb) := fun Hf H R σ st Q p hq wh pins s I => by
  refine (pw_and (wt_pt X a) (ww_pw X _)).run wh pins s σ H Q I (ha Hf H R σ st _ p ?_)
  refine post_tB hq fun c st1 Hf1 H1 R1 t1 p1 h1 => ?_
  cases c with
  | true => exact hb Hf1 H1 R1 σ st1 Q p1 h1
  | false => exact h1 Hf1 H1 R1 (Tr.refl fun _ q => q) p1
theorem cw_or {a b : Expr} {r : List Expr} {ma mb : MT} {pos : Pos} (ha : CT ca X a ma) (hb : CW ca X (.BoolOp .Or (b :: r) pos) mb) : CW ca X (.BoolOp .Or (a :: b :: r) pos) (tOrM ma mb) := fun Hf H R σ st Q p hq wh pins s I => by
  refine (pw_or (wt_pt X a) (ww_pw X _)).run wh pins s σ H Q I (ha Hf H R σ st _ p ?_)
  refine post_tB hq fun c st1 Hf1 H1 R1 t1 p1 h1 => ?_
  cases c with
  | true => exact h1 Hf1 H1 R1 (Tr.refl fun _ q => q) p1
  | false => exact hb Hf1 H1 R1 σ st1 Q p1 h1
theorem ct_not {a : Expr} {ma : MT} {pos : Pos} (ha : CT ca X a ma) : CT ca X (.UnaryOp .Not a pos) (tNotM ma) := fun Hf H R σ st Q p hq => by
  refine wt_of (pt_not (wt_pt X a)) (ha Hf H R σ st _ p ?_)
  exact post_tB hq fun c st1 Hf1 H1 R1 t1 p1 h1 => h1 Hf1 H1 R1 (Tr.refl fun _ q => q) p1
/-! ### len of an instance -/
theorem run_fnA {CX : CXT} {k : Nat} {f : Addr} {fd : FuncData} {ps : List Str} {sp : Sp} {E : XK} {A : Around} {pins : List (Addr × Obj)} {s : Shared} {us : List Value} {Q : VK} (F : FnOk X.prog X.w X.K X.mg X.base CX k f fd ps sp) (hr : Room k A) (hfr : A.frames = X.A.frames) (hb : Binds X.K fd ps [])
    (hx : PassesAt CX X σ E) (I : Inv X pins σ H s) (r2 : Vals vs us) (h : sp vs H Q E) : wpAny (model X.prog X.w) A (call (.ref f) us) (EP X pins σ Q) X.xe s := by
  have e0 : Env0 X.prog X.w X.K X.mg X.base A X.stack s H
      := by
    have e := I.env0
    exact ⟨hfr.trans e.frames, e.mod, e.bs, e.bsz, e.funs, e.frf, e.hok, e.bare⟩
  have hl := F.len _ _ _ _ h
  have bnd := hb s us I.kIn (by rw [List.append_nil, ← r2.length]; exact hl)
  rw [List.append_nil] at bnd
  refine wpAny_call (codeAny_mono (F.run A X.stack s H _ _ _ Q E hr e0 bnd r2 h) fun res s' got => ?_)
  cases res with
  | error e => exact hx pins _ _ e s' I got
  | ok fl => cases fl with
    | ret w => exact I.after got
    | next => exact got.elim
    | brk => exact got.elim
    | cont => exact got.elim
/-- what the written part says of a class with an own special method -/
structure OwnSpC (K : PySem.W.Frag) (C f : Addr) (name : Str) : Prop where
  obj : ∃ (of : Obj) (nm q : Str) (N : Addr) (bs : List Value) (hdct : Bool) (sn : List Str) (sub : List Value) (ab : Bool) (col : Option Bool) (dd : Option Addr) (k0 k1 k2 k3 k5 : Option Value) (newId : String),
    K.lookup C = some (excClassObj nm q C N bs [.type "object"] hdct sn sub ab col dd k0 k1 k2 k3 k5 newId) ∧ PySem.W.nsOkIn K N = true ∧ PySem.W.nsIn K N name = some (some (.ref f)) ∧ K.lookup f = some of ∧ of.cls = .type "function"
theorem OwnSpC.at {C f : Addr} {name : Str} {pins : List (Addr × Obj)} {s : Shared} {a dx : Addr} {fs : List (Str × V)} {y : Option Value} (c : OwnSpC X.K C f name) (I : Inv X pins σ H s) (ha : H a = some (.ins C dx fs)) (hB : typeLookup (.type "object") name = pure y) : s.heap.OwnSpecial a C f "object" name := by
  obtain ⟨of, nm, q, N, bs, hdct, sn, sub, ab, col, dd, k0, k1, k2, k3, k5, newId, hC, hN0, hN1, hf, hfc⟩ := c.obj
  have hk : X.K.In s.heap := I.kIn
  have hNs : s.heap.Ns N (s.heap.nsMap N) := .of_isNs (PySem.W.isNs_of_in hk hN0)
  obtain ⟨mA, J, _⟩ :=
      ins_get I.hok ha
  exact ⟨_, of, nm, q, N, bs, _, hdct, sn, sub, ab, col, dd, k0, k1, k2, k3, k5, newId, _, y, J.obj, rfl, hk _ _ hC, hNs, ns_some hk hNs hN1, hk _ _ hf, hfc, PySem.F.mro_object, hB⟩
theorem ce_lenI {k C : Nat} {f : Addr} {fd : FuncData} {ps : List Str} {a : Expr} {oa : Opd} {m : MF} {p pos : Pos} (F : FnOk X.prog X.w X.K X.mg X.base (L2.CX X.prog X.w) k f fd ps (spM ca X.K m)) (c : OwnSpC X.K (ca C) f "__len__") (hr : Room (k + 1) X.A) (hb : Binds X.K fd ps [])
    (hg : Gl X "len") (hm : X.mg "len" = none) (ha : CO ca X a oa) (hst : NoStar [a] := by exact ⟨fun _ => rfl, trivial⟩) : CE ca X (.Call (.Name "len" p) [a] [] pos) (eLenI C m oa) := fun Hf H R σ st Q pr h => by
  have key : Wa X [a] σ H fun vs H2 => ∃ x dx fs, vs = [.ref x] ∧ H2 x = some (.ins (ca C) dx fs) ∧ spM ca X.K m [.ref x] H2 (fun v H' => ∃ n : Int, v = .int n ∧ 0 ≤ n ∧ n < 2 ^ 63 ∧ Q (.int n) H') (fun cls dd H' => wX X cls dd σ H') := by
    refine wa_wl (fun e' r' q => noStar_suf hst e' r' q _) (ops_sound (.cons ha .nil) pr h fun gs st2 Hf2 H2 R2 vs t2 p2 hr2 hk => ?_)
    cases g : gs st2 with
    | none => rw [g] at hk; exact hk.elim
    | some ds =>
      rw [g] at hk
      obtain ⟨x, rfl⟩ : ∃ x, ds = [x] := by
        match ds, hk with
        | [x], _ => exact ⟨x, rfl⟩
      dsimp only at hk
      by_cases hc : insC x = some C
      · rw [if_pos hc] at hk
        obtain ⟨v, S', e1, r1⟩ := rdl1 (hr2 _ g) rfl
        subst e1
        have h1 : hot x = false := by
          cases x <;> try (cases hc; done)
          rename_i o _ _
          cases o
          · rfl
          · cases hc
        have q1 := r1.cold (S' := Em) h1
        cases x <;> try (cases hc; done)
        rename_i o1 C1 g1
        obtain ⟨a, dx, fs, T, rfl, e2, _, _⟩ := rep_ins p2.w.ex q1
        have d1 : C1 = C := by
          cases o1
          · exact Option.some.inj hc
          · cases hc
        subst d1
        have rl : RepL ca X.K Hf2 H2 Em [.ref a] [.ins o1 C1 g1] := RepL.one q1
        refine ⟨a, dx, fs, rfl, e2, Hf2, Em, _, rl, p2.w.mono fun _ q => q.elim, ?_⟩
        refine postC_of (σ := σ) (st := st2) (R := R2) (p2.imp fun _ => rl) ?_
        cases em : m [.ins o1 C1 g1] with
        | fail => rw [em] at hk; exact hk
        | exc x0 ps => rw [em] at hk; exact hk.elim
        | ok d ps =>
          rw [em] at hk
          cases d with
          | int n =>
            dsimp only at hk
            by_cases hn : 0 ≤ n ∧ n < 2 ^ 63
            · rw [if_pos hn] at hk
              intro Hf3 H3 P3 R3 v3 t3 p3
              exact ⟨n, rep_int p3.pend, hn.1, hn.2, hk Hf3 H3 Em R3 _ (less0 t3) (p3.drop.put .int)⟩
            · rw [if_neg hn] at hk; exact hk.elim
          | _ => exact hk.elim
      · rw [if_neg hc] at hk; exact hk.elim
  intro pins s I
  refine wpAny_Call_Name_kw (ld_blt I hg hm boot_len ?_)
  refine PyProof.Rows.callWith_builtin1 (thn (key pos pins s I) fun us s1 ⟨vs, H1, I1, r1, q1⟩ => ?_) (hst.1 _) rfl
  obtain ⟨x, dx, fs, rfl, e2, sp⟩ := q1
  obtain ⟨u, rfl, rx⟩ := vals1 r1
  obtain rfl : u = .ref x := rx
  obtain ⟨hp, g, dr, tk, os⟩ :=
      s1
  refine len_own (c.at (y := none) I1 e2 (by with_unfolding_all rfl)) ?_
  refine thn (run_fnA F hr.in1 (show X.A.in1.frames = X.A.frames from rfl) hb (passAt (takes_wX X) σ) I1 r1 sp) fun v s' ⟨vv, H', I', rv, n, ev, n0, n1, q⟩ => ?_
  subst ev
  obtain ⟨u, rfl⟩ := rv
  exact ⟨n, u, rfl, n0, n1, .int n, H', I'.kept (t' := s'.toks + 1) fun b o e => e, ⟨_, rfl⟩, q⟩
end
end DL

/-! DL14: [e for x in xs for y in ys if t]. -/
namespace DL
open PySem L2 PyProof.Rows
def comp2D (g : MG) (src1 : Sl → Res (List D)) (g1 : MG) (t1 : MT) (e : ME) (vs vs1 : List Nat) : List D → Sl → List D → Res (List D)
  | [], st, acc => .ok acc st
  | d :: ds, st, acc => (g d st).noX.bind fun _ st1 => (src1 st1).noX.bind fun ds1 st2 => (compD g1 t1 e vs1 ds1 (wipeS st2 vs1) acc).bind fun acc' st3 => comp2D g src1 g1 t1 e vs vs1 ds (wipeS st3 vs) acc'
def eLc2 (src : Sl → Res (List D)) (g : MG) (src1 : Sl → Res (List D)) (g1 : MG) (t1 : MT) (e : ME) (vs vs1 : List Nat) : ME := fun st => (src st).bind fun ds st1 => (comp2D g src1 g1 t1 e vs vs1 ds (wipeS st1 vs) []).bind fun acc st2 => .ok (.lst true acc) st2
section
variable {ca : Nat → Addr} {K : PySem.W.Frag} {Hf H Hf1 H1 Hf2 H2 : Hp} {S S1 S2 P P1 P2 : Rg} {R R1 R2 : Nat → Rg} {pp qq : Prop} {σ σ' : L2.St} {st st' : Sl} {v : V} {d : D} {vs : List V} {ds : List D} {X : Cx} {L : List Nat}
theorem compD_noX {g : MG} {t : MT} {e : ME} {w : List Nat} {x : Xc} {st' : Sl} : ∀ (ds : List D) (st : Sl) (acc : List D), compD g t e w ds st acc ≠ .exc x st'
  | [], st, acc => by rw [compD]; exact fun h => by cases h
  | d :: ds, st, acc => by
    rw [compD]
    intro h
    cases eg : g d st with
    | fail => rw [eg] at h; cases h
    | exc x0 st2 => rw [eg] at h; cases h
    | ok a st2 =>
      rw [eg] at h
      dsimp only [Res.bind, Res.noX] at h
      cases et : t st2 with
      | fail => rw [et] at h; cases h
      | exc x0 st4 => rw [et] at h; cases h
      | ok k st4 =>
        rw [et] at h
        dsimp only at h
        cases k with
        | false => exact compD_noX ds _ _ h
        | true =>
          rw [if_pos rfl] at h
          cases ee : e st4 with
          | fail => rw [ee] at h; cases h
          | exc x0 st5 => rw [ee] at h; cases h
          | ok y st5 =>
            rw [ee] at h
            dsimp only at h
            split at h
            · exact compD_noX ds _ _ h
            · cases h
/-- a loop of a comprehension, from a state with the new list -/
theorem lc_loop {t : TG} {g : MG} {tt : TT} {mt : MT} {te : TE} {me : ME} {w : List Nat}
    (hg : ∀ (Hf H : Hp) (P : Rg) (R : Nat → Rg) (σ : L2.St) (st : Sl) (v : V) (d : D) (Q : L2.St → Hp → Prop), PR ca X.K Hf H P (Rep ca X.K Hf H P v d) R σ st →
      (match g d st with
        | .ok _ st' => ∀ Hf' H' R' σ', Tr (jn P R) Hf H (jn Em R') Hf' H' → PR ca X.K Hf' H' Em True R' σ' st' → Lk (but σ.length w) σ σ' → Q σ' H'
        | _ => False) → t v σ H Q)
    (ht : ∀ (Hf H : Hp) (R : Nat → Rg) (σ : L2.St) (st : Sl) (Q : Bool → Hp → Prop), PR ca X.K Hf H Em True R σ st → (match mt st with
        | .ok k st' => ∀ Hf' H' R', Tr (jn Em R) Hf H (jn Em R') Hf' H' → PR ca X.K Hf' H' Em True R' σ st' → Q k H'
        | _ => False) → tt σ H Q)
    (he : ∀ (Hf H : Hp) (R : Nat → Rg) (σ : L2.St) (st : Sl) (Q : VK), PR ca X.K Hf H Em True R σ st → (match me st with
        | .ok d st' => ∀ Hf' H' P R' v, Tr (jn Em R) Hf H (jn P R') Hf' H' → PR ca X.K Hf' H' P (Rep ca X.K Hf' H' P v d) R' σ st' → Q v H'
        | _ => False) → te σ H Q)
    {J : It} {Dl : Addr} {A0 : Rg} {acc0 : List D} {st1 : Sl} {Fin : Hp → Prop} (it : ItD ca X.K J Hf1 ds) (ac0 : Acc ca X.K Hf1 H1 Dl A0 acc0 R1 (L2.wipe σ w) st1)
    (h1 : match compD g mt me w ds st1 acc0 with
      | .ok acc' st' => ∀ Hf' H' A' R', Tr (jn (fun b => b = Dl ∨ A0 b) R1) Hf1 H1 (jn (fun b => b = Dl ∨ A' b) R') Hf' H' → Acc ca X.K Hf' H' Dl A' acc' R' (L2.wipe σ w) st' → Fin H'
      | _ => False) :
    ∃ W : Nat → Nat → Hp → Prop, (∃ m, W 0 m H1) ∧ ∀ i m H, W i m H → (J.stop i H ∧ Fin H) ∨ (J.go i H ∧ ∃ Nx : Hp → Prop, (∀ H', Nx H' → ∃ m', m' < m ∧ W (i + 1) m' H') ∧ ∀ x H', J.yld i H x H' → t x (L2.wipe σ w) H' fun σ2 H2 => L2.wipe σ2 w = L2.wipe σ w ∧ tt σ2 H2 fun b H3 =>
      if b = true then te σ2 H3 fun y H4 => ∃ acc, H4 Dl = some (.lst acc) ∧ acc.length < sizeLine ∧ Nx (upd H4 Dl (.lst (acc ++ [y]))) else Nx H3) := by
  refine ⟨fun i m H' => m = ds.length - i ∧ i ≤ ds.length ∧ ∃ Hf' R' st' A acc, Tr (jn (fun b => b = Dl ∨ A0 b) R1) Hf1 H1 (jn (fun b => b = Dl ∨ A b) R') Hf' H' ∧ Acc ca X.K Hf' H' Dl A acc R' (L2.wipe σ w) st' ∧ compD g mt me w (ds.drop i) st' acc = compD g mt me w ds st1 acc0,
    ⟨ds.length, by simp, Nat.zero_le _, Hf1, R1, st1, A0, acc0, Tr.refl fun _ q => q, ac0, rfl⟩, ?_⟩
  rintro i m H' ⟨rfl, hi', Hf', R', st', A, acc, t', ac, ef⟩
  have p' := ac.pr
  obtain ⟨g1, g2, g3⟩ := it Hf' H' t'.fx p'.w.ex
  by_cases hlt : i < ds.length
  · refine .inr ⟨g1 i hlt, fun H2 => i + 1 ≤ ds.length ∧ ∃ Hf2 R2 st2 A2 acc2, Tr (jn (fun b => b = Dl ∨ A0 b) R1) Hf1 H1 (jn (fun b => b = Dl ∨ A2 b) R2) Hf2 H2 ∧ Acc ca X.K Hf2 H2 Dl A2 acc2 R2 (L2.wipe σ w) st2 ∧ compD g mt me w (ds.drop (i + 1)) st2 acc2 = compD g mt me w ds st1 acc0,
      fun H2 ⟨q1, q2⟩ => ⟨ds.length - (i + 1), by omega, rfl, q1, q2⟩, fun x H2 hy => ?_⟩
    obtain ⟨d, ed⟩ : ∃ d, ds[i]? = some d := ⟨ds[i], by simp [hlt]⟩
    obtain ⟨hd, Hf2, x1, x2, x3, x4, rx⟩ := g3 i d x H2 ed hy
    obtain ⟨p2, t2⟩ := p'.drop.yield x1 x2 x3 x4
    have edr : ds.drop i = d :: ds.drop (i + 1) := by
      rw [List.drop_eq_getElem_cons
          hlt]
      simp only [List.getElem?_eq_getElem hlt, Option.some.injEq] at ed
      rw [ed]
    rw [edr, compD] at ef
    have hnf : compD g mt me w ds st1 acc0 = .fail → False := fun z => by rw [z] at h1; exact h1
    -- the new list is beside the slots, all the way
    obtain ⟨vs0, eD, rA, nA⟩ := p'.pend
    refine hg Hf2 H2 Em R' (L2.wipe σ w) st' x d _ (p2.put rx) ?_
    cases eg : g d st' with
    | fail => rw [eg] at ef; exact hnf ef.symm
    | exc x0 st2 => rw [eg] at ef; exact hnf ef.symm
    | ok a st2 =>
      rw [eg] at ef
      intro Hf3 H3 R3 σ3 t3 p3 k3
      have ew : L2.wipe σ3 w = L2.wipe σ w := by rw [wipe_lk k3, wipe_wipe]
      refine ⟨ew, ?_⟩
      refine ht Hf3 H3 R3 σ3 st2 _ p3 ?_
      dsimp only [Res.bind, Res.noX] at ef
      cases et : mt st2 with
      | fail => rw [et] at ef; exact hnf ef.symm
      | exc x0 st4 => rw [et] at ef; exact hnf ef.symm
      | ok k st4 =>
        rw [et] at ef
        dsimp only at ef
        intro Hf4 H4 R4 t4 p4
        have tA := (t2.trans t3).trans t4
        have pAcc : PR ca X.K Hf' H' (fun b => b = Dl ∨ A b) True R' (L2.wipe σ w) st' := p'.imp fun _ => trivial
        cases k with
        | false =>
          show _ ≤ _ ∧ _
          rw [if_neg (by decide)] at ef
          obtain ⟨c1, c2, c3, c4, c5⟩ := PR.carry (ppf := fun _ _ => True) pAcc tA p4
          refine ⟨by omega, Hf4, R4, wipeS st4 w, A, acc, (t'.trans c5).less (fun b q => ?_), ⟨?_⟩, ef⟩
          · rcases q with q | q
            · exact .inl (.inl q)
            · exact .inr q
          · have p5 : PR ca X.K Hf4 H4 (fun b => b = Dl ∨ A b) (∃ vs, H4 Dl = some (.lst vs) ∧ RepL ca X.K Hf4 H4 A vs acc ∧ ¬ A Dl) R4 σ3 st4 :=
              ⟨⟨vs0, c1 Dl (.inl rfl) _ eD, rA.keep tA.fx (fun b q => c1 b (.inr q)), nA⟩, p4.len, p4.at_, p4.dj, c3, c4.mono fun b q => by
                rcases q with q | q
                · exact .inl (.inl q)
                · exact .inr q⟩
            have := p5.wipe w
            rw [ew] at this
            exact this
        | true =>
          show te σ3 H4 _
          rw [if_pos rfl] at ef
          refine he Hf4 H4 R4 σ3 st4 _ p4 ?_
          cases ee : me st4 with
          | fail => rw [ee] at ef; exact hnf ef.symm
          | exc x0 st5 => rw [ee] at ef; exact hnf ef.symm
          | ok y st5 =>
            rw [ee] at ef
            dsimp only at ef
            intro Hf5 H5 P5 R5 vy t5 p5
            obtain ⟨c1, c2, c3, c4, c5⟩ := PR.carry (ppf := fun _ _ => True) pAcc (tA.trans t5) p5
            by_cases hl : acc.length < 16777216
            · rw [if_pos hl] at ef
              have eD5 := c1 Dl (.inl rfl) _ eD
              have rA5 := rA.keep (tA.trans t5).fx (fun b q => c1 b (.inr q))
              refine ⟨vs0, eD5, by rw [rA.length, ← sz_eq]; exact hl, by omega, Hf5, R5, wipeS st5 w, fun b => A b ∨ P5 b, acc ++ [y], ?_, ⟨?_⟩, ef⟩
              · refine ((t'.trans c5).trans ⟨fun _ _ e => e, fun b o e n => ?_, fun b q => .inl q, fun _ _ e => .inl e⟩).less fun b q => ?_
                · rw [upd_ne fun z => n (.inl (.inl (.inl z)))]; exact e
                · rcases q with (q | q | q) | q
                  · exact .inl (.inl (.inl q))
                  · exact .inl (.inl (.inr q))
                  · exact .inl (.inr q)
                  · exact .inr q
              · have hnD : ∀ b, (A b ∨ P5 b) → b ≠ Dl := fun b q z => by
                  subst z
                  rcases q with q | q
                  · exact nA q
                  · exact c2 b (.inl rfl) q
                have hk : ∀ b o, b ≠ Dl → H5 b = some o → upd H5 Dl (.lst (vs0 ++ [vy])) b = some o := fun b o n e => by rw [upd_ne n]; exact e
                have rN := (repL_snoc rA5 p5.pend fun b q1 q2 => c2 b (.inr q1) q2).keep (H' := upd H5 Dl (.lst (vs0 ++ [vy]))) (fun _ _ e => e) fun b q o e => hk b o (hnD b q) e
                have p6 : PR ca X.K Hf5 (upd H5 Dl (.lst (vs0 ++ [vy]))) (fun b => b = Dl ∨ A b ∨ P5 b) (∃ vs, (upd H5 Dl (.lst (vs0 ++ [vy]))) Dl = some (.lst vs) ∧ RepL ca X.K Hf5 (upd H5 Dl (.lst (vs0 ++ [vy]))) (fun b => A b ∨ P5 b) vs (acc ++ [y]) ∧ ¬ (A Dl ∨ P5 Dl)) R5 σ3 st5 :=
                  ⟨⟨_, upd_same, rN, fun q => hnD Dl q rfl⟩, p5.len, fun k d e => by
                    obtain ⟨v, e1, r⟩ := p5.at_ k d e
                    exact ⟨v, e1, r.keep (fun _ _ e => e) fun b q o e => hk b o (fun z => c3 k b (.inl z) q) e⟩, p5.dj, fun k b q1 q2 => by
                    rcases q1 with q | q | q
                    · exact c3 k b (.inl q) q2
                    · exact c3 k b (.inr q) q2
                    · exact p5.dp k b q q2, ⟨fun b o e => by
                      by_cases z : b = Dl
                      · subst z
                        have := c4.nf b (.inl (.inl (.inl rfl)))
                        rw [this] at e; cases e
                      · exact hk b o z (c4.ex b o e), fun b q => by
                      by_cases z : b = Dl
                      · subst z; exact ⟨_, upd_same⟩
                      · obtain ⟨o, e⟩ := c4.dm b (by
                          rcases q with (q | q | q) | q
                          · exact .inl (.inl (.inl q))
                          · exact .inl (.inl (.inr q))
                          · exact .inl (.inr q)
                          · exact .inr q)
                        exact ⟨o, hk b o z e⟩, fun b q => c4.nf b (by
                          rcases q with (q | q | q) | q
                          · exact .inl (.inl (.inl q))
                          · exact .inl (.inl (.inr q))
                          · exact .inl (.inr q)
                          · exact .inr q)⟩⟩
                have := p6.wipe w
                rw [ew] at this
                exact this
            · rw [if_neg hl] at ef; exact (hnf ef.symm).elim
  · have e1 : i = ds.length := by omega
    subst e1
    refine .inl ⟨g2, ?_⟩
    rw [List.drop_length, compD] at ef
    rw [← ef] at h1
    exact h1 Hf' H' A R' t' ac
theorem wipe_sub {w w1 : List Nat} (h : ∀ i ∈ w1, i ∈ w) : L2.wipe (L2.wipe σ w1) w = L2.wipe σ w := wipe_eq (wipe_length σ w1) fun i hi => by rw [wipe_get, if_neg fun q => hi (h i q)]
theorem eLc2_src {src : Sl → Res (List D)} {g : MG} {src1 : Sl → Res (List D)} {g1 : MG} {t : MT} {e : ME} {w w1 : List Nat} {Q : VK} (h : Post ca X Hf H S σ (eLc2 src g src1 g1 t e w w1 st) Q) {Q' : It → Hp → Prop}
    (hk : ∀ ds st1 Hf1 H1 R1 J, Tr S Hf H (jn Em R1) Hf1 H1 → PR ca X.K Hf1 H1 Em True R1 σ st1 → ItD ca X.K J Hf1 ds → Post ca X Hf1 H1 (jn Em R1) σ ((comp2D g src1 g1 t e w w1 ds (wipeS st1 w) []).bind fun acc st2 => .ok (.lst true acc) st2) Q → Q' J H1) : PostI ca X Hf H S σ (src st) Q' := by
  unfold eLc2 at h
  cases r : src st with
  | fail => rw [r] at h; exact h
  | exc x st1 => rw [r] at h; exact h
  | ok ds st1 =>
    rw [r] at h
    exact fun Hf1 H1 R1 J t1 p1 i1 => hk ds st1 Hf1 H1 R1 J t1 p1 i1 (Post.from t1 h)
theorem lc2_read {wi wi1 : TI} {src src1 : Sl → Res (List D)} {tg elt iter : Expr} {t t1 : TG} {g g1 : MG} {tt1 : TT} {mt1 : MT} {te : TE} {me : ME} {w w1 : List Nat} (hw : ∀ i ∈ w1, i ∈ w)
    (hi : CI ca X tg iter wi src)
    (hg : ∀ (Hf H : Hp) (P : Rg) (R : Nat → Rg) (σ : L2.St) (st : Sl) (v : V) (d : D) (Q : L2.St → Hp → Prop), PR ca X.K Hf H P (Rep ca X.K Hf H P v d) R σ st →
      (match g d st with
        | .ok _ st' => ∀ Hf' H' R' σ', Tr (jn P R) Hf H (jn Em R') Hf' H' → PR ca X.K Hf' H' Em True R' σ' st' → Lk (but σ.length w) σ σ' → Q σ' H'
        | _ => False) → t v σ H Q)
    (hi1 : ∀ (Hf H : Hp) (R : Nat → Rg) (σ : L2.St) (st : Sl) (Q : It → Hp → Prop), PR ca X.K Hf H Em True R σ st → (match src1 st with
        | .ok ds st' => ∀ Hf' H' R' J, Tr (jn Em R) Hf H (jn Em R') Hf' H' → PR ca X.K Hf' H' Em True R' σ st' → ItD ca X.K J Hf' ds → Q J H'
        | _ => False) → wi1 σ H Q)
    (hg1 : ∀ (Hf H : Hp) (P : Rg) (R : Nat → Rg) (σ : L2.St) (st : Sl) (v : V) (d : D) (Q : L2.St → Hp → Prop), PR ca X.K Hf H P (Rep ca X.K Hf H P v d) R σ st →
      (match g1 d st with
        | .ok _ st' => ∀ Hf' H' R' σ', Tr (jn P R) Hf H (jn Em R') Hf' H' → PR ca X.K Hf' H' Em True R' σ' st' → Lk (but σ.length w1) σ σ' → Q σ' H'
        | _ => False) → t1 v σ H Q)
    (ht1 : ∀ (Hf H : Hp) (R : Nat → Rg) (σ : L2.St) (st : Sl) (Q : Bool → Hp → Prop), PR ca X.K Hf H Em True R σ st → (match mt1 st with
        | .ok k st' => ∀ Hf' H' R', Tr (jn Em R) Hf H (jn Em R') Hf' H' → PR ca X.K Hf' H' Em True R' σ st' → Q k H'
        | _ => False) → tt1 σ H Q)
    (he : ∀ (Hf H : Hp) (R : Nat → Rg) (σ : L2.St) (st : Sl) (Q : VK), PR ca X.K Hf H Em True R σ st → (match me st with
        | .ok d st' => ∀ Hf' H' P R' v, Tr (jn Em R) Hf H (jn P R') Hf' H' → PR ca X.K Hf' H' P (Rep ca X.K Hf' H' P v d) R' σ st' → Q v H'
        | _ => False) → te σ H Q)
    {Q : VK} (p : PR ca X.K Hf H Em True R σ st) (h : Post ca X Hf H (jn Em R) σ (eLc2 src g src1 g1 mt1 me w w1 st) Q) : tLc2 wi t tYes wi1 t1 tt1 te w w1 σ H Q := by
  refine hi.2 Hf H R σ st _ p (eLc2_src h fun ds st1 Hf1 H1 R1 J t1' p1 it h1 => ?_)
  clear h t1' p
  intro Dl hD
  have hD1 : Hf1 Dl = none := (wl_new (o := .lst []) p1.w hD).2
  refine ⟨fun i m H' => m = ds.length - i ∧ i ≤ ds.length ∧ ∃ Hf' R' st' A acc, Tr (jn Em R1) Hf1 H1 (jn (fun b => b = Dl ∨ A b) R') Hf' H' ∧ Acc ca X.K Hf' H' Dl A acc R' (L2.wipe σ w) st' ∧ comp2D g src1 g1 mt1 me w w1 (ds.drop i) st' acc = comp2D g src1 g1 mt1 me w w1 ds (wipeS st1 w) [],
    ⟨ds.length, by simp, Nat.zero_le _, Hf1, R1, wipeS st1 w, Em, [], ?_, ⟨?_⟩, rfl⟩, ?_⟩
  · refine ⟨fun _ _ e => e, fun b o e _ => upd_keep hD b o e, fun b q => ?_, fun _ _ e => .inl e⟩
    rcases q with (q | q) | q
    · subst q; exact .inr hD
    · exact q.elim
    · exact .inl (.inr q)
  · have := (p1.wipe w).grow (o := .lst []) hD (P' := fun b => b = Dl ∨ Em b) (qq := ∃ vs, (upd H1 Dl (.lst [])) Dl = some (.lst vs) ∧ RepL ca X.K Hf1 (upd H1 Dl (.lst [])) Em vs [] ∧ ¬ Em Dl) ⟨[], upd_same, .nil, fun q => q⟩ (fun b q => q.elim id fun q => q.elim)
    exact this
  rintro i m H' ⟨rfl, hi', Hf', R', st', A, acc, t', ac, ef⟩
  have p' := ac.pr
  obtain ⟨g1', g2, g3⟩ := it Hf' H' t'.fx p'.w.ex
  by_cases hlt : i < ds.length
  · refine .inr ⟨g1' i hlt, fun H2 => i + 1 ≤ ds.length ∧ ∃ Hf2 R2 st2 A2 acc2, Tr (jn Em R1) Hf1 H1 (jn (fun b => b = Dl ∨ A2 b) R2) Hf2 H2 ∧ Acc ca X.K Hf2 H2 Dl A2 acc2 R2 (L2.wipe σ w) st2 ∧ comp2D g src1 g1 mt1 me w w1 (ds.drop (i + 1)) st2 acc2 = comp2D g src1 g1 mt1 me w w1 ds (wipeS st1 w) [],
      fun H2 ⟨q1, q2⟩ => ⟨ds.length - (i + 1), by omega, rfl, q1, q2⟩, fun x H2 hy => ?_⟩
    obtain ⟨d, ed⟩ : ∃ d, ds[i]? = some d := ⟨ds[i], by simp [hlt]⟩
    obtain ⟨hd, Hf2, x1, x2, x3, x4, rx⟩ := g3 i d x H2 ed hy
    obtain ⟨p2, t2⟩ := p'.drop.yield x1 x2 x3 x4
    have edr : ds.drop i = d :: ds.drop (i + 1) := by
      rw [List.drop_eq_getElem_cons
          hlt]
      simp only [List.getElem?_eq_getElem hlt, Option.some.injEq] at ed
      rw [ed]
    rw [edr, comp2D] at ef
    have hnf : comp2D g src1 g1 mt1 me w w1 ds (wipeS st1 w) [] = .fail → False := fun z => by rw [z] at h1; exact h1
    obtain ⟨vs0, eD, rA, nA⟩ := p'.pend
    refine hg Hf2 H2 Em R' (L2.wipe σ w) st' x d _ (p2.put rx) ?_
    cases eg : g d st' with
    | fail => rw [eg] at ef; exact hnf ef.symm
    | exc x0 st2 => rw [eg] at ef; exact hnf ef.symm
    | ok a st2 =>
      rw [eg] at ef
      intro Hf3 H3 R3 σ3 t3 p3 k3
      have ew : L2.wipe σ3 w = L2.wipe σ w := by rw [wipe_lk k3, wipe_wipe]
      refine ⟨ew, ?_⟩
      unfold tYes
      dsimp only
      rw [if_pos rfl]
      refine hi1 Hf3 H3 R3 σ3 st2 _ p3 ?_
      dsimp only [Res.bind, Res.noX] at ef
      cases et : src1 st2 with
      | fail => rw [et] at ef; exact hnf ef.symm
      | exc x0 st4 => rw [et] at ef; exact hnf ef.symm
      | ok ds1 st4 =>
        rw [et] at ef
        dsimp only at ef
        intro Hf4 H4 R4 J1 t4 p4 it1
        have tA := (t2.trans t3).trans t4
        have pAcc : PR ca X.K Hf' H' (fun b => b = Dl ∨ A b) True R' (L2.wipe σ w) st' := p'.imp fun _ => trivial
        obtain ⟨c1, c2, c3, c4, c5⟩ := PR.carry (ppf := fun _ _ => True) pAcc tA p4
        have p5 : PR ca X.K Hf4 H4 (fun b => b = Dl ∨ A b) (∃ vs, H4 Dl = some (.lst vs) ∧ RepL ca X.K Hf4 H4 A vs acc ∧ ¬ A Dl) R4 σ3 st4 :=
          ⟨⟨vs0, c1 Dl (.inl rfl) _ eD, rA.keep tA.fx (fun b q => c1 b (.inr q)), nA⟩, p4.len, p4.at_, p4.dj, c3, c4.mono fun b q => by
            rcases q with q | q
            · exact .inl (.inl q)
            · exact .inr q⟩
        refine lc_loop hg1 ht1 he it1 ⟨p5.wipe w1⟩ ?_
        cases ec : compD g1 mt1 me w1 ds1 (wipeS st4 w1) acc with
        | fail => rw [ec] at ef; exact hnf ef.symm
        | exc x0 st5 => exact compD_noX _ _ _ ec
        | ok acc' st5 =>
          rw [ec] at ef
          intro Hf5 H5 A5 R5 t5 ac5
          have q5 := ac5.pr.wipe w
          rw [wipe_sub hw, ew] at q5
          exact ⟨by omega, Hf5, R5, wipeS st5 w, A5, acc', (t'.trans (c5.less fun b q => by
            rcases q with q | q
            · exact .inl (.inl q)
            · exact .inr q)).trans t5, ⟨q5⟩, ef⟩
  · have e1 : i = ds.length := by omega
    subst e1
    refine .inl ⟨g2, ?_⟩
    rw [List.drop_length, comp2D] at ef
    rw [← ef] at h1
    have h2 : Post ca X Hf1 H1 (jn Em R1) σ (.ok (.lst true acc) st') Q := h1
    obtain ⟨vs0, eD, rA, nA⟩ := p'.pend
    exact h2 Hf' H' (fun b => b = Dl ∨ A b) R' (.ref Dl) t' ((p'.unwipe).imp fun _ => .lstO (.inl rfl) eD (rA.mono fun b q => ⟨.inr q, fun z => nA (z ▸ q)⟩))
/-- [elt for tg in iter for tg1 in iter1 (if c)] -/
def TiB (X : Cx) (scope : Scope) (wi : Cx → TI) : TI := fun σ H Q => ∀ s H0 C cl fp, wi (bk X scope s H0 C cl fp) σ H Q
theorem pi_tiB {scope : Scope} {tg iter : Expr} {wi : Cx → TI} (h : ∀ s H C cl fp, PI (bk X scope s H C cl fp) tg iter (wi (bk X scope s H C cl fp))) : ∀ (s : Shared) (H : Hp) (C : Addr) (cl : List (Str × Addr)) (fp : List Addr), PI (bk X scope s H C cl fp) tg iter (TiB X scope wi) := fun s H C cl fp => ⟨fun pins s1 σ H1 Q I q => (h s H C cl fp).run pins s1 σ H1 Q I (q s H C cl fp)⟩
theorem lc2_cer {wi : TI} {wi1 : Cx → TI} {src src1 : Sl → Res (List D)} {tg tg1 elt iter iter1 : Expr} {scope : Scope} {t t1 : TG} {g g1 : MG} {tt1 : TT} {me : ME} {mt1 : MT} {w w1 : List Nat} (hw : ∀ i ∈ w1, i ∈ w)
    (hi : CI ca X tg iter wi src) (hg : ∀ n s H C cl fp, CG ca (bk X scope s H C cl fp) (but n w) tg t g)
    (hi1 : ∀ s H C cl fp, CI ca (bk X scope s H C cl fp) tg1 iter1 (wi1 (bk X scope s H C cl fp)) src1) (hg1 : ∀ n s H C cl fp, CG ca (bk X scope s H C cl fp) (but n w1) tg1 t1 g1)
    (ht : ∀ (Hf H : Hp) (R : Nat → Rg) (σ : L2.St) (st : Sl) (Q : Bool → Hp → Prop), PR ca X.K Hf H Em True R σ st → (match mt1 st with
        | .ok k st' => ∀ Hf' H' R', Tr (jn Em R) Hf H (jn Em R') Hf' H' → PR ca X.K Hf' H' Em True R' σ st' → Q k H'
        | _ => False) → tt1 σ H Q)
    (he : ∀ s H C cl fp, CE ca (bk X scope s H C cl fp) elt me) : CER ca X (tLc2 wi t tYes (TiB X scope wi1) t1 tt1 (TeB X scope elt) w w1) (eLc2 src g src1 g1 mt1 me w w1) :=
  fun Hf H R σ st Q p h => lc2_read (elt := elt) hw hi (fun Hf H P R σ st v d Q p h => (hg σ.length {} H 0 [] []).2 Hf H P R σ st v d Q p h)
    (fun Hf H R σ st Q p h s H0 C cl fp => (hi1 s H0 C cl fp).2 Hf H R σ st Q p (by
      cases e : src1 st with
      | ok d st1 => rw [e] at h; exact h
      | exc x st1 => rw [e] at h; exact h.elim
      | fail => rw [e] at h; exact h))
    (fun Hf H P R σ st v d Q p h => (hg1 σ.length {} H 0 [] []).2 Hf H P R σ st v d Q p h) ht
    (fun Hf H R σ st Q p h s H0 C cl fp => he s H0 C cl fp Hf H R σ st Q p (by
      cases e : me st with
      | ok d st1 => rw [e] at h; exact h
      | exc x st1 => rw [e] at h; exact h.elim
      | fail => rw [e] at h; exact h)) p h
theorem ce_lc2If {wi : TI} {wi1 : Cx → TI} {src src1 : Sl → Res (List D)} {tg tg1 elt iter iter1 c : Expr} {scope : Scope} {own : List (Str × Nat)} {pos : Pos} {t t1 : TG} {g g1 : MG} {me : ME} {mt : MT} (vs1 : List Nat) (hc : X.calm = true) (hN : X.N.Nodup) (hi : CI ca X tg iter wi src) (ok : BlkOk X.N X.env.scope scope own) (hv : ∀ i ∈ vs1, i ∈ own.map (·.2))
    (hg : ∀ n s H C cl fp, CG ca (bk X scope s H C cl fp) (but n (own.map (·.2))) tg t g)
    (hi1 : ∀ s H C cl fp, CI ca (bk X scope s H C cl fp) tg1 iter1 (wi1 (bk X scope s H C cl fp)) src1) (hg1 : ∀ n s H C cl fp, CG ca (bk X scope s H C cl fp) (but n vs1) tg1 t1 g1)
    (ht : ∀ s H C cl fp, CT ca (bk X scope s H C cl fp) c mt) (he : ∀ s H C cl fp, CE ca (bk X scope s H C cl fp) elt me) (hs : ∀ x, foldedSetIterable iter X.env x = pure x := by intro _; rfl) (hs1 : ∀ env x, foldedSetIterable iter1 env x = pure x := by intro _ _; rfl) :
    CE ca X (.ListComp elt [⟨tg, iter, [], 0⟩, ⟨tg1, iter1, [c], 0⟩] scope pos) (eLc2 src g src1 g1 mt me (own.map (·.2)) vs1) :=
  ce_of (pe_lc2 hc hN hi.1 ok hv (fun s H C cl fp => (hg 0 s H C cl fp).1) (fun _ _ _ _ _ => pts_nil) (pi_tiB fun s H C cl fp => (hi1 s H C cl fp).1) (fun s H C cl fp => (hg1 0 s H C cl fp).1) pt_ttB pe_teB hs hs1)
    (lc2_cer hv hi hg hi1 hg1 (fun Hf H R σ st Q p h s H0 C cl fp => ht s H0 C cl fp Hf H R σ st Q p (by
      cases e : mt st with
      | ok d st1 => rw [e] at h; exact h
      | exc x st1 => rw [e] at h; exact h.elim
      | fail => rw [e] at h; exact h)) he)
theorem ce_lc2 {wi : TI} {wi1 : Cx → TI} {src src1 : Sl → Res (List D)} {tg tg1 elt iter iter1 : Expr} {scope : Scope} {own : List (Str × Nat)} {pos : Pos} {t t1 : TG} {g g1 : MG} {me : ME} (vs1 : List Nat) (hc : X.calm = true) (hN : X.N.Nodup) (hi : CI ca X tg iter wi src) (ok : BlkOk X.N X.env.scope scope own) (hv : ∀ i ∈ vs1, i ∈ own.map (·.2))
    (hg : ∀ n s H C cl fp, CG ca (bk X scope s H C cl fp) (but n (own.map (·.2))) tg t g)
    (hi1 : ∀ s H C cl fp, CI ca (bk X scope s H C cl fp) tg1 iter1 (wi1 (bk X scope s H C cl fp)) src1) (hg1 : ∀ n s H C cl fp, CG ca (bk X scope s H C cl fp) (but n vs1) tg1 t1 g1)
    (he : ∀ s H C cl fp, CE ca (bk X scope s H C cl fp) elt me) (hs : ∀ x, foldedSetIterable iter X.env x = pure x := by intro _; rfl) (hs1 : ∀ env x, foldedSetIterable iter1 env x = pure x := by intro _ _; rfl) :
    CE ca X (.ListComp elt [⟨tg, iter, [], 0⟩, ⟨tg1, iter1, [], 0⟩] scope pos) (eLc2 src g src1 g1 tYesM me (own.map (·.2)) vs1) :=
  ce_of (pe_lc2 hc hN hi.1 ok hv (fun s H C cl fp => (hg 0 s H C cl fp).1) (fun _ _ _ _ _ => pts_nil) (pi_tiB fun s H C cl fp => (hi1 s H C cl fp).1) (fun s H C cl fp => (hg1 0 s H C cl fp).1) (fun _ _ _ _ _ => pts_nil) pe_teB hs hs1)
    (lc2_cer hv hi hg hi1 hg1 (fun Hf H R σ st Q p h => h Hf H R (Tr.refl fun _ q => q) p) he)
end
end DL

/-! DL15: short forms for printed derivations; getters; a law's end. -/
namespace DL
open PySem L2 PyProof.Rows ClX
section
variable {ca : Nat → Addr} {K : PySem.W.Frag} {Hf H : Hp} {S : Rg} {R : Nat → Rg} {σ : L2.St} {st : Sl} {v : V} {d : D} {vs : List V} {ds : List D} {X : Cx} {L : List Nat}
/-- a name in the slot i -/
theorem en (i : Nat) {x : Str} {pos : Pos} (hN : X.N[i]? = some x := by rfl) (hv : Vis X.env.scope x := by first | exact Or.inl rfl | exact Or.inr (Or.inl rfl) | exact Or.inr (Or.inr rfl)) (hd : (x == ("__debug__" : Str)) = false := by decide)
    (hcd : (x == ("__classdict__" : Str)) = false := by decide) : CE ca X (.Name x pos) (eN i) := ce_n (pe_var hN hv hd hcd)
theorem emv (i : Nat) {x : Str} {pos : Pos} (hN : X.N[i]? = some x := by rfl) (hv : Vis X.env.scope x := by first | exact Or.inl rfl | exact Or.inr (Or.inl rfl) | exact Or.inr (Or.inr rfl)) (hd : (x == ("__debug__" : Str)) = false := by decide)
    (hcd : (x == ("__classdict__" : Str)) = false := by decide) : CE ca X (.Name x pos) (eMv i) := ce_mv (pe_var hN hv hd hcd)
theorem es (i : Nat) {x : Str} {pos : Pos} (hN : X.N[i]? = some x := by rfl) (hv : Vis X.env.scope x := by first | exact Or.inl rfl | exact Or.inr (Or.inl rfl) | exact Or.inr (Or.inr rfl)) (hd : (x == ("__debug__" : Str)) = false := by decide)
    (hcd : (x == ("__classdict__" : Str)) = false := by decide) : CO ca X (.Name x pos) (.s i) := co_s (pe_var hN hv hd hcd)
theorem gn (i : Nat) {x : Str} {pos : Pos} (hN : X.N.Nodup) (hi : X.N[i]? = some x := by rfl) (hx : Loc X.env.scope x := by first | exact .inl rfl | exact .inr rfl) (hL : i ∉ L := by decide)
    (hf : X.fn x = true ∨ X.env.scope.names.lookup x = some .local := by first | exact .inl rfl | exact .inr rfl) : CG ca X L (.Name x pos) (gName i) (gN i) := cg_name (pg_name hN hi hx hf) hL
theorem cs_set (i : Nat) {x : Str} {e : Expr} {m : ME} {pos pos' : Pos} (hN : X.N.Nodup) (he : CE ca X e m) (hi : X.N[i]? = some x := by rfl) (hx : Loc X.env.scope x := by first | exact .inl rfl | exact .inr rfl) (hL : i ∉ L := by decide)
    (hs : swapsWith e (some (.Name x pos')) pos.line X.env = pure false := by rfl) (hf : X.fn x = true ∨ X.env.scope.names.lookup x = some .local := by first | exact .inl rfl | exact .inr rfl) : CS ca X L (.Assign [.Name x pos'] e pos) (sAsg m (gN i)) :=
  cs_asg he (cg_name (pg_name hN hi hx hf) hL) (ps_set hN hi hx (we_pe X e) hs hf)
theorem cs_asgT {tg e : Expr} {m : ME} {t : TG} {g : MG} {pos : Pos} (he : CE ca X e m) (hg : CG ca X L tg t g) (hs : swapsWithSole [tg] e pos.line X.env = pure false := by rfl) (hw : swappedStores [tg] e X.env = pure none := by rfl)
    (h1 : (assignEach [tg] X.env).map (·.2) = [assign tg X.env] := by rfl) : CS ca X L (.Assign [tg] e pos) (sAsg m g) := cs_asg he hg (ps_asg (we_pe X e) hg.1 hs hw h1)
theorem relRef (a : Addr) : RelV (.ref a) (.ref a) := rfl
theorem relTy (n : String) : RelV (.ty n) (.type n) := rfl
/-- a constant of a class -/
theorem ce_cval {x f : Str} {w : Value} {p pos : Pos} {C : Addr} {mc : Value} (hg : Gl X x) (hm : X.mg x = some (.ref C)) (r : CRead X.K C mc) (k : CVal X.K C mc f v w) (rd : ∀ Hf H, Rep ca X.K Hf H Em v d)
    (hd : (x == ("__debug__" : Str)) = false := by decide) (hb : attributeBase (.Name x p) f X.env (eval (.Name x p) X.env) = eval (.Name x p) X.env := by rfl) : CE ca X (.Attribute (.Name x p) f pos) (eC d) := by
  refine ce_c (v := v) ⟨fun pins s σ H Q I h => ?_⟩ rd
  exact (pe_cval (pe_glob hg hm (relRef _) hd) hb).run pins s σ H Q I ⟨C, mc, v, w, rfl, r, k, h⟩
/-- a built-in type, a class, as values -/
theorem ce_ty {x : Str} {T : String} {p : Pos} (hg : Gl X x) (hm : X.mg x = none) (hv : bootBuiltins x = some (.type T)) (hn : x ≠ "__name__" := by decide) (hd : (x == ("__debug__" : Str)) = false := by decide) : CE ca X (.Name x p) (eC (.ty T)) :=
  ce_c (pe_bltn hg hm hv (relTy _) hn hd) fun _ _ => .ty
theorem ce_cls {x : Str} {C : Nat} {p : Pos} (hg : Gl X x) (hm : X.mg x = some (.ref (ca C))) (hd : (x == ("__debug__" : Str)) = false := by decide) : CE ca X (.Name x p) (eC (.cls C)) :=
  ce_c (pe_glob hg hm (relRef _) hd) fun _ _ => .cls
/-- a call's arguments -/
theorem cl1 {e : Expr} {m : ME} (h : CE ca X e m) : CL ca X [e] (aCons m aNil) := cl_cons h cl_nil
end
/-- a property's getter -/
theorem getter_ok {CX : CXT} {P : Program} {w : World} {K : PySem.W.Frag} {mg : Str → Option Value} {base : Heap} {k : Nat} {fa C : Addr} {name qual f : Str} {st : Stmt} {fd : FuncData} {N : List Str} {p1 p2 p3 : Pos} (F : Fun K name qual st fa fd) (S : FnScope N ["self"] (defScope st))
    (hN : N[0]? = some ("self" : Str)) (hb : defBody st = [.Return (some (.Attribute (.Name "self" p1) f p2)) p3]) (c : Cls K C) (n : NoAttr K C f) : FnOk P w K mg base CX (k + 1) fa fd ["self"] (getSp C f) := by
  obtain ⟨oc, od, kV, doc, pm, an, cdv, ct, osl, rfl, lk, hcd⟩ :=
      F.ex
  exact fn_getter lk hcd S hN hb c n
/-- a law's promise from its meaning -/
theorem sp_law {ca : Nat → Addr} {K : PySem.W.Frag} {m : MF} {n : Nat} (h : ∀ ns : List Int, ns.length ≤ n → ∃ ps, m [.scr ns] = .ok (.bl true) ps) (H : Hp) (a : Addr) (ns : List Int) (hn : ns.length ≤ n) (hS : SqL K H a (ns.map V.int)) :
    spM ca K m [.ref a] H (fun v _ => v = .bl true) fun _ _ _ => False := by
  refine ⟨H, Em, [.scr ns], RepL.one (.scr hS), ⟨fun _ _ e => e, fun _ q => q.elim, fun _ q => q.elim⟩, ?_⟩
  obtain ⟨ps, e⟩ := h ns hn
  rw [e]
  exact fun Hf' H' P' Rp v t p => rep_bl p.pend
theorem law_cx {P : Program} {w : World} {H : Hp} {s : Shared} {e : Value} {s' : Shared} (h : L2.CX P w [] H s (fun _ _ _ => False) e s') : False := by
  obtain ⟨a, B, H', cls, d, _, _, _, _, _, _, _, hE⟩ := h
  exact hE
end DL

/-! DL16: blocks, checked by computing. -/
namespace DL
open PySem L2 PyProof.Rows
def blkB (N : List Str) (sc scope : Scope) (own : List (Str × Nat)) : Bool :=
  scope.names.all (fun y => decide (scope.names.lookup y.1 = some y.2)) && (own.all (fun p => decide (N[p.2]? = some p.1)) &&
  (scope.names.all (fun y => !decide (y.2 = .free) || (decide (sc.names.lookup y.1 = some .cell) || decide (sc.names.lookup y.1 = some .free))) &&
  scope.names.all (fun y => !(decide (y.2 = .local) || decide (y.2 = .cell)) || (decide (y.1 ∈ own.map (·.1)) || !decide (y.1 ∈ N)))))
theorem blk_of {N : List Str} {sc scope : Scope} {own : List (Str × Nat)} (hk : scope.kind = .function) (h : blkB N sc scope own = true) : BlkOk N sc scope own := by
  unfold blkB at h
  simp only [Bool.and_eq_true, List.all_eq_true, Bool.or_eq_true, Bool.not_eq_true', decide_eq_true_eq, decide_eq_false_iff_not] at h
  obtain ⟨h1, h2, h3, h4⟩ := h
  refine ⟨hk, fun y hy => h1 y hy, fun p hp => h2 p hp, fun y hy hf => ?_, fun y hy hl => ?_⟩
  · rcases h3 y hy with q | q
    · exact absurd hf q
    · exact q
  · rcases h4 y hy with q | q
    · rcases hl with hl | hl
      · rw [hl] at q; simp at q
      · rw [hl] at q; simp at q
    · exact q
section
variable {ca : Nat → Addr} {X : Cx} {L : List Nat}
/-- a block's own name stored -/
theorem gb (i : Nat) {n : Nat} {w : List Nat} {x : Str} {pos : Pos} (hN : X.N.Nodup) (hi : X.N[i]? = some x := by rfl) (hx : Loc X.env.scope x := by first | exact .inl rfl | exact .inr rfl) (hL : i ∈ w := by decide)
    (hf : X.fn x = true ∨ X.env.scope.names.lookup x = some .local := by first | exact .inl rfl | exact .inr rfl) : CG ca X (but n w) (.Name x pos) (gName i) (gN i) := cg_name (pg_name hN hi hx hf) (not_but hL)
end
end DL

/-! DL17: enumerate over a tuple: how it is made, how it yields, how it ends; over the library's Draws. -/
namespace DL
open PySem L2 PyProof.Rows
open Sem (wp)
/-- the two objects that enumerate(tuple) lays -/
abbrev etI (t : Addr) : Obj := { cls := .type "tuple_iterator", data := .fields #[.ref t, .int 0 0] }
abbrev etE (it : Addr) : Obj :=
  { cls := .type "enumerate",
    data := .fields #[.none, .bool false, .ref it, rawInt 0, .none, .none] }
abbrev etH (h : Heap) (t : Addr) : Heap := (h.push (etI t)).push (etE h.objs.size)
abbrev etO (dc : Option Addr) (xs : Array Value) (n : Nat) (sl : Array (Option Value)) : Obj := { cls := .type "tuple", dict := dc, data := .seq xs n, slots := sl }
theorem et_new (t : Addr) (xs : Array Value) (n : Nat) (dc : Option Addr) (sl : Array (Option Value)) :
    Meets (Builtin.«enumerate.__new__» ⟨[.type "enumerate", .ref t], []⟩) fun _ R s => s.heap.get? t = some (etO dc xs n sl) ∧ R (.ok (.ret (.ref (s.heap.push (etI t)).objs.size))) { s with heap := etH s.heap t } :=
  .of_wp fun pr wo Ar R st hst => by
    rcases st with ⟨hp, gs, dr, tk, os⟩
    rcases hst with ⟨ht, hR⟩
    have sub := sub_enumerate
    have isT : Heap.IsTuple (Shared.heap ⟨hp, gs, dr, tk, os⟩) t xs := ⟨_, ht, rfl, n, rfl⟩
    have ends : ∀ {P : Prop}, P → P := id
    wp_walk using AutoSeq1.wpAny_loadPart' ht
    refine wpAny_stack_any fun _ =>
      wpAny_pure ?_
    split
    case _ c _ _ _ _ _ =>
      cases hc : (c == Value.type "enumerate") <;>
        (wp_walk using AutoSeq1.wpAny_loadPart' ht, wpAny_pyIter_tuple isT) <;>
        exact ends ⟨_, rfl, hR⟩
    all_goals
      wp_walk using AutoSeq1.wpAny_loadPart' ht, wpAny_pyIter_tuple isT
      exact ends ⟨_, rfl, hR⟩
section
variable {pr : Program} {wo : World} {Ar : Around} {Ex' : Value → Shared → Prop} {st : Shared}
/-- the call enumerate(t) -/
theorem et_call {t : Addr} {xs : Array Value} {Q : Value → Shared → Prop} (ht : st.heap.IsTuple t xs) (hq : Q (.ref (st.heap.objs.size + 1)) { st with heap := etH st.heap t }) :
    wpAny (model pr wo) Ar (call (.type "enumerate") [.ref t]) Q Ex' st := by
  rcases ht with ⟨⟨cl, dc, dat, sl⟩, ho, hcl, n, hdat⟩
  obtain rfl : cl = .type "tuple" := hcl
  obtain rfl : dat = .seq xs n := hdat
  have sz : (st.heap.push (etI t)).objs.size = st.heap.objs.size + 1 := Heap.size_push ..
  have at1 : (etH st.heap t).get? (st.heap.objs.size + 1) = some (etE st.heap.objs.size) := by
    rw [← sz]
    exact Heap.get?_push_size _
        rfl
  have args : ∀ obj, _ := fun obj => F.args_object_init_2 obj (Value.ref t)
  refine callType_new F.called_enumerate (by decide) (F.typeCall_enumerate_1 _) (F.newCall_enumerate_1 _) args
    F.entry_enumerate_new (et_new t xs n dc sl) ⟨ho, ?_⟩
  show (∃ _, _) ∧ _
  rw [sz]
  exact ⟨⟨_, at1, rfl⟩, hq⟩
/-- its end -/
theorem et_end {e it t : Addr} {i : Nat} {xs : Array Value} {old : Value} {Q : Option Value → Shared → Prop} (hh : Ar.handled = none) (he : IsEnum st.heap e it i old) (hi : st.heap.IsTupleIter it t i)
    (ht : st.heap.IsTuple t xs) (hx : xs[i]? = none) (hq : ∀ h', Heap.ExtBut it st.heap h' → Q none { st with heap := h' }) : wpAny (model pr wo) Ar (pyNext (.ref e)) Q Ex' st := by
  have ty : st.TypeIs (.ref e) "enumerate" := ⟨_, he, rfl⟩
  have inner := fun {Q'} {E'} k => wpAny_nextOf_tuple_end (prog := pr) (w := wo) (A := Ar.in1) (Q := Q') (E := E') (s := st) hh hi ht hx k
  unfold pyNext
  refine wpAny_bind (wpAny_attempt
      ?_)
  refine wpAny_callSpecial?_slot (name := Str.ofString "__next__") ty F.slot_enumerate_next ?_
  refine wpAny_call_entry F.slot_enumerate_next ty F.entry_enumerate_next ?_ (F.args_enumerate_next_1 _)
  refine wpAny_bind (m := field (.ref e) 2) ?_
  refine wpAny_field he rfl (x := .ref it) rfl (wpAny_bind ?_)
  refine wpAny_nextOf_tuple_end hh hi ht hx fun h' x ext ⟨o, ho, hc⟩ => ?_
  refine wpAny_bind ?_
  exact wpAny_isInstance (T := "StopIteration") (b := true)
    ⟨o, ho, hc⟩ isSubtype_stop (wpAny_pure (hq _ ext))
end
/-- the tuple at a, each item in a new pair with its number -/
def IteT (K : PySem.W.Frag) (a : Addr) : It where
  go := fun i H => ∃ ys y, SqT K H a ys ∧ ys[i]? = some y
  yld := fun i H v H' => ∃ T x, v = .ref T ∧ H T = none ∧ H' = upd H T (.tup [.int (i : Nat), x]) ∧ ∀ ys, SqT K H a ys → ys[i]? = some x
  stop := fun i H => ∃ ys : List V, SqT K H a ys ∧ ys.length ≤ i
/-- how the enumeration stands before its turn i -/
structure EtAt (a e it : Addr) (i : Nat) (h : Heap) : Prop where
  en : ∃ old, IsEnum h e it ((i : Nat) : Int) old
  iter : h.IsTupleIter it a i
  n1 : e ≠ it
  n2 : e ≠ a
  n3 : a ≠ it
theorem two_mem {b e it : Addr} (h : b ∈ [e, it]) : b = e ∨ b = it := by simpa using h
theorem turn_enumT {P : Program} {w : World} {K : PySem.W.Frag} {elts : List Expr} {kk : Nat} {tpos : Pos} (a e it : Addr) : Turn P w K (.Tuple elts kk tpos) (IteT K a) [e, it] e (EtAt a e it) where
  mem := List.mem_cons_self
  obj := by
    intro i h z b hb
    obtain ⟨old, he⟩ := z.en
    obtain ⟨o, ho, _, hd⟩ := z.iter
    rcases two_mem hb with rfl | rfl
    · exact ⟨_, he, fun _ q => nomatch q⟩
    · refine ⟨o, ho, fun v q => ?_⟩
      rw [hd] at q
      cases q
  keep := by
    intro i h h' z k
    obtain ⟨old, he⟩ := z.en
    exact ⟨⟨old, k e (List.mem_cons_self) _ he⟩, z.iter.at fun o q => k it (by simp) o q, z.n1, z.n2, z.n3⟩
  item := by
    intro X e1 e2 e3 calm i pins s σ H E I fresh z go
    subst e1 e2 e3
    obtain ⟨old, he⟩ := z.en
    obtain ⟨ys, y, hq, hy⟩ := go
    obtain ⟨us, rel, isT, _⟩ := I.tuple hq
    obtain ⟨u, hu, ru⟩ := rel.get hy
    have isT' : s.heap.IsTuple a us.toArray := isT
    have below : ∀ b ∈ [e, it], b < s.heap.objs.size := fun b hb => by
      rcases two_mem hb with rfl | rfl
      · exact Heap.lt_size he
      · obtain ⟨_, q, _⟩ := z.iter
        exact Heap.lt_size q
    have ilt : i < us.toArray.size := by simpa using (List.getElem?_eq_some_iff.mp hu).1
    have draws := Draws.tuple (prog := X.prog) (w := X.w) (A := X.A.in1) (I.ok.hd calm) it a z.n3 us.toArray
    refine wpAny_pyNext_enum_itemD draws he ⟨z.iter, isT'⟩ ilt z.n1 (by simp [z.n1, z.n2]) fun xv h1 tk at_i out st1 newT size kept => ?_
    obtain rfl : u = xv := by
      have q : us.toArray[i]? = some u := by simpa using hu
      exact Option.some.inj (q.symm.trans at_i)
    refine ⟨_, rfl, ?_⟩
    refine wpAny_letOwnedTupleGo_enum (s := { s with heap := h1, toks := tk + 1 }) out fun h2 en2 same => ?_
    have eN : s.heap.objs.size ≠ e := Nat.ne_of_gt (below e List.mem_cons_self)
    have T2 : h2.get? s.heap.objs.size = some { cls := .type "tuple", data := .seq #[.int i tk, u] } := (same.2 _ eN).trans newT
    have pair : Vals [V.int (i : Nat), y] [.int i tk, u] := .cons ⟨_, rfl⟩ (.cons ru .nil)
    have ok : ObjOk X.prog X.w (upd H s.heap.objs.size (.tup [.int (i : Nat), y])) h2 s.heap.objs.size
        (.tup [.int (i : Nat), y]) := ⟨show 2 ≤ sizeLine from by decide, _, pair, ⟨_, T2, rfl, _, rfl⟩⟩
    have stays : ∀ b o, b ∉ [e, it] → s.heap.get? b = some o → h2.get? b = some o := fun b o nb q => by
      have b1 : b ≠ e := fun h => nb (by simp [h])
      have b2 : b ≠ it := fun h => nb (by simp [h])
      exact (same.2 b b1).trans (kept b o b1 b2 q)
    have J := I.turnedNew (t' := tk + 1) (ch := [e, it]) stays fresh (Nat.le_refl _) ok
    refine ⟨.ref s.heap.objs.size, _, J, rfl, ⟨_, y, rfl, I.hok.fresh (Nat.le_refl _), rfl, ?_⟩, ⟨⟨u, ?_⟩, ?_, z.n1, z.n2, z.n3⟩, ?_⟩
    · intro ws hws
      rw [I.tuple_inj hws hq]
      exact hy
    · rw [show ((i + 1 : Nat) : Int) = (i : Int) + 1 by omega]
      exact en2
    · exact st1.1.at fun o q => (same.2 it z.n1.symm).trans q
    · intro b hb
      rw [upd_ne (Nat.ne_of_lt (below b hb))]
      exact (fresh b hb).1
  done := by
    intro X e1 e2 e3 calm i pins s σ H E I fresh z stop
    subst e1 e2 e3
    obtain ⟨old, he⟩ := z.en
    obtain ⟨ys, hq, le⟩ := stop
    obtain ⟨us, rel, isT, _⟩ := I.tuple hq
    have isT' : s.heap.IsTuple a us.toArray := isT
    have len := rel.length
    have none_at : us.toArray[i]? = none := by
      simp
      omega
    have ft := fresh it (by simp)
    refine et_end (I.ok.hd calm) he z.iter isT' none_at fun h' ext => ⟨rfl, ?_⟩
    exact I.turned (t' := s.toks) (fun b o nb q => ext b o nb q) ft.1 ft.2.1 ft.2.2.2.1 ft.2.2.2.2.1 ft.2.2.2.2.2
  self := by
    intro A i s Q E z h
    obtain ⟨_, he⟩ := z.en
    exact wpAny_pyIter_enum he h
def iEnumT (K : PySem.W.Frag) (ta : TA) : TI := fun σ H R => ta σ H fun vs H1 => ∃ a ys, vs = [.ref a] ∧ SqT K H1 a ys ∧ R (IteT K a) H1
theorem pi_enumT {X : Cx} {e : Expr} {ta : TA} {p pos tpos : Pos} {elts : List Expr} {kk : Nat} (hg : Gl X "enumerate") (hm : X.mg "enumerate" = none) (ha : PA X [e] ta)
    (one : starEach [e] X.env = [(false, eval e X.env)] := by rfl) : PI X (.Tuple elts kk tpos) (.Call (.Name "enumerate" p) [e] [] pos) (iEnumT X.K ta) := by
  constructor
  intro pins s σ H R I h
  refine Call_ (ld_blt I hg hm boot_enumerate ?_)
  refine PyProof.Rows.callWith_type1 (thn (ha.run pos pins s σ H _ I h) ?_) one rfl
  rintro us s1 ⟨vs, H1, I1, rel, a, ys, rfl, hq, goal⟩
  obtain ⟨u, rfl, ru⟩ := vals1 rel
  obtain rfl : u = .ref a := ru
  obtain ⟨its, _, isT, _⟩ := I1.tuple hq
  have isT' : s1.heap.IsTuple a its.toArray := isT
  have alt : a < s1.heap.objs.size := by
    obtain ⟨o, ho, _⟩ := isT'
    exact Heap.lt_size ho
  have sz : (s1.heap.push (etI a)).objs.size = s1.heap.objs.size + 1 := Heap.size_push ..
  have en : IsEnum (etH s1.heap a) (s1.heap.objs.size + 1) s1.heap.objs.size 0 .none := by
    show (etH s1.heap a).get? _ = _
    rw [← sz]
    exact Heap.get?_push_size _
        rfl
  have itr : (etH s1.heap a).IsTupleIter s1.heap.objs.size a 0 := ⟨_, Heap.get?_push_of_some _ (Heap.get?_push_size _ rfl), rfl, rfl⟩
  have grown : ∀ b o, s1.heap.get? b = some o → (etH s1.heap a).get? b = some o := fun b o q => Heap.get?_push_of_some _ (Heap.get?_push_of_some _ q)
  refine et_call isT' (wpAny_pyIter_enum en ?_)
  have I2 := I1.kept (t' := s1.toks) grown
  refine ⟨s1.heap.objs.size + 1, [s1.heap.objs.size + 1, s1.heap.objs.size], _, _, H1, rfl, I2, turn_enumT a (s1.heap.objs.size + 1) s1.heap.objs.size,
    ⟨⟨.none, en⟩, itr, Nat.succ_ne_self _, Nat.ne_of_gt (Nat.lt_succ_of_lt alt), Nat.ne_of_lt alt⟩, ?_, goal⟩
  intro b hb
  have up : s1.heap.objs.size ≤ b := by
    rcases two_mem hb with rfl | rfl
    · exact Nat.le_succ _
    · exact Nat.le_refl _
  exact I1.fpOk up (I1.hok.fresh up)
section
variable {ca : Nat → Addr} {K : PySem.W.Frag} {Hf H : Hp} {vs : List V} {ds : List D} {X : Cx}
theorem itd_enumT {a : Addr} (h : SqT K Hf a vs) (r : RepL ca K Hf H Em vs ds) (hc : colds ds = true) : ItD ca K (IteT K a) Hf (enumD 0 ds) := by
  intro Hf' H' x1 x2
  have x3 : Ex Hf H' := fun a o e => x2 a o (x1 a o e)
  refine ⟨fun i hi => ?_, ⟨vs, sqT_ex x3 h, by rw [r.length, enumD_length]; exact Nat.le_refl _⟩, fun i d x H2 e y => ?_⟩
  · have : i < vs.length := by rw [r.length]; rw [enumD_length] at hi; exact hi
    exact ⟨vs, vs[i], sqT_ex x3 h, by simp [this]⟩
  · obtain ⟨T, xv, rfl, hT, rfl, y⟩ := y
    obtain ⟨d', e1, rfl⟩ := enumD_get e
    obtain ⟨v', T', e2, r2, z⟩ := repL_at r e1
    have := y vs (sqT_ex x3 h)
    rw [e2] at this
    have e3 : v' = xv := Option.some.inj this
    subst e3
    have hT' : Hf' T = none := by
      cases q : Hf' T with
      | none => rfl
      | some o => rw [x2 T o q] at hT; cases hT
    refine ⟨rfl, upd Hf' T (.tup [.int (i : Nat), v']), fun b o e => upd_keep hT' b o e, fun b o e => upd_keep hT b o e, fun b o e => ?_, fun b o e => ?_, ?_⟩
    · by_cases q : b = T
      · subst q; rw [upd_same] at e ⊢; exact e
      · rw [upd_ne q] at e ⊢; exact x2 b o e
    · by_cases q : b = T
      · subst q; exact .inr hT
      · rw [upd_ne q] at e; exact .inl e
    · refine .tup upd_same (.cons (S1 := Em) (S2 := Em) (by rw [Nat.zero_add]; exact .int) (.cons (S1 := Em) (S2 := Em) ((r2.mono z).keep (fun b o e => upd_keep hT' b o (x1 b o e)) fun _ q => q.elim) .nil (fun _ q => q) (fun _ q => q) fun _ q _ => q) (fun _ q => q) (fun _ q => q) fun _ q _ => q)
/-- enumerate(tuple) -/
def iEnT (m : ME) : Sl → Res (List D) := fun st => (m st).bind fun d st1 => match tupItems d with
  | some ds => if colds ds then .ok (enumD 0 ds) st1 else .fail
  | none => .fail
theorem ci_enumT {e : Expr} {m : ME} {p pos tpos : Pos} {elts : List Expr} {kk : Nat} (hg : Gl X "enumerate") (hm : X.mg "enumerate" = none) (he : CE ca X e m) (hs : starEach [e] X.env = [(false, eval e X.env)] := by rfl) :
    CI ca X (.Tuple elts kk tpos) (.Call (.Name "enumerate" p) [e] [] pos) (iEnumT X.K (tCons (We X e) tNil)) (iEnT m) := ⟨pi_enumT hg hm (pa_cons (we_pe X e) pa_nil hs) hs, fun Hf H R σ st Q p h => by
  refine he Hf H R σ st _ p ?_
  unfold iEnT at h
  cases r : m st with
  | fail => rw [r] at h; exact h
  | exc x st => rw [r] at h; exact h
  | ok d st1 =>
    rw [r] at h
    dsimp only [Res.bind] at h
    intro Hf1 H1 P R1 v t1 p1
    cases d with
    | tup ds =>
      dsimp only [tupItems] at h
      by_cases hc : colds ds = true
      · rw [if_pos hc] at h
        obtain ⟨Hf', a, vs, rfl, s1, r1, p2, t2⟩ := p1.walkedT
        exact ⟨a, vs, rfl, sqT_ex p2.w.ex s1, h Hf' H1 R1 _ (t1.trans t2) p2 (itd_enumT s1 r1 hc)⟩
      · rw [if_neg hc] at h; exact h.elim
    | _ => exact h.elim⟩
end
end DL

/-! DL18: a law's end. -/
namespace DL
open PySem L2 PyProof.Rows
theorem walk_law {l : PySem.W.OpenLaw} {k : Nat} {q : Program} {loose : List Str} {XP : (Str → Option Value) → Heap → Prop} {YP : World → Heap → Prop} {d : DefRec} {K : Params → PySem.W.Frag} {m : MF} {x : Str}
    (hn : l.most = some 63) (hdf : d.params.defaults = []) (hr : Room k callerA) (hY : ∀ (w : World) (h : Heap), YP w h → (K w.params).In h)
    (F : ∀ (w : World) (mg : Str → Option Value) (fa : Addr) (h : Heap),
        (K w.params).In h → h.Ns mainGlobals mg → mg d.name = some (.ref fa) →
      ∃ (ca : Nat → Addr) (fd : FuncData), (∀ (s : Shared) (u : Value), BindsTo s fd ⟨[u], []⟩ [(x, u)]) ∧
        ∀ base : Heap, (K w.params).In base → base.Ns mainGlobals mg → FnOk l.prog w (K w.params) mg base (L2.CX l.prog w) k fa fd [x] (spM ca (K w.params) m))
    (hm : ∀ ns : List Int, ns.length ≤ 63 → ∃ ps, m [.scr ns] = .ok (.bl true) ps) :
    PySem.W.WalkO q loose XP YP l.row.toRowW d [] (fun
        f vs => PySem.call f vs) := by
  refine L2.walk_of (n := 63) (k := k) (x := x) (CX := fun w => L2.CX l.prog w) (sp := fun w => fun vs H Q E => ∀ ca : Nat → Addr, spM ca (K w.params) m vs H Q E) hn (by decide) hdf hr hY (fun w mg fa h h1 h2 h3 => ?_) (fun w H a ns hl _ hS ca => sp_law hm H a ns hl hS) (fun w H s e s' h => law_cx h)
  obtain ⟨ca, fd, h4, h5⟩ := F w mg fa h h1 h2 h3
  exact ⟨fd, h4, fun base b1 b2 => (h5 base b1 b2).imp fun vs H Q E h => h ca⟩
theorem kit_no {K : PySem.W.Frag} {C : Addr} {n : String} (h1 : PySem.W.isClsIn K C = true) (h2 : PySem.W.typeIn K (.ref C) = some (.type "type")) (h3 : PySem.W.subIn K (.type n) (.ref C) = some false) : PySem.W.kitOne K (.type n) (.ref C) = some false := by
  have e1 : (Value.type n == Value.ref C) = false := rfl
  have e2 : (PySem.W.clsIn K C).isSome = true := h1
  show (if (Value.type n == Value.ref C) = true then some true else PySem.W.kitCls K (.type n) (.ref C)) = some false
  rw [e1, if_neg
      Bool.false_ne_true]
  show (if ((PySem.W.clsIn K C).isSome && PySem.W.typeIn K (.ref C) == some (.type "type")) = true then PySem.W.subIn K (.type n) (.ref C) else none) = some false
  rw [e2, h2]
  exact (if_pos (by simp)).trans h3
theorem kit_self {K : PySem.W.Frag} {C : Addr} : PySem.W.kitOne K (.ref C) (.ref C) = some true := if_pos (beq_self_eq_true _)
def strKeys (es : Array DictEntry) : Bool := es.all fun e => match e.key with
  | .str _ _ => true
  | _ => false
theorem nsOk_of {K : PySem.W.Frag} {N : Addr} {oc : Value} {od : Option Addr} {es : Array DictEntry} {n : Nat} {sl : Array (Option Value)} (l : K.lookup N = some ⟨oc, od, .dict es n, sl⟩) (h : strKeys es = true) : PySem.W.nsOkIn K N = true := by
  unfold PySem.W.nsOkIn
  rw [l]
  exact h
end DL

/-! DL19: lists of whole numbers as data; loops read. -/
namespace DL
open PySem (Str)
open L2 (atI ixN)
def nums (l : List Int) : List D := l.map D.int
theorem nums_nil : nums [] = [] := rfl
theorem nums_cons (a : Int) (l : List Int) : nums (a :: l) = .int a :: nums l := rfl
theorem nums_len (l : List Int) : (nums l).length = l.length := by unfold nums; rw [List.length_map]
theorem nums_app (l k : List Int) : nums (l ++ k) = nums l ++ nums k := by unfold nums; rw [List.map_append]
theorem nums_colds (l : List Int) : colds (nums l) = true := by
  unfold colds nums
  rw [List.all_map]
  exact List.all_eq_true.mpr fun x _ => rfl
theorem nums_frz : ∀ l : List Int, frzL (nums l) = nums l
  | [] => rfl
  | a :: l => by rw [nums_cons, frzL, frz, nums_frz l]
theorem nums_as : ∀ l : List Int, asInts (nums l) = some l
  | [] => rfl
  | a :: l => by rw [nums_cons, asInts, nums_as l]; rfl
theorem nums_set (l : List Int) (i : Nat) (x : Int) : (nums l).set i (.int x) = nums (l.set i x) := by unfold nums; rw [List.map_set]
theorem nums_rev (l : List Int) : (nums l).reverse = nums l.reverse := by unfold nums; rw [List.map_reverse]
theorem nums_inj {l k : List Int} (h : nums l = nums k) : l = k := by
  have := nums_as l
  rw [h, nums_as] at this
  exact (Option.some.inj
      this).symm
theorem scr_items (l : List Int) : l.map D.int = nums l := rfl
theorem ixN_nat {n : Nat} {i : Int} (h0 : 0 ≤ i) (h1 : i < n) : ixN n i = some i.toNat := by
  unfold ixN
  rw [if_pos h0, if_pos h1]
theorem nums_at {l : List Int} {i : Int} (h0 : 0 ≤ i) (h1 : i < l.length) : atI (nums l) i = some (.int (l.getD i.toNat 0)) := by
  unfold atI
  rw [nums_len, ixN_nat h0 h1, Option.bind_some]
  unfold nums
  have h2 : i.toNat < l.length := by omega
  rw [List.getElem?_map, List.getElem?_eq_getElem h2, Option.map_some, List.getD_eq_getElem?_getD, List.getElem?_eq_getElem h2, Option.getD_some]
theorem oIx_nums {o : Bool} {l : List Int} {i : Int} (h0 : 0 ≤ i) (h1 : i < l.length) : oIx [.lst o (nums l), .int i] = some (.val (.int (l.getD i.toNat 0))) := by
  simp [oIx, items, nums_at h0 h1, cold, hot]
theorem oIx_tup {l : List Int} {i : Int} (h0 : 0 ≤ i) (h1 : i < l.length) : oIx [.tup (nums l), .int i] = some (.val (.int (l.getD i.toNat 0))) := by
  simp [oIx, items, nums_at h0 h1, cold, hot]
theorem oIx_scr {l : List Int} {i : Int} (h0 : 0 ≤ i) (h1 : i < l.length) : oIx [.scr l, .int i] = some (.val (.int (l.getD i.toNat 0))) := by
  simp [oIx, items, scr_items, nums_at h0 h1, cold, hot]
/-- a for over data, with an invariant by the items that are behind -/
theorem forD_ok {g : MG} {body : MS} (I : Nat → Sl → Prop) : ∀ (ds : List D) (k : Nat) (st : Sl), I k st →
    (∀ (i : Nat) (d : D) (st : Sl), ds[i]? = some d → I (k + i) st → ∃ st1 st2, g d st = .ok () st1 ∧ (body st1 = .next st2 ∨ body st1 = .cont st2) ∧ I (k + i + 1) st2) → ∃ st', forD g body ds st = .next st' ∧ I (k + ds.length) st'
  | [], k, st, h, _ => ⟨st, rfl, h⟩
  | d :: ds, k, st, h, hs => by
    obtain ⟨st1, st2, e1, e2, h2⟩ := hs 0 d st rfl h
    obtain ⟨st', e3, h3⟩ := forD_ok I ds (k + 1) st2 h2 fun i d' st3 e h4 => by
      have := hs (i + 1) d' st3 (by simpa using e) (by rw [show k + (i + 1) = k + 1 + i by omega]; exact h4)
      rw [show k + (i + 1) + 1 = k + 1 + i + 1 by omega] at this
      exact this
    refine ⟨st', ?_, by rw [show k + (d :: ds).length = k + 1 + ds.length by rw [List.length_cons]; omega]; exact h3⟩
    rw [forD, e1]
    show (match body st1 with | .next st2 => forD g body ds st2 | .cont st2 => forD g body ds st2 | .brk st2 => .next st2 | r => r) = _
    rcases e2 with e2 | e2
    · rw [e2]; exact e3
    · rw [e2]; exact e3
/-- a comprehension's loop, with an invariant -/
theorem compD_ok {g : MG} {t : MT} {e : ME} {vs : List Nat} (I : Nat → Sl → List D → Prop) : ∀ (ds : List D) (k : Nat) (st : Sl) (acc : List D), I k st acc →
    (∀ (i : Nat) (d : D) (st : Sl) (acc : List D), ds[i]? = some d → I (k + i) st acc → ∃ st1 b st2, g d st = .ok () st1 ∧ t st1 = .ok b st2 ∧
      (b = false → I (k + i + 1) (wipeS st2 vs) acc) ∧ (b = true → acc.length < 16777216 ∧ ∃ y st3, e st2 = .ok y st3 ∧ I (k + i + 1) (wipeS st3 vs) (acc ++ [y]))) →
    ∃ acc' st', compD g t e vs ds st acc = .ok acc' st' ∧ I (k + ds.length) st' acc'
  | [], k, st, acc, h, _ => ⟨acc, st, rfl, h⟩
  | d :: ds, k, st, acc, h, hs => by
    obtain ⟨st1, b, st2, e1, e2, h2, h3⟩ := hs 0 d st acc rfl h
    have step : ∀ st' acc', I (k + 1) st' acc' → ∃ acc2 st2, compD g t e vs ds st' acc' = .ok acc2 st2 ∧ I (k + (d :: ds).length) st2 acc2 := fun st' acc' h' => by
      obtain ⟨a2, s2, q1, q2⟩ := compD_ok I ds (k + 1) st' acc' h' fun i d' st3 acc3 e' h4 => by
        have := hs (i + 1) d' st3 acc3 (by simpa using e') (by rw [show k + (i + 1) = k + 1 + i by omega]; exact h4)
        rw [show k + (i + 1) + 1 = k + 1 + i + 1 by omega] at this
        exact this
      exact ⟨a2, s2, q1, by rw [show k + (d :: ds).length = k + 1 + ds.length by rw [List.length_cons]; omega]; exact q2⟩
    rw [compD, e1]
    dsimp only [Res.noX, Res.bind]
    rw [e2]
    dsimp only
    cases b with
    | false =>
      rw [if_neg (by decide)]
      exact step _ _ (h2 rfl)
    | true =>
      obtain ⟨hl, y, st3, e3, h4⟩ := h3 rfl
      rw [if_pos rfl, e3]
      dsimp only
      rw [if_pos hl]
      exact step _ _ h4
theorem comp2D_ok {g g1 : MG} {src1 : Sl → Res (List D)} {t : MT} {e : ME} {vs vs1 : List Nat} (I : Nat → Sl → List D → Prop) : ∀ (ds : List D) (k : Nat) (st : Sl) (acc : List D), I k st acc →
    (∀ (i : Nat) (d : D) (st : Sl) (acc : List D), ds[i]? = some d → I (k + i) st acc → ∃ st1 ds1 st2 acc' st3, g d st = .ok () st1 ∧ src1 st1 = .ok ds1 st2 ∧ compD g1 t e vs1 ds1 (wipeS st2 vs1) acc = .ok acc' st3 ∧ I (k + i + 1) (wipeS st3 vs) acc') →
    ∃ acc' st', comp2D g src1 g1 t e vs vs1 ds st acc = .ok acc' st' ∧ I (k + ds.length) st' acc'
  | [], k, st, acc, h, _ => ⟨acc, st, rfl, h⟩
  | d :: ds, k, st, acc, h, hs => by
    obtain ⟨st1, ds1, st2, acc', st3, e1, e2, e3, h3⟩ := hs 0 d st acc rfl h
    obtain ⟨a2, s2, q1, q2⟩ := comp2D_ok I ds (k + 1) _ _ h3 fun i d' st3 acc3 e' h4 => by
      have := hs (i + 1) d' st3 acc3 (by simpa using e') (by rw [show k + (i + 1) = k + 1 + i by omega]; exact h4)
      rw [show k + (i + 1) + 1 = k + 1 + i + 1 by omega] at this
      exact this
    refine ⟨a2, s2, ?_, by rw [show k + (d :: ds).length = k + 1 + ds.length by rw [List.length_cons]; omega]; exact q2⟩
    rw [comp2D, e1]
    dsimp only [Res.noX, Res.bind]
    rw [e2]
    dsimp only
    rw [e3]
    exact q1
theorem rangeD_get {lo : Int} {n i : Nat} {d : D} (h : (rangeD lo n)[i]? = some d) : i < n ∧ d = .int (lo + i) := by
  unfold rangeD at h
  rw [List.getElem?_map] at h
  cases e : (List.range n)[i]? with
  | none =>
    rw [e] at h
    cases h
  | some j =>
    rw [e] at h
    have hi : i < n := by
      have := (List.getElem?_eq_some_iff.mp e).1
      simpa using this
    have : j = i := by
      have := (List.getElem?_eq_some_iff.mp e).2
      simp at this
      exact this.symm
    subst this
    exact ⟨hi, (Option.some.inj h).symm⟩
theorem rangeD_len (lo : Int) (n : Nat) : (rangeD lo n).length = n := by unfold rangeD; rw [List.length_map, List.length_range]
theorem nums_get {l : List Int} {i : Nat} {d : D} (h : (nums l)[i]? = some d) : ∃ x, l[i]? = some x ∧ d = .int x := by
  unfold nums at h
  rw [List.getElem?_map] at h
  cases e : l[i]? with
  | none =>
    rw [e] at h
    cases h
  | some x => rw [e] at h; exact ⟨x, rfl, (Option.some.inj h).symm⟩
theorem colds_range (lo : Int) (n : Nat) : colds (rangeD lo n) = true := by
  unfold colds rangeD
  rw [List.all_map]
  exact List.all_eq_true.mpr fun x _ => rfl
theorem nums_py : ∀ l : List Int, toPyL (nums l) = l.map PySem.PyData.int
  | [] => by rw [nums_nil, toPyL]; rfl
  | a :: l => by rw [nums_cons, toPyL, toPy, nums_py l]; rfl
theorem lay_nums : ∀ l : List Int, PySem.PyData.canLayAll0 (l.map PySem.PyData.int) = true
  | [] => by rw [List.map_nil, PySem.PyData.canLayAll0]
  | a :: l => by rw [List.map_cons, PySem.PyData.canLayAll0, lay_nums l, PySem.PyData.canLay0]; rfl
theorem depth_nums : ∀ l : List Int, PySem.PyData.depthAll (l.map PySem.PyData.int) = 0
  | [] => by rw [List.map_nil, PySem.PyData.depthAll]
  | a :: l => by rw [List.map_cons, PySem.PyData.depthAll, depth_nums l, PySem.PyData.depth]; rfl
theorem eqv_nums : ∀ l k : List Int, PySem.PyData.eqvAll (l.map PySem.PyData.int) (k.map PySem.PyData.int) = decide (l = k)
  | [], [] => by rw [List.map_nil, PySem.PyData.eqvAll]; rfl
  | [], b :: k => by rw [List.map_nil, List.map_cons, PySem.PyData.eqvAll]; rfl
  | a :: l, [] => by rw [List.map_nil, List.map_cons, PySem.PyData.eqvAll]; rfl
  | a :: l, b :: k => by
    rw [List.map_cons, List.map_cons, PySem.PyData.eqvAll, eqv_nums l k, PySem.PyData.eqv]
    by_cases h : a = b <;> by_cases h2 : l = k <;> simp [h, h2]
theorem sh_int (a : Int) : PySem.SeqAt.shaped (toPy (.int a)) = true := by
  rw [toPy]
  unfold PySem.SeqAt.shaped
  rw [PySem.PyData.canLay0, PySem.PyData.depth]
  rfl
theorem sh_bl (a : Bool) : PySem.SeqAt.shaped (toPy (.bl a)) = true := by
  rw [toPy]
  unfold PySem.SeqAt.shaped
  rw [PySem.PyData.canLay0, PySem.PyData.depth]
  rfl
theorem sh_non : PySem.SeqAt.shaped (toPy .non) = true := by
  rw [toPy]
  unfold PySem.SeqAt.shaped
  rw [PySem.PyData.canLay0, PySem.PyData.depth]
  rfl
theorem sh_lst (o : Bool) (l : List Int) : PySem.SeqAt.shaped (toPy (.lst o (nums l))) = true := by
  rw [toPy, nums_py]
  unfold PySem.SeqAt.shaped
  rw [PySem.PyData.canLay0, PySem.PyData.depth, lay_nums, depth_nums]
  rfl
theorem sh_tup (l : List Int) : PySem.SeqAt.shaped (toPy (.tup (nums l))) = true := by
  rw [toPy, nums_py]
  unfold PySem.SeqAt.shaped
  rw [PySem.PyData.canLay0, PySem.PyData.depth, lay_nums, depth_nums]
  rfl
theorem pEq_int (a b : Int) : pEq (.int a) (.int b) = some (.bl (decide (a = b))) := by
  unfold pEq
  rw [sh_int, sh_int, toPy, toPy, PySem.PyData.eqv]
  by_cases h : a = b <;> simp [h]
theorem pNe_int (a b : Int) : pNe (.int a) (.int b) = some (.bl (!decide (a = b))) := by
  unfold pNe
  rw [sh_int, sh_int, toPy, toPy, PySem.PyData.eqv]
  by_cases h : a = b <;> simp [h]
theorem pEq_bl (a b : Bool) : pEq (.bl a) (.bl b) = some (.bl (decide (a = b))) := by
  unfold pEq
  rw [sh_bl, sh_bl, toPy, toPy, PySem.PyData.eqv]
  by_cases h : a = b <;> simp [h]
theorem pNe_bl (a b : Bool) : pNe (.bl a) (.bl b) = some (.bl (!decide (a = b))) := by
  unfold pNe
  rw [sh_bl, sh_bl, toPy, toPy, PySem.PyData.eqv]
  by_cases h : a = b <;> simp [h]
theorem pEq_lst (o p : Bool) (l k : List Int) : pEq (.lst o (nums l)) (.lst p (nums k)) = some (.bl (decide (l = k))) := by
  unfold pEq
  rw [sh_lst, sh_lst, toPy, toPy, nums_py, nums_py, PySem.PyData.eqv, eqv_nums]
  rfl
theorem pNe_lst (o p : Bool) (l k : List Int) : pNe (.lst o (nums l)) (.lst p (nums k)) = some (.bl (!decide (l = k))) := by
  unfold pNe
  rw [sh_lst, sh_lst, toPy, toPy, nums_py, nums_py, PySem.PyData.eqv, eqv_nums]
  rfl
theorem pEq_tup (l k : List Int) : pEq (.tup (nums l)) (.tup (nums k)) = some (.bl (decide (l = k))) := by
  unfold pEq
  rw [sh_tup, sh_tup, toPy, toPy, nums_py, nums_py, PySem.PyData.eqv, eqv_nums]
  rfl
theorem pNe_tup (l k : List Int) : pNe (.tup (nums l)) (.tup (nums k)) = some (.bl (!decide (l = k))) := by
  unfold pNe
  rw [sh_tup, sh_tup, toPy, toPy, nums_py, nums_py, PySem.PyData.eqv, eqv_nums]
  rfl
theorem eLenI_v {C : Nat} {f : MF} {m : ME} {st st2 : Sl} {x : D} {n : Nat} {ps : Sl} (h : m st = .ok x st2) (hc : insC x = some C) (hf : f [x] = .ok (.int (n : Int)) ps) (hn : n < 1000000000) : eLenI C f (.v m) st = .ok (.int (n : Int)) st2 := by
  unfold eLenI
  rw [opds, h]
  dsimp only [Res.bind, opds, Option.map]
  rw [if_pos hc, hf]
  dsimp only
  rw [if_pos ⟨by omega, by omega⟩]
theorem eOp2_v {f : List D → Option Out} {m1 m2 : ME} {st st1 st2 : Sl} {a b : D} {o : Out} (h1 : m1 st = .ok a st1) (h2 : m2 st1 = .ok b st2) (hf : f [a, b] = some o) : eOp f [.v m1, .v m2] st = .ok o.d st2 := by
  unfold eOp
  rw [opds, h1]
  dsimp only [Res.bind]
  rw [opds, h2]
  dsimp only [Res.bind, opds, Option.map, Option.bind]
  rw [hf]
theorem fn_ret {n w : Nat} {L : List Nat} {body : MS} {ds : List D} {d : D} {st : Sl} (hl : ds.length = n) (h : body (ds.map some ++ List.replicate (w - n) none) = .ret d st) : fn n w L body ds = .ok d (keepL L n st) := by
  unfold fn
  rw [if_pos hl, h]
theorem sRet_ok {m : ME} {st st1 : Sl} {d : D} (h : m st = .ok d st1) : sRet m st = .ret d st1 := by
  unfold sRet
  rw [h]
  rfl
theorem sSeq_next {a b : MS} {st st1 : Sl} {r : SR} (h : a st = .next st1) (h2 : b st1 = r) : sSeq a b st = r := by
  unfold sSeq
  rw [h]
  exact h2
theorem sAsg_ok {m : ME} {g : MG} {st st1 st2 : Sl} {d : D} (h : m st = .ok d st1) (h2 : g d st1 = .ok () st2) : sAsg m g st = .next st2 := by
  unfold sAsg
  rw [h]
  show (g d st1).toN _ = _
  rw [h2]
  rfl
theorem sIf_ok {c : MT} {a b : MS} {st st1 : Sl} {k : Bool} (h : c st = .ok k st1) : sIf c a b st = if k then a st1 else b st1 := by
  unfold sIf
  rw [h]
  rfl
theorem tE_ok {m : ME} {st st1 : Sl} {k : Bool} (h : m st = .ok (.bl k) st1) : tE m st = .ok k st1 := by
  unfold tE
  rw [h]
  rfl
theorem tOr_ok {a b : MT} {st st1 st2 : Sl} {k : Bool} (h : a st = .ok false st1) (h2 : b st1 = .ok k st2) : tOrM a b st = .ok k st2 := by
  unfold tOrM
  rw [h]
  exact h2
theorem eCall1_v {f : MF} {m : ME} {st st1 : Sl} {a d : D} {ps : Sl} (h1 : m st = .ok a st1) (hf : f [a] = .ok d ps) : eCall f (aCons m aNil) st = .ok d st1 := by
  simp only [eCall, aCons, aNil, Res.bind, h1, hf]
theorem eCall2_v {f : MF} {m1 m2 : ME} {st st1 st2 : Sl} {a b d : D} {ps : Sl} (h1 : m1 st = .ok a st1) (h2 : m2 st1 = .ok b st2) (hf : f [a, b] = .ok d ps) : eCall f (aCons m1 (aCons m2 aNil)) st = .ok d st2 := by
  unfold eCall aCons aNil
  rw [h1]
  dsimp only [Res.bind]
  rw [h2]
  dsimp only [Res.bind]
  rw [hf]
/-- a lent slot, one argument behind it -/
theorem eCallL1_v {f : MF} {i : Nat} {m : ME} {st st1 : Sl} {x a d : D} {ps : Sl} (h0 : (getS st i).isSome = true) (h1 : m st = .ok a st1) (h2 : getS st1 i = some x) (hx : hot x = true) (hf : f [x, a] = .ok d ps) : eCallL f aNil i (aCons m aNil) st = .ok d (st1.set i (getS ps 0)) := by
  simp only [eCallL, aCons, aNil, Res.bind, h0, h1, h2, hx, if_true, List.nil_append, List.length_nil, hf]
theorem eCallL2_v {f : MF} {i : Nat} {m m2 : ME} {st st1 st2 : Sl} {x a b d : D} {ps : Sl} (h0 : (getS st i).isSome = true) (h1 : m st = .ok a st1) (h1' : m2 st1 = .ok b st2) (h2 : getS st2 i = some x) (hx : hot x = true) (hf : f [x, a, b] = .ok d ps) : eCallL f aNil i (aCons m (aCons m2 aNil)) st = .ok d (st2.set i (getS ps 0)) := by
  simp only [eCallL, aCons, aNil, Res.bind, h0, h1, h1', h2, hx, if_true, List.nil_append, List.length_nil, hf]
theorem eMake2_v {C : Nat} {f : MF} {m1 m2 : ME} {st st1 st2 : Sl} {a b x : D} {ps : Sl} (h1 : m1 st = .ok a st1) (h2 : m2 st1 = .ok b st2) (hf : f [.ins true C [], a, b] = .ok .non (some x :: ps)) : eMake C f (aCons m1 (aCons m2 aNil)) st = .ok x st2 := by
  unfold eMake aCons aNil
  rw [h1]
  dsimp only [Res.bind]
  rw [h2]
  dsimp only [Res.bind]
  rw [hf]
  rfl
theorem eEqI_v {neg : Bool} {C : Nat} {f : MF} {m1 m2 : ME} {st st1 st2 : Sl} {a b : D} {k : Bool} {ps : Sl} (h1 : m1 st = .ok a st1) (h2 : m2 st1 = .ok b st2) (ha : insC a = some C) (hb : insC b = some C) (hf : f [a, b] = .ok (.bl k) ps) : eEqI neg C f (.v m1) (.v m2) st = .ok (.bl (if neg then !k else k)) st2 := by
  unfold eEqI
  rw [opds, h1]
  dsimp only [Res.bind]
  rw [opds, h2]
  dsimp only [Res.bind, opds, Option.map]
  rw [if_pos ⟨ha, hb⟩, hf]
theorem eFz_v {m : ME} {st st1 : Sl} {a : D} (h : m st = .ok a st1) : eFz m st = .ok (frz a) st1 := by
  unfold eFz
  rw [h]
  rfl
theorem eOp1_v {f : List D → Option Out} {m1 : ME} {st st1 : Sl} {a : D} {o : Out} (h1 : m1 st = .ok a st1) (hf : f [a] = some o) : eOp f [.v m1] st = .ok o.d st1 := by
  unfold eOp
  rw [opds, h1]
  dsimp only [Res.bind, opds, Option.map, Option.bind]
  rw [hf]
theorem eOpvs_v {f : List D → Option Out} {m1 : ME} {i : Nat} {st st1 : Sl} {a b : D} {o : Out} (h1 : m1 st = .ok a st1) (h2 : getS st1 i = some b) (hf : f [a, b] = some o) : eOp f [.v m1, .s i] st = .ok o.d st1 := by
  unfold eOp
  rw [opds, h1]
  dsimp only [Res.bind]
  rw [opds, if_pos (by rw [h2]; rfl)]
  dsimp only [opds, Option.map, Option.bind]
  rw [h2]
  dsimp only
  rw [hf]
theorem iR1_v {m : ME} {st st1 : Sl} {n : Nat} {j : Int} (hj : j = (n : Int)) (h : m st = .ok (.int j) st1) (hs : small62 j = true) : iR1 m st = .ok (rangeD 0 n) st1 := by
  have e : j.toNat = n := by omega
  simp only [iR1, h, Res.bind, hs, if_true, e]
theorem eN_v {i : Nat} {st : Sl} {d : D} (h : getS st i = some d) (hc : hot d = false) : eN i st = .ok d st := by
  unfold eN
  rw [h]
  dsimp only
  rw [hc]
  rfl
theorem eNf_v {i : Nat} {st : Sl} {d : D} (h : getS st i = some d) (hc : hot d = true) : eN i st = .ok (frz d) (st.set i (some (frz d))) := by
  unfold eN
  rw [h]
  dsimp only
  rw [hc]
  rfl
theorem eOp1_s {f : List D → Option Out} {i : Nat} {st : Sl} {a : D} {o : Out} (h1 : getS st i = some a) (hf : f [a] = some o) : eOp f [.s i] st = .ok o.d st := by
  unfold eOp
  rw [opds, if_pos (by rw [h1]; rfl)]
  dsimp only [opds, Option.map, Option.bind]
  rw [h1]
  dsimp only
  rw [hf]
theorem oLen_l {o : Bool} {l : List Int} : oLen [.lst o (nums l)] = some (.val (.int (l.length : Nat))) := by
  show some (Out.val (.int (nums l).length)) = _
  rw [nums_len]
theorem oMul_v {i j : Int} (h : -(2 ^ 64) < j ∧ j < 2 ^ 64) : oMul [.int i, .int j] = some (.val (.int (i * j))) := by
  show (if (-(2 ^ 64) < i ∧ i < 2 ^ 64) ∨ (-(2 ^ 64) < j ∧ j < 2 ^ 64) then some (Out.val (.int (i * j))) else none) = _
  rw [if_pos (.inr h)]
theorem oMod_v {i j : Int} (h : 0 < j) : oMod [.int i, .int j] = some (.val (.int (i % j))) := by
  show (if 0 < j then some (Out.val (.int (i % j))) else none) = _
  rw [if_pos h]
theorem oDiv_v {i j : Int} (h : 0 < j) (h2 : j < 9000) : oDiv [.int i, .int j] = some (.val (.int (i / j))) := by
  show (if 0 < j ∧ j.natAbs.log2 < 9000 then some (Out.val (.int (i / j))) else none) = _
  rw [if_pos ⟨h, by
    have := Nat.log2_le_self j.natAbs
    omega⟩]
theorem oPow_v {i j : Int} (h : 0 ≤ j ∧ j ≤ 1000000) (h2 : i.natAbs < 2 ^ 64) : oPow [.int i, .int j] = some (.val (.int (i ^ j.toNat))) := by
  show (if 0 ≤ j ∧ j ≤ 1000000 ∧ i.natAbs < 2 ^ 64 then some (Out.val (.int (i ^ j.toNat))) else none) = _
  rw [if_pos ⟨h.1, h.2, h2⟩]
theorem ix2_0 {o : Bool} {a b : Int} : oIx [.lst o [.int a, .int b], .int 0] = some (.val (.int a)) := oIx_nums (l := [a, b]) (i := 0) (by decide) (by show (0 : Int) < ((2 : Nat) : Int); decide)
theorem ix2_1 {o : Bool} {a b : Int} : oIx [.lst o [.int a, .int b], .int 1] = some (.val (.int b)) := oIx_nums (l := [a, b]) (i := 1) (by decide) (by show (1 : Int) < ((2 : Nat) : Int); decide)
theorem ixN2_0 : L2.ixN 2 0 = some 0 := rfl
theorem ixN2_1 : L2.ixN 2 1 = some 1 := rfl
theorem oMul_l {i j : Int} (h : -(2 ^ 64) < i ∧ i < 2 ^ 64) : oMul [.int i, .int j] = some (.val (.int (i * j))) := by
  show (if (-(2 ^ 64) < i ∧ i < 2 ^ 64) ∨ (-(2 ^ 64) < j ∧ j < 2 ^ 64) then some (Out.val (.int (i * j))) else none) = _
  rw [if_pos (.inl h)]
theorem cut_nums (l : List Int) (lo hi : Option Int) : ∃ k, cutD (nums l) lo hi = nums k ∧ k.length ≤ l.length := by
  refine ⟨(l.drop (HT.sIx l.length 0 lo)).take (HT.sIx l.length l.length hi - HT.sIx l.length 0 lo), ?_, ?_⟩
  · unfold cutD nums
    rw [List.length_map, List.map_take, List.map_drop]
  · rw [List.length_take, List.length_drop]
    omega
theorem oSl01_scr (l : List Int) (j : Int) (hl : l.length ≤ 63) : ∃ k, oSl01 [.scr l, .int j] = some (.newL (nums k)) := by
  obtain ⟨k, e, h⟩ := cut_nums l none (some j)
  refine ⟨k, ?_⟩
  show newLc (cutD (nums l) none (some j)) = _
  rw [e]
  unfold newLc
  rw [nums_colds, nums_len, decide_eq_true (by omega : k.length ≤ 16777216)]
  rfl
theorem oSum_nums (o : Bool) (k : List Int) : oSum [.lst o (nums k)] = some (.val (.int k.sum)) := by
  unfold oSum lstItems
  dsimp only [Option.bind]
  rw [nums_as]
  rfl
theorem oLen_scr (l : List Int) : oLen [.scr l] = some (.val (.int (l.length : Nat))) := by
  show some (Out.val (.int (l.map D.int).length)) = _
  rw [List.length_map]
theorem eLc_v {src : Sl → Res (List D)} {g : MG} {t : MT} {e : ME} {vs : List Nat} {st st1 st2 : Sl} {ds acc : List D} (h1 : src st = .ok ds st1) (h2 : compD g t e vs ds (wipeS st1 vs) [] = .ok acc st2) : eLc src g t e vs st = .ok (.lst true acc) st2 := by
  unfold eLc
  rw [h1]
  dsimp only [Res.bind]
  rw [h2]
theorem eOpsv_v {f : List D → Option Out} {m1 : ME} {i : Nat} {st st1 : Sl} {a b : D} {o : Out} (h0 : (getS st i).isSome = true) (h1 : m1 st = .ok b st1) (h2 : getS st1 i = some a) (hf : f [a, b] = some o) : eOp f [.s i, .v m1] st = .ok o.d st1 := by
  unfold eOp
  rw [opds, if_pos h0, opds, h1]
  dsimp only [Res.bind, opds, Option.map, Option.bind]
  rw [h2]
  dsimp only
  rw [hf]
theorem kb_NoneType_int : L2.kitB "NoneType" "int" = some false := by kernel_rfl
theorem kb_NoneType_bool : L2.kitB "NoneType" "bool" = some false := by kernel_rfl
theorem kb_NoneType_list : L2.kitB "NoneType" "list" = some false := by kernel_rfl
theorem kb_NoneType_tuple : L2.kitB "NoneType" "tuple" = some false := by kernel_rfl
theorem kb_NoneType_str : L2.kitB "NoneType" "str" = some false := by kernel_rfl
theorem kb_bool_int : L2.kitB "bool" "int" = some true := by kernel_rfl
theorem kb_bool_bool : L2.kitB "bool" "bool" = some true := by kernel_rfl
theorem kb_bool_list : L2.kitB "bool" "list" = some false := by kernel_rfl
theorem kb_bool_tuple : L2.kitB "bool" "tuple" = some false := by kernel_rfl
theorem kb_bool_str : L2.kitB "bool" "str" = some false := by kernel_rfl
theorem kb_int_int : L2.kitB "int" "int" = some true := by kernel_rfl
theorem kb_int_bool : L2.kitB "int" "bool" = some false := by kernel_rfl
theorem kb_int_list : L2.kitB "int" "list" = some false := by kernel_rfl
theorem kb_int_tuple : L2.kitB "int" "tuple" = some false := by kernel_rfl
theorem kb_int_str : L2.kitB "int" "str" = some false := by kernel_rfl
theorem kb_str_int : L2.kitB "str" "int" = some false := by kernel_rfl
theorem kb_str_bool : L2.kitB "str" "bool" = some false := by kernel_rfl
theorem kb_str_list : L2.kitB "str" "list" = some false := by kernel_rfl
theorem kb_str_tuple : L2.kitB "str" "tuple" = some false := by kernel_rfl
theorem kb_str_str : L2.kitB "str" "str" = some true := by kernel_rfl
theorem kb_list_int : L2.kitB "list" "int" = some false := by kernel_rfl
theorem kb_list_bool : L2.kitB "list" "bool" = some false := by kernel_rfl
theorem kb_list_list : L2.kitB "list" "list" = some true := by kernel_rfl
theorem kb_list_tuple : L2.kitB "list" "tuple" = some false := by kernel_rfl
theorem kb_list_str : L2.kitB "list" "str" = some false := by kernel_rfl
theorem kb_tuple_int : L2.kitB "tuple" "int" = some false := by kernel_rfl
theorem kb_tuple_bool : L2.kitB "tuple" "bool" = some false := by kernel_rfl
theorem kb_tuple_list : L2.kitB "tuple" "list" = some false := by kernel_rfl
theorem kb_tuple_tuple : L2.kitB "tuple" "tuple" = some true := by kernel_rfl
theorem kb_tuple_str : L2.kitB "tuple" "str" = some false := by kernel_rfl
theorem kb_dict_int : L2.kitB "dict" "int" = some false := by kernel_rfl
theorem kb_dict_bool : L2.kitB "dict" "bool" = some false := by kernel_rfl
theorem kb_dict_list : L2.kitB "dict" "list" = some false := by kernel_rfl
theorem kb_dict_tuple : L2.kitB "dict" "tuple" = some false := by kernel_rfl
theorem kb_dict_str : L2.kitB "dict" "str" = some false := by kernel_rfl
end DL

/-! DL20: the plain law of comparators between neighbours: exchanges, active steps, inversions. -/
namespace Nw
def hit (l : List Int) (s : Int) : Bool := decide (l.getD s.toNat 0 < l.getD (s - 1).toNat 0)
def xch (l : List Int) (s : Int) : List Int := (l.set (s - 1).toNat (l.getD s.toNat 0)).set s.toNat (l.getD (s - 1).toNat 0)
def stp (l : List Int) (s : Int) : List Int := if hit l s then xch l s else l
def runL (ss : List Int) (l : List Int) : List Int := ss.foldl stp l
def okS (w : Int) (ss : List Int) : Prop := ∀ s ∈ ss, 1 ≤ s ∧ s ≤ w - 1
def actS : List Int → List Int → List Int
  | [], _ => []
  | s :: ss, l => if hit l s then s :: actS ss (stp l s) else actS ss (stp l s)
def actI : Nat → List Int → List Int → List Int
  | _, [], _ => []
  | k, s :: ss, l => if hit l s then (k : Int) :: actI (k + 1) ss (stp l s) else actI (k + 1) ss (stp l s)
theorem stp_len (l : List Int) (s : Int) : (stp l s).length = l.length := by
  unfold stp xch
  split <;> simp
theorem runL_len : ∀ (ss : List Int) (l : List Int), (runL ss l).length = l.length
  | [], _ => rfl
  | s :: ss, l => by
    show (runL ss (stp l s)).length = _
    rw [runL_len ss, stp_len]
theorem runL_snoc (ss : List Int) (s : Int) (l : List Int) : runL (ss ++ [s]) l = stp (runL ss l) s := by
  unfold runL
  rw [List.foldl_append]
  rfl
theorem runL_act : ∀ (ss : List Int) (l : List Int), runL (actS ss l) l = runL ss l
  | [], _ => rfl
  | s :: ss, l => by
    show runL (actS (s :: ss) l) l = runL ss (stp l s)
    rw [actS]
    cases h : hit l s with
    | true =>
      rw [if_pos rfl]
      exact runL_act ss (stp l s)
    | false =>
      rw [if_neg (by decide)]
      have e : stp l s = l := by unfold stp; rw [h]; rfl
      have := runL_act ss (stp l s)
      rw [e] at this ⊢
      exact this
theorem actS_act : ∀ (ss : List Int) (l : List Int), actS (actS ss l) l = actS ss l
  | [], _ => rfl
  | s :: ss, l => by
    rw [actS]
    cases h : hit l s with
    | true =>
      rw [if_pos rfl, actS, h, if_pos rfl, actS_act ss]
    | false =>
      rw [if_neg (by decide)]
      have e : stp l s = l := by unfold stp; rw [h]; rfl
      have := actS_act ss (stp l s)
      rw [e] at this ⊢
      exact this
theorem actS_sub : ∀ (ss : List Int) (l : List Int), ∀ s ∈ actS ss l, s ∈ ss
  | [], _, s, h => by cases h
  | a :: ss, l, s, h => by
    rw [actS] at h
    split at h
    · rcases List.mem_cons.mp h with h | h
      · rw [h]
        exact List.mem_cons_self
      · exact List.mem_cons_of_mem _ (actS_sub ss _ s h)
    · exact List.mem_cons_of_mem _ (actS_sub ss _ s h)
theorem actS_ok {w : Int} {ss l : List Int} (h : okS w ss) : okS w (actS ss l) := fun s hs => h s (actS_sub ss l s hs)
theorem actS_length_le : ∀ (ss l : List Int), (actS ss l).length ≤ ss.length
  | [], _ => Nat.le_refl _
  | s :: ss, l => by
    rw [actS]
    have := actS_length_le ss (stp l s)
    split <;> simp <;> omega
theorem actI_length : ∀ (k : Nat) (ss l : List Int), (actI k ss l).length = (actS ss l).length
  | _, [], _ => rfl
  | k, s :: ss, l => by
    rw [actI, actS]
    have := actI_length (k + 1) ss (stp l s)
    split <;> simp [this]
theorem actI_map : ∀ (k : Nat) (ss l full : List Int), full.drop k = ss → (actI k ss l).map (fun i => full.getD i.toNat 0) = actS ss l
  | _, [], _, _, _ => rfl
  | k, s :: ss, l, full, h => by
    have hk : full.getD k 0 = s := by
      have : (full.drop k)[0]? = some s := by rw [h]; rfl
      rw [List.getElem?_drop, Nat.add_zero] at this
      rw [List.getD_eq_getElem?_getD, this]; rfl
    have h2 : full.drop (k + 1) = ss := by
      rw [← List.drop_drop, h]; rfl
    have := actI_map (k + 1) ss (stp l s) full h2
    rw [actI, actS]
    split
    · rw [List.map_cons, this, show ((k : Nat) : Int).toNat = k from rfl, hk]
    · exact this
theorem actI_lt : ∀ (k : Nat) (ss l : List Int), ∀ i ∈ actI k ss l, 0 ≤ i ∧ i < ((k + ss.length : Nat) : Int)
  | _, [], _, i, h => by cases h
  | k, s :: ss, l, i, h => by
    rw [actI] at h
    have ih := actI_lt (k + 1) ss (stp l s)
    rw [List.length_cons]
    split at h
    · rcases List.mem_cons.mp h with h | h
      · subst h; omega
      · have := ih i h; omega
    · have := ih i h; omega
theorem runL_app (a b l : List Int) : runL (a ++ b) l = runL b (runL a l) := by unfold runL; rw [List.foldl_append]
theorem actS_app : ∀ (a b l : List Int), actS (a ++ b) l = actS a l ++ actS b (runL a l)
  | [], b, l => rfl
  | s :: a, b, l => by
    rw [List.cons_append, actS, actS]
    have := actS_app a b (stp l s)
    split
    · rw [this]; rfl
    · rw [this]; rfl
theorem actI_app : ∀ (k : Nat) (a b l : List Int), actI k (a ++ b) l = actI k a l ++ actI (k + a.length) b (runL a l)
  | k, [], b, l => rfl
  | k, s :: a, b, l => by
    rw [List.cons_append, actI, actI, List.length_cons]
    have := actI_app (k + 1) a b (stp l s)
    rw [show k + 1 + a.length = k + (a.length + 1) by omega] at this
    split
    · rw [this]; rfl
    · rw [this]; rfl
/-! ### inversions -/
def cnt (x : Int) (p : List Int) : Nat := (p.filter fun y => decide (x < y)).length
def invP : List Int → List Int → Nat
  | _, [] => 0
  | p, x :: r => cnt x p + invP (p ++ [x]) r
def inv (l : List Int) : Nat := invP [] l
theorem cnt_app (x : Int) (p q : List Int) : cnt x (p ++ q) = cnt x p + cnt x q := by unfold cnt; rw [List.filter_append, List.length_append]
theorem cnt_one (x y : Int) : cnt x [y] = if x < y then 1 else 0 := by
  unfold cnt
  by_cases h : x < y <;> simp [h]
theorem invP_cong : ∀ (r p q : List Int), (∀ x, cnt x p = cnt x q) → invP p r = invP q r
  | [], _, _, _ => rfl
  | x :: r, p, q, h => by
    rw [invP, invP, h x, invP_cong r (p ++ [x]) (q ++ [x]) fun y => by rw [cnt_app, cnt_app, h y]]
theorem invP_app : ∀ (a p r : List Int), invP p (a ++ r) = invP p a + invP (p ++ a) r
  | [], p, r => by simp [invP]
  | x :: a, p, r => by
    rw [List.cons_append, invP, invP, invP_app a (p ++ [x]) r]
    simp only [List.append_assoc, List.singleton_append]
    omega
theorem invP_swap (p r : List Int) {a b : Int} (h : b < a) : invP p (b :: a :: r) + 1 = invP p (a :: b :: r) := by
  simp only [invP]
  rw [cnt_app, cnt_app, cnt_one, cnt_one, if_pos h, if_neg (by omega), invP_cong r (p ++ [b] ++ [a]) (p ++ [a] ++ [b]) fun x => by simp only [cnt_app]; omega]
  omega
theorem split2 {l : List Int} {i : Nat} (h : i + 1 < l.length) : ∃ p r, l = p ++ l.getD i 0 :: l.getD (i + 1) 0 :: r ∧ p.length = i := by
  refine ⟨l.take i, l.drop (i + 2), ?_, by simp; omega⟩
  have e1 : l.getD i 0 = l[i] := by rw [List.getD_eq_getElem?_getD, List.getElem?_eq_getElem (by omega)]; rfl
  have e2 : l.getD (i + 1) 0 = l[i + 1] := by rw [List.getD_eq_getElem?_getD, List.getElem?_eq_getElem h]; rfl
  rw [e1, e2, ← List.drop_eq_getElem_cons h, ← List.drop_eq_getElem_cons (by omega : i < l.length), List.take_append_drop]
theorem xch_split {p r : List Int} {a b : Int} {s : Int} (h1 : 1 ≤ s) (hp : (p.length : Int) = s - 1) : xch (p ++ a :: b :: r) s = p ++ b :: a :: r := by
  have e1 : (s - 1).toNat = p.length := by omega
  have e2 : s.toNat = p.length + 1 := by omega
  unfold xch
  rw [e1, e2]
  have g1 : (p ++ a :: b :: r).getD p.length 0 = a := by
    rw [List.getD_eq_getElem?_getD, List.getElem?_append_right (Nat.le_refl _), Nat.sub_self]; rfl
  have g2 : (p ++ a :: b :: r).getD (p.length + 1) 0 = b := by
    rw [List.getD_eq_getElem?_getD, List.getElem?_append_right (by omega), show p.length + 1 - p.length = 1 by omega]; rfl
  rw [g1, g2, List.set_append_right _ _ (Nat.le_refl _), Nat.sub_self, List.set_cons_zero, List.set_append_right _ _ (by omega), show p.length + 1 - p.length = 1 by omega]
  rfl
theorem inv_stp {l : List Int} {s : Int} (h1 : 1 ≤ s) (h2 : s < l.length) : inv (stp l s) + (if hit l s then 1 else 0) = inv l := by
  unfold stp
  cases h : hit l s with
  | false => simp
  | true =>
    simp only [if_true]
    have hh := of_decide_eq_true h
    obtain ⟨p, r, e, hp⟩ := split2 (l := l) (i := (s - 1).toNat) (by omega)
    rw [show (s - 1).toNat + 1 = s.toNat by omega] at e
    generalize l.getD (s - 1).toNat 0 = a at *
    generalize l.getD s.toNat 0 = b at *
    subst e
    rw [xch_split h1 (by omega)]
    unfold inv
    rw [invP_app, invP_app, Nat.add_assoc, invP_swap _ _ hh]
theorem inv_run : ∀ (ss l : List Int), okS l.length ss → inv (runL ss l) + (actS ss l).length = inv l
  | [], _, _ => rfl
  | s :: ss, l, h => by
    have hs := h s List.mem_cons_self
    have e := inv_stp hs.1 (by omega : s < l.length)
    have ih := inv_run ss (stp l s) (by rw [stp_len]; exact fun t ht => h t (List.mem_cons_of_mem _ ht))
    show inv (runL ss (stp l s)) + _ = _
    rw [actS]
    cases hh : hit l s with
    | true => rw [hh] at e; simp at e ⊢; omega
    | false => rw [hh] at e; simp at e ⊢; omega
def desc : Nat → List Int
  | 0 => []
  | n + 1 => ((n + 1 : Nat) : Int) :: desc n
theorem desc_len : ∀ n, (desc n).length = n
  | 0 => rfl
  | n + 1 => by rw [desc, List.length_cons, desc_len n]
theorem cnt_all {x : Int} : ∀ {p : List Int}, (∀ y ∈ p, x < y) → cnt x p = p.length
  | [], _ => rfl
  | a :: p, h => by
    have := cnt_all (x := x) (p := p) fun y hy => h y (List.mem_cons_of_mem _ hy)
    unfold cnt at this ⊢
    rw [List.filter_cons, if_pos (decide_eq_true (h a List.mem_cons_self)), List.length_cons, List.length_cons, this]
theorem invP_desc : ∀ (n : Nat) (p : List Int), (∀ y ∈ p, (n : Int) < y) → 2 * invP p (desc n) + n = 2 * (n * p.length) + n * n
  | 0, p, _ => by simp [desc, invP]
  | n + 1, p, h => by
    rw [desc, invP, cnt_all (fun y hy => h y hy)]
    have := invP_desc n (p ++ [((n + 1 : Nat) : Int)]) fun y hy => by
      rcases List.mem_append.mp hy with hy
          | hy
      · have := h y hy; omega
      · simp at hy; omega
    rw [List.length_append, List.length_singleton] at this
    have e1 : n * (p.length + 1) = n * p.length + n := by rw [Nat.mul_add, Nat.mul_one]
    have e2 : (n + 1) * p.length = n * p.length + p.length := by rw [Nat.add_mul, Nat.one_mul]
    have e3 : (n + 1) * (n + 1) = n * n + 2 * n + 1 := by rw [Nat.mul_add, Nat.add_mul]; omega
    rw [e1] at this
    rw [e2, e3]
    omega
theorem inv_desc (n : Nat) : 2 * inv (desc n) + n = n * n := by
  have := invP_desc n [] (fun y hy => by cases hy)
  unfold inv
  simpa using this
theorem stp_ne {l : List Int} {s : Int} (h1 : 1 ≤ s) (h2 : s < l.length) : (stp l s = l) ↔ hit l s = false := by
  constructor
  · intro e
    cases h : hit l s with
    | false => rfl
    | true =>
      have := inv_stp h1 h2
      rw [e, h] at this
      simp at this
  · intro h
    unfold stp
    rw [h]
    rfl
end Nw

/-! DL21: the relations of the steps; every network is as a normal one. -/
namespace Nw
/-- the step between the places i and i + 1 -/
def sN (l : List Int) (i : Nat) : List Int := stp l ((i : Int) + 1)
theorem sN_len (l : List Int) (i : Nat) : (sN l i).length = l.length := stp_len _ _
theorem sN_get {l : List Int} {i : Nat} (h : i + 1 < l.length) (k : Nat) : (sN l i).getD k 0 = if k = i then min (l.getD i 0) (l.getD (i + 1) 0) else if k = i + 1 then max (l.getD i 0) (l.getD (i + 1) 0) else l.getD k 0 := by
  have e1 : ((i : Int) + 1).toNat = i + 1 := by omega
  have e2 : ((i : Int) + 1 - 1).toNat = i := by omega
  unfold sN stp hit xch
  rw [e1, e2]
  by_cases hh : l.getD (i + 1) 0 < l.getD i 0
  · rw [if_pos (decide_eq_true hh)]
    simp only [List.getD_eq_getElem?_getD, List.getElem?_set, List.length_set]
    simp only [List.getD_eq_getElem?_getD] at hh
    by_cases k1 : k = i
    · subst k1
      rw [if_neg (by omega), if_pos rfl, if_pos (by omega), if_pos rfl]
      simp only [Option.getD_some]
      omega
    · by_cases k2 : k = i + 1
      · subst k2
        rw [if_pos rfl, if_pos (by omega), if_neg (by omega), if_pos rfl]
        simp only [Option.getD_some]
        omega
      · rw [if_neg (by omega), if_neg (by omega), if_neg k1, if_neg k2]
  · rw [if_neg (by simpa using hh)]
    by_cases k1 : k = i
    · subst k1
      rw [if_pos rfl]
      omega
    · rw [if_neg k1]
      by_cases k2 : k = i + 1
      · subst k2
        rw [if_pos rfl]
        omega
      · rw [if_neg k2]
theorem ext_get {l m : List Int} (hl : l.length = m.length) (h : ∀ k, l.getD k 0 = m.getD k 0) : l = m := by
  apply List.ext_getElem hl
  intro k h1 h2
  have := h k
  rw [List.getD_eq_getElem?_getD, List.getD_eq_getElem?_getD, List.getElem?_eq_getElem h1, List.getElem?_eq_getElem h2] at this
  exact this
theorem sN_idem {l : List Int} {i : Nat} (h : i + 1 < l.length) : sN (sN l i) i = sN l i := by
  apply ext_get (by rw [sN_len])
  intro k
  rw [sN_get (by rw [sN_len]; exact h)]
  simp only [sN_get h, if_true]
  by_cases k1 : k = i <;> by_cases k2 : k = i + 1 <;> simp [k1, k2] <;> omega
theorem sN_comm {l : List Int} {i j : Nat} (hi : i + 1 < l.length) (hj : j + 1 < l.length) (hij : i + 2 ≤ j) : sN (sN l i) j = sN (sN l j) i := by
  apply ext_get (by rw [sN_len, sN_len, sN_len, sN_len])
  intro k
  rw [sN_get (l := sN l i) (i := j) (by rw [sN_len]; exact hj), sN_get (l := sN l j) (i := i) (by rw [sN_len]; exact hi)]
  simp only [sN_get hi, sN_get hj]
  rw [if_neg (show ¬ j = i by omega), if_neg (show ¬ j = i + 1 by omega), if_neg (show ¬ j + 1 = i by omega), if_neg (show ¬ j + 1 = i + 1 by omega), if_neg (show ¬ i = j by omega), if_neg (show ¬ i = j + 1 by omega), if_neg (show ¬ i + 1 = j by omega), if_neg (show ¬ i + 1 = j + 1 by omega)]
  by_cases k1 : k = i
  · rw [if_neg (by omega), if_neg (by omega), if_pos k1, if_pos k1]
  · by_cases k2 : k = i + 1
    · rw [if_neg (by omega), if_neg (by omega), if_neg k1, if_pos k2, if_neg k1, if_pos k2]
    · rw [if_neg k1, if_neg k2, if_neg k1, if_neg k2]
theorem sN_braid {l : List Int} {i : Nat} (h : i + 2 < l.length) : sN (sN (sN l (i + 1)) i) (i + 1) = sN (sN (sN l i) (i + 1)) i := by
  apply ext_get (by simp only [sN_len])
  intro k
  have h1 : i + 1 < l.length := by omega
  have g1 : ∀ k, (sN l (i + 1)).getD k 0 = if k = i + 1 then min (l.getD (i + 1) 0) (l.getD (i + 1 + 1) 0) else if k = i + 1 + 1 then max (l.getD (i + 1) 0) (l.getD (i + 1 + 1) 0) else l.getD k 0 := fun k => sN_get h k
  have g2 : ∀ k, (sN l i).getD k 0 = if k = i then min (l.getD i 0) (l.getD (i + 1) 0) else if k = i + 1 then max (l.getD i 0) (l.getD (i + 1) 0) else l.getD k 0 := fun k => sN_get h1 k
  have g3 : ∀ k, (sN (sN l (i + 1)) i).getD k 0 = if k = i then min ((sN l (i + 1)).getD i 0) ((sN l (i + 1)).getD (i + 1) 0) else if k = i + 1 then max ((sN l (i + 1)).getD i 0) ((sN l (i + 1)).getD (i + 1) 0) else (sN l (i + 1)).getD k 0 := fun k => sN_get (by rw [sN_len]; exact h1) k
  have g4 : ∀ k, (sN (sN l i) (i + 1)).getD k 0 = if k = i + 1 then min ((sN l i).getD (i + 1) 0) ((sN l i).getD (i + 1 + 1) 0) else if k = i + 1 + 1 then max ((sN l i).getD (i + 1) 0) ((sN l i).getD (i + 1 + 1) 0) else (sN l i).getD k 0 := fun k => sN_get (by rw [sN_len]; exact h) k
  rw [sN_get (l := sN (sN l (i + 1)) i) (i := i + 1) (by rw [sN_len, sN_len]; exact h), sN_get (l := sN (sN l i) (i + 1)) (i := i) (by rw [sN_len, sN_len]; exact h1)]
  simp only [g3, g4, g1, g2]
  generalize l.getD i 0 = a
  generalize l.getD (i + 1) 0 = b
  generalize l.getD (i + 1 + 1) 0 = c
  generalize l.getD k 0 = d
  by_cases k1 : k = i
  · subst k1
    simp
    omega
  · by_cases k2 : k = i + 1
    · subst k2
      simp
      omega
    · by_cases k3 : k = i + 1 + 1
      · subst k3
        simp
        omega
      · simp [k1, k2, k3]
/-! ### words of steps, by the left place -/
def runN (w : List Nat) (l : List Int) : List Int := w.foldl sN l
theorem runN_app (a b : List Nat) (l : List Int) : runN (a ++ b) l = runN b (runN a l) := by unfold runN; rw [List.foldl_append]
theorem runN_cons (i : Nat) (a : List Nat) (l : List Int) : runN (i :: a) l = runN a (sN l i) := rfl
theorem runN_one (i : Nat) (l : List Int) : runN [i] l = sN l i := rfl
theorem runN_len : ∀ (w : List Nat) (l : List Int), (runN w l).length = l.length
  | [], _ => rfl
  | i :: w, l => by rw [runN_cons, runN_len w, sN_len]
theorem sN_comm2 {l : List Int} {i j : Nat} (hi : i + 1 < l.length) (hj : j + 1 < l.length) (h : i + 2 ≤ j ∨ j + 2 ≤ i) : sN (sN l i) j = sN (sN l j) i := by
  rcases h with h | h
  · exact sN_comm hi hj h
  · exact (sN_comm hj hi h).symm
theorem comm_past {i : Nat} : ∀ (ds : List Nat) (l : List Int), i + 1 < l.length → (∀ d ∈ ds, d + 1 < l.length ∧ (i + 2 ≤ d ∨ d + 2 ≤ i)) → runN (ds ++ [i]) l = runN (i :: ds) l
  | [], _, _, _ => rfl
  | d :: ds, l, hi, h => by
    obtain ⟨hd, hc⟩ := h d List.mem_cons_self
    have ih := comm_past ds (sN l d) (by rw [sN_len]; exact hi) fun e he => by
      rw [sN_len]
      exact h e (List.mem_cons_of_mem _ he)
    rw [List.cons_append, runN_cons, ih, runN_cons, runN_cons, runN_cons, sN_comm2 hd hi (hc.symm)]
/-- a descending block: m, m - 1, .. (c of them) -/
def dn : Nat → Nat → List Nat
  | _, 0 => []
  | m, c + 1 => m :: dn (m - 1) c
theorem dn_mem : ∀ (c m : Nat), c ≤ m + 1 → ∀ d ∈ dn m c, d ≤ m ∧ m < d + c
  | 0, _, _, d, h => by cases h
  | c + 1, m, hc, d, h => by
    rcases List.mem_cons.mp h with h | h
    · subst h
      omega
    · cases m with
      | zero =>
        have : c = 0 := by omega
        subst this
        cases h
      | succ m =>
        have := dn_mem c m (by omega) d h
        omega
theorem dn_snoc : ∀ (c m : Nat), c ≤ m → dn m (c + 1) = dn m c ++ [m - c]
  | 0, m, _ => rfl
  | c + 1, m, h => by
    rw [dn, dn_snoc c (m - 1) (by omega), dn, List.cons_append, show m - 1 - c = m - (c + 1) by omega]
/-- a step that lies within a block goes through it, one place lower -/
theorem push : ∀ (c m i : Nat) (l : List Int), c ≤ m + 1 → m + 1 < i + c → i ≤ m → m + 1 < l.length → runN (dn m c ++ [i]) l = runN ((i - 1) :: dn m c) l
  | 0, m, i, l, _, h1, h2, _ => by omega
  | c + 1, m, i, l, hc, h1, h2, hl => by
    by_cases him : i = m
    · subst him
      cases c with
      | zero => omega
      | succ c =>
        obtain ⟨k, rfl⟩ : ∃ k, i = k + 1 := ⟨i - 1, by omega⟩
        have far := comm_past (i := k + 1) (dn (k - 1) c) (sN (sN l (k + 1)) k) (by rw [sN_len, sN_len]; omega) fun d hd => by
          rw [sN_len, sN_len]
          cases k with
          | zero =>
            have : c = 0 := by omega
            subst this
            cases hd
          | succ k =>
            have := dn_mem c k (by omega) d hd
            omega
        show runN (dn (k - 1) c ++ [k + 1]) (sN (sN l (k + 1)) k) = runN (dn (k - 1) c) (sN (sN (sN l k) (k + 1)) k)
        rw [far, runN_cons, sN_braid (by omega)]
    · have ih := push c (m - 1) i (sN l m) (by omega) (by omega) (by omega) (by rw [sN_len]; omega)
      show runN (dn (m - 1) c ++ [i]) (sN l m) = runN (dn (m - 1) c) (sN (sN l (i - 1)) m)
      rw [ih, runN_cons, sN_comm2 (l := l) (i := m) (j := i - 1) hl (by omega) (.inr (by omega))]
/-! ### normal words by codes; a code is given from its end -/
def nfR : List Nat → List Nat
  | [] => []
  | c :: r => nfR r ++ dn r.length c
def okC : List Nat → Prop
  | [] => True
  | c :: r => c ≤ r.length + 1 ∧ okC r
theorem nfR_lt : ∀ (cs : List Nat), okC cs → ∀ d ∈ nfR cs, d < cs.length
  | [], _, d, h => by cases h
  | c :: r, h, d, hd => by
    rw [List.length_cons]
    rcases List.mem_append.mp hd with hd | hd
    · have := nfR_lt r h.2 d hd
      omega
    · have := dn_mem c r.length h.1 d hd
      omega
/-- a step behind a normal word: a normal word again -/
theorem absorb : ∀ (cs : List Nat) (i : Nat), okC cs → i < cs.length → ∃ cs', cs'.length = cs.length ∧ okC cs' ∧ ∀ l : List Int, cs.length < l.length → runN (nfR cs ++ [i]) l = runN (nfR cs') l
  | [], i, _, h => by cases h
  | c :: r, i, ⟨h1, h2⟩, hi => by
    rw [List.length_cons] at hi
    -- a step for what lies before
    have before : ∀ j, j < r.length → (∀ l : List Int, r.length + 1 < l.length → runN (dn r.length c ++ [i]) l = runN (j :: dn r.length c) l) →
        ∃ cs', cs'.length = (c :: r).length ∧ okC cs' ∧ ∀ l : List Int, (c :: r).length < l.length → runN (nfR (c :: r) ++ [i]) l = runN (nfR cs') l := fun j hj hp => by
      obtain ⟨r', e1, e2, e3⟩ := absorb r j h2 hj
      refine ⟨c :: r', by rw [List.length_cons, e1, List.length_cons], ⟨by rw [e1]; exact h1, e2⟩, fun l hl => ?_⟩
      rw [List.length_cons] at hl
      show runN (nfR r ++ dn r.length c ++ [i]) l = runN (nfR r' ++ dn r'.length c) l
      rw [List.append_assoc, runN_app, hp _ (by rw [runN_len]; exact hl), runN_app, e1, ← e3 l (by omega), runN_app]
      rfl
    cases c with
    | zero =>
      by_cases him : i = r.length
      · subst him
        refine ⟨1 :: r, rfl, ⟨by omega, h2⟩, fun l _ => ?_⟩
        show runN (nfR r ++ [] ++ [r.length]) l = runN (nfR r ++ [r.length]) l
        rw [List.append_nil]
      · exact before i (by omega) fun l _ => rfl
    | succ c =>
      by_cases q1 : i + c + 1 = r.length
      · -- it makes the block longer
        refine ⟨(c + 2) :: r, rfl, ⟨by omega, h2⟩, fun l _ => ?_⟩
        show runN (nfR r ++ dn r.length (c + 1) ++ [i]) l = runN (nfR r ++ dn r.length (c + 1 + 1)) l
        rw [dn_snoc (c + 1) r.length (by omega), List.append_assoc, show r.length - (c + 1) = i by omega]
      · by_cases q2 : i + c = r.length
        · -- it is the block's last step
          refine ⟨(c + 1) :: r, rfl, ⟨h1, h2⟩, fun l hl => ?_⟩
          rw [List.length_cons] at hl
          show runN (nfR r ++ dn r.length (c + 1) ++ [i]) l = runN (nfR r ++ dn r.length (c + 1)) l
          rw [dn_snoc c r.length (by omega), show r.length - c = i by omega]
          rw [runN_app, ← List.append_assoc, runN_app, runN_one, runN_one, sN_idem (by rw [runN_len]; omega)]
        · by_cases q3 : i + c + 1 < r.length
          · refine before i (by omega) fun l hl => comm_past _ l (by omega) fun d hd => ?_
            have := dn_mem (c + 1) r.length h1 d hd
            omega
          · exact before (i - 1) (by omega) fun l hl => push (c + 1) r.length i l h1 (by omega) (by omega) hl
theorem normal_from : ∀ (f : List Nat) (cs : List Nat), okC cs → (∀ i ∈ f, i < cs.length) → ∃ cs', cs'.length = cs.length ∧ okC cs' ∧ ∀ l : List Int, cs.length < l.length → runN (nfR cs ++ f) l = runN (nfR cs') l
  | [], cs, h, _ => ⟨cs, rfl, h, fun l _ => by rw [List.append_nil]⟩
  | i :: f, cs, h, hf => by
    obtain ⟨c1, e1, e2, e3⟩ := absorb cs i h (hf i List.mem_cons_self)
    obtain ⟨c2, e4, e5, e6⟩ := normal_from f c1 e2 fun j hj => by
      rw [e1]
      exact hf j (List.mem_cons_of_mem _ hj)
    refine ⟨c2, e4.trans e1, e5, fun l hl => ?_⟩
    rw [show nfR cs ++ i :: f = nfR cs ++ [i] ++ f by simp, runN_app, e3 l hl, ← runN_app]
    exact e6 l (by omega)
theorem zeros_ok : ∀ w, okC (List.replicate w 0)
  | 0 => trivial
  | w + 1 => ⟨Nat.zero_le _, zeros_ok w⟩
theorem zeros_nf : ∀ w, nfR (List.replicate w 0) = []
  | 0 => rfl
  | w + 1 => by
    rw [List.replicate_succ, nfR, zeros_nf w]
    rfl
/-- every word is as a normal one -/
theorem normal (w : Nat) (f : List Nat) (h : ∀ i ∈ f, i < w) : ∃ cs, cs.length = w ∧ okC cs ∧ ∀ l : List Int, w < l.length → runN f l = runN (nfR cs) l := by
  obtain ⟨cs, e1, e2, e3⟩ := normal_from f (List.replicate w 0) (zeros_ok w) (by simpa using h)
  rw [List.length_replicate] at e1 e3
  rw [zeros_nf] at e3
  exact ⟨cs, e1, e2, e3⟩
end Nw

/-! DL22: the profile of a normal word, its code; equal profiles, equal effects. -/
namespace Nw
/-- what a normal word makes of the descending list: numbers put in one after the other -/
def pf (w : Int) : List Nat → List Int
  | [] => [w]
  | c :: r => (pf w r).take (r.length + 1 - c) ++ (w - ((r.length : Int) + 1)) :: (pf w r).drop (r.length + 1 - c)
theorem pf_len (w : Int) : ∀ cs, (pf w cs).length = cs.length + 1
  | [] => rfl
  | c :: r => by
    have ih := pf_len w r
    rw [pf, List.length_append, List.length_cons, List.length_take, List.length_drop, List.length_cons, ih]
    omega
theorem pf_gt (w : Int) : ∀ cs, ∀ y ∈ pf w cs, w - (cs.length : Int) ≤ y
  | [], y, h => by
    have : y = w := by simpa [pf] using h
    subst this
    show y - ((0 : Nat) : Int) ≤ y
    omega
  | c :: r, y, h => by
    have ih := pf_gt w r
    rw [List.length_cons]
    rw [pf] at h
    rcases List.mem_append.mp h with h | h
    · have := ih y (List.mem_of_mem_take h)
      omega
    · rcases List.mem_cons.mp h with h | h
      · subst h
        omega
      · have := ih y (List.mem_of_mem_drop h)
        omega
theorem sN_at {q rest : List Int} {x y : Int} (h : x < y) : sN (q ++ y :: x :: rest) q.length = q ++ x :: y :: rest := by
  have e2 : ((q.length : Int) + 1).toNat = q.length + 1 := by omega
  have e1 : ((q.length : Int) + 1 - 1).toNat = q.length := by omega
  have g1 : (q ++ y :: x :: rest).getD q.length 0 = y := by
    rw [List.getD_eq_getElem?_getD, List.getElem?_append_right (Nat.le_refl _), Nat.sub_self]
    rfl
  have g2 : (q ++ y :: x :: rest).getD (q.length + 1) 0 = x := by
    rw [List.getD_eq_getElem?_getD, List.getElem?_append_right (by omega), show q.length + 1 - q.length = 1 by omega]
    rfl
  have hh : hit (q ++ y :: x :: rest) ((q.length : Int) + 1) = true := by
    unfold hit
    rw [e1, e2, g1, g2]
    exact decide_eq_true h
  unfold sN stp
  rw [hh, if_pos rfl]
  exact xch_split (by omega) (by omega)
/-- a block carries the small number c places down -/
theorem bubble : ∀ (c m : Nat) (q rest : List Int) (x : Int), q.length = m + 1 → c ≤ m + 1 → (∀ y ∈ q, x < y) → runN (dn m c) (q ++ x :: rest) = q.take (m + 1 - c) ++ x :: (q.drop (m + 1 - c) ++ rest)
  | 0, m, q, rest, x, hq, _, _ => by
    rw [Nat.sub_zero, ← hq, List.take_length, List.drop_length]
    rfl
  | c + 1, m, q, rest, x, hq, hc, hx => by
    obtain ⟨q', y, rfl⟩ : ∃ q' y, q = q' ++ [y] := by
      have : q ≠ [] := fun z => by rw [z] at hq; cases hq
      exact ⟨q.dropLast, q.getLast this, (List.dropLast_concat_getLast this).symm⟩
    have hq' : q'.length = m := by simpa using hq
    have hy : x < y := hx y (by simp)
    rw [dn, runN_cons, show q' ++ [y] ++ x :: rest = q' ++ y :: x :: rest by simp]
    have s := sN_at (q := q') (rest := rest) hy
    rw [hq'] at s
    rw [s]
    cases m with
    | zero =>
      have c0 : c = 0 := by omega
      subst c0
      have q0 : q' = [] := List.length_eq_zero_iff.mp hq'
      subst q0
      rfl
    | succ m =>
      have ih := bubble c m q' (y :: rest) x hq' (by omega) fun z hz => hx z (List.mem_append_left _ hz)
      rw [show m + 1 - 1 = m by omega, ih]
      rw [show m + 1 + 1 - (c + 1) = m + 1 - c by omega, List.take_append_of_le_length (by omega), List.drop_append_of_le_length (by omega)]
      simp
theorem desc_succ (n : Nat) : desc (n + 1) = ((n + 1 : Nat) : Int) :: desc n := rfl
/-- the profile of a normal word -/
theorem run_nf (w : Nat) : ∀ cs, okC cs → cs.length + 1 ≤ w → runN (nfR cs) (desc w) = pf w cs ++ desc (w - cs.length - 1)
  | [], _, h => by
    obtain ⟨k, rfl⟩ : ∃ k, w = k + 1 := ⟨w - 1, by simp at h; omega⟩
    show desc (k + 1) = [((k + 1 : Nat) : Int)] ++ desc (k + 1 - 0 - 1)
    rw [show k + 1 - 0 - 1 = k by omega]
    rfl
  | c :: r, ⟨h1, h2⟩, h => by
    rw [List.length_cons] at h
    obtain ⟨k, hk⟩ : ∃ k, w - r.length - 1 = k + 1 := ⟨w - r.length - 2, by omega⟩
    have ih := run_nf w r h2 (by omega)
    rw [nfR, runN_app, ih, hk, desc_succ]
    have ex : ((k + 1 : Nat) : Int) = (w : Int) - ((r.length : Int) + 1) := by omega
    rw [ex]
    rw [bubble c r.length (pf w r) (desc k) _ (pf_len _ _) h1 fun y hy => by
      have := pf_gt w r y hy
      omega]
    rw [pf, List.length_cons, show w - (r.length + 1) - 1 = k by omega]
    simp
/-- what stands behind the first n -/
def aft (n : Int) : List Int → List Int
  | [] => []
  | x :: r => if x = n then r else aft n r
theorem aft_at {n : Int} : ∀ {a b : List Int}, (∀ y ∈ a, n < y) → aft n (a ++ n :: b) = b
  | [], b, _ => by
    show (if n = n then b else aft n b) = b
    rw [if_pos rfl]
  | x :: a, b, h => by
    have := h x List.mem_cons_self
    show (if x = n then a ++ n :: b else aft n (a ++ n :: b)) = b
    rw [if_neg (by omega)]
    exact aft_at fun y hy => h y (List.mem_cons_of_mem _ hy)
theorem cnt_cons (n x : Int) (p : List Int) : cnt n (x :: p) = (if n < x then 1 else 0) + cnt n p := by
  rw [show x :: p = [x] ++ p from rfl, cnt_app, cnt_one]
theorem cnt_put {n x : Int} (h : x < n) : ∀ (a b : List Int), cnt n (aft n (a ++ x :: b)) = cnt n (aft n (a ++ b))
  | [], b => by
    show cnt n (if x = n then b else aft n b) = _
    rw [if_neg (by omega)]
    rfl
  | y :: a, b => by
    show cnt n (if y = n then a ++ x :: b else aft n (a ++ x :: b)) = cnt n (if y = n then a ++ b else aft n (a ++ b))
    split
    · rw [cnt_app, cnt_app, cnt_cons, if_neg (by omega)]
      omega
    · exact cnt_put h a b
/-- how many greater numbers stand behind n -/
def cd (p : List Int) (n : Int) : Nat := cnt n (aft n p)
theorem cd_new {w : Int} {c : Nat} {r : List Nat} (h : c ≤ r.length + 1) : cd (pf w (c :: r)) (w - ((r.length : Int) + 1)) = c := by
  unfold cd
  have gt : ∀ y ∈ pf w r, w - ((r.length : Int) + 1) < y := fun y hy => by
    have := pf_gt w r y hy
    omega
  rw [pf, aft_at fun y hy => gt y (List.mem_of_mem_take hy), cnt_all fun y hy => gt y (List.mem_of_mem_drop hy), List.length_drop, pf_len]
  omega
theorem cd_old {w : Int} {c : Nat} {r : List Nat} {n : Int} (h : w - ((r.length : Int) + 1) < n) : cd (pf w (c :: r)) n = cd (pf w r) n := by
  unfold cd
  rw [pf, cnt_put h, List.take_append_drop]
/-- the code of the profile of a normal word -/
theorem code_pf (w : Int) : ∀ cs, okC cs → (List.range cs.length).map (fun (i : Nat) => cd (pf w cs) (w - 1 - (i : Int))) = cs.reverse
  | [], _ => rfl
  | c :: r, ⟨h1, h2⟩ => by
    rw [List.length_cons, List.range_succ, List.map_append, List.reverse_cons, ← code_pf w r h2]
    congr 1
    · apply List.map_congr_left
      intro i hi
      have := List.mem_range.mp hi
      exact cd_old (by omega)
    · show [cd (pf w (c :: r)) (w - 1 - (r.length : Int))] = [c]
      rw [show w - 1 - (r.length : Int) = w - ((r.length : Int) + 1) by omega, cd_new h1]
/-- equal profiles: equal codes -/
theorem pf_inj {w : Nat} {cs ds : List Nat} (hc : okC cs) (hd : okC ds) (e : cs.length = ds.length) (h : cs.length + 1 ≤ w) (hp : runN (nfR cs) (desc w) = runN (nfR ds) (desc w)) : cs = ds := by
  rw [run_nf w cs hc h, run_nf w ds hd (by omega), e] at hp
  have p : pf w cs = pf w ds := List.append_cancel_right hp
  have a := code_pf w cs hc
  have b := code_pf w ds hd
  rw [p, e, b] at a
  exact (List.reverse_inj.mp a).symm
/-- THE DESCENDING LIST DECIDES -/
theorem decides {w : Nat} {f g : List Nat} (hw : 1 ≤ w) (hf : ∀ i ∈ f, i + 1 < w) (hg : ∀ i ∈ g, i + 1 < w) (hp : runN f (desc w) = runN g (desc w)) (l : List Int) (hl : l.length = w) : runN f l = runN g l := by
  obtain ⟨cs, a1, a2, a3⟩ := normal (w - 1) f fun i hi => by have := hf i hi; omega
  obtain ⟨ds, b1, b2, b3⟩ := normal (w - 1) g fun i hi => by have := hg i hi; omega
  rw [a3 _ (by rw [desc_len]; omega), b3 _ (by rw [desc_len]; omega)] at hp
  have : cs = ds := pf_inj a2 b2 (by omega) (by omega) hp
  rw [a3 l (by omega), b3 l (by omega), this]
end Nw

/-! DL23: sorted of whole numbers. -/
namespace DL
open PySem L2 PyProof.Rows
def srt (ns : List Int) : List Int := ns.mergeSort fun a b => decide (a ≤ b)
theorem srt_perm (ns : List Int) : (srt ns).Perm ns := List.mergeSort_perm ns _
theorem srt_up (ns : List Int) : (srt ns).Pairwise (· ≤ ·) := by
  have h := List.pairwise_mergeSort (le := fun a b : Int => decide (a ≤ b)) (fun a b c h1 h2 => by
    have := of_decide_eq_true h1
    have := of_decide_eq_true h2
    exact decide_eq_true (by omega)) (fun a b => by
    rw [Bool.or_eq_true, decide_eq_true_eq, decide_eq_true_eq]
    omega) ns
  exact h.imp fun q => of_decide_eq_true q
theorem srt_eq {ns ms : List Int} (p : ms.Perm ns) (u : ms.Pairwise (· ≤ ·)) : ms = srt ns :=
  List.Perm.eq_of_pairwise (le := (· ≤ ·)) (fun a b _ _ h1 h2 => Int.le_antisymm h1 h2) u (srt_up ns) (p.trans (srt_perm ns).symm)
theorem srt_cong {ns ms : List Int} (p : ns.Perm ms) : srt ns = srt ms := srt_eq ((srt_perm ns).trans p) (srt_up ns)
def oSorted : List D → Option Out
  | [x] => ((lstItems x).bind asInts).map fun ns => .newL (nums (srt ns))
  | _ => none
section
variable {ca : Nat → Addr} {K : PySem.W.Frag} {Hf H : Hp} {S : Rg}
theorem repL_nums : ∀ l : List Int, RepL ca K Hf H Em (l.map V.int) (nums l)
  | [] => .nil
  | a :: l => .cons (S1 := Em) (S2 := Em) .int (repL_nums l) (fun _ z => z.elim) (fun _ z => z.elim) fun _ z _ => z
theorem os_sorted : OpS ca K (rSortedI K) oSorted := fun Hf H vs ds o Q hx rd h q => by
  match ds, h with
  | [x], h =>
    dsimp only [oSorted] at h
    cases ei : lstItems x with
    | none => simp [ei] at h
    | some xs =>
      rw [ei] at h
      cases en : asInts xs with
      | none => simp [en] at h
      | some ns =>
        simp only [Option.bind_some, en, Option.map_some, Option.some.injEq] at h
        subst h
        obtain ⟨v, S, e1, r1⟩ := rdl1 rd rfl
        subst e1
        obtain ⟨a, vs, T, rfl, e2, r3⟩ := rep_lstItems hx r1 ei
        rw [repL_ints r3 en] at e2
        refine ⟨a, ns, rfl, e2, fun ms p hp up free => ?_⟩
        rw [srt_eq hp up]
        exact q p _ free (repL_nums _)
theorem oSorted_l {o : Bool} {l : List Int} : oSorted [.lst o (nums l)] = some (.newL (nums (srt l))) := by
  show ((lstItems (.lst o (nums l))).bind asInts).map _ = _
  rw [show lstItems (.lst o (nums l)) = some (nums l) from rfl, Option.bind_some, nums_as]
  rfl
end
end DL

/-! DL24: codes as the program's lists; steps as whole numbers. -/
namespace Nw
def up1 (f : List Nat) : List Int := f.map fun (i : Nat) => (i : Int) + 1
theorem up1_run : ∀ (f : List Nat) (l : List Int), runL (up1 f) l = runN f l
  | [], _ => rfl
  | i :: f, l => up1_run f (sN l i)
theorem up1_ok {w : Int} {f : List Nat} (h : ∀ i ∈ f, (i : Int) + 1 ≤ w - 1) : okS w (up1 f) := by
  intro s hs
  obtain ⟨i, hi, rfl⟩ := List.mem_map.mp hs
  have := h i hi
  omega
theorem up1_of {w : Int} : ∀ {ss : List Int}, okS w ss → ∃ f : List Nat, ss = up1 f ∧ ∀ i ∈ f, (i : Int) + 1 ≤ w - 1
  | [], _ => ⟨[], rfl, fun i hi => by cases hi⟩
  | s :: ss, h => by
    obtain ⟨f, e, hf⟩ := up1_of fun t ht => h t (List.mem_cons_of_mem _ ht)
    have hs := h s List.mem_cons_self
    refine ⟨(s - 1).toNat :: f, ?_, fun i hi => ?_⟩
    · rw [e]
      show s :: up1 f = ((((s - 1).toNat : Nat) : Int) + 1) :: up1 f
      rw [show (((s - 1).toNat : Nat) : Int) + 1 = s by omega]
    · rcases List.mem_cons.mp hi with hi | hi
      · subst hi
        omega
      · exact hf i hi
/-- a block as the program writes it -/
theorem up1_dn : ∀ (c m : Nat), c ≤ m + 1 → up1 (dn m c) = (List.range c).map fun (t : Nat) => (m : Int) + 1 - (t : Int)
  | 0, _, _ => rfl
  | c + 1, m, h => by
    rw [dn]
    show ((m : Int) + 1) :: up1 (dn (m - 1) c) = _
    rw [List.range_succ_eq_map, List.map_cons, List.map_map]
    have e0 : (m : Int) + 1 - ((0 : Nat) : Int) = (m : Int) + 1 := by simp
    rw [e0]
    congr 1
    cases c with
    | zero => rfl
    | succ c =>
      rw [up1_dn (c + 1) (m - 1) (by omega)]
      apply List.map_congr_left
      intro t _
      show ((m - 1 : Nat) : Int) + 1 - (t : Int) = (m : Int) + 1 - ((t + 1 : Nat) : Int)
      omega
theorem up1_app (a b : List Nat) : up1 (a ++ b) = up1 a ++ up1 b := List.map_append
/-- THE NORMAL FORM: of steps within w, a code cs (from its end) whose word has the same effect -/
theorem normal_steps {w : Nat} {ss : List Int} (hw : 1 ≤ w) (h : okS w ss) : ∃ cs, cs.length + 1 = w ∧ okC cs ∧ (∀ l : List Int, l.length = w → runL ss l = runL (up1 (nfR cs)) l) ∧ okS w (up1 (nfR cs)) ∧
    runL ss (desc w) = pf w cs := by
  obtain ⟨f, rfl, hf⟩ := up1_of h
  obtain ⟨cs, e1, e2, e3⟩ := normal (w - 1) f fun i hi => by have := hf i hi; omega
  refine ⟨cs, by omega, e2, fun l hl => ?_, up1_ok fun i hi => ?_, ?_⟩
  · rw [up1_run, up1_run, e3 l (by omega)]
  · have := nfR_lt cs e2 i hi
    omega
  · rw [up1_run, e3 _ (by rw [desc_len]; omega), run_nf w cs e2 (by omega), show w - cs.length - 1 = 0 by omega]
    show pf w cs ++ [] = _
    rw [List.append_nil]
/-- monotone maps go through steps -/
theorem stp_map {φ : Int → Int} (hφ : ∀ a b, a < b ↔ φ a < φ b) {l : List Int} {s : Int} (h1 : 1 ≤ s) (h2 : s < l.length) : stp (l.map φ) s = (stp l s).map φ ∧ hit (l.map φ) s = hit l s := by
  have g : ∀ k : Nat, k < l.length → (l.map φ).getD k 0 = φ (l.getD k 0) := fun k hk => by
    rw [List.getD_eq_getElem?_getD, List.getD_eq_getElem?_getD, List.getElem?_map, List.getElem?_eq_getElem hk]
    rfl
  have eh : hit (l.map φ) s = hit l s := by
    unfold hit
    rw [g _ (by omega), g _ (by omega)]
    exact decide_eq_decide.mpr (hφ _ _).symm
  refine ⟨?_, eh⟩
  unfold stp
  rw [eh]
  split
  · unfold xch
    rw [g _ (by omega), g _ (by omega), List.map_set, List.map_set]
  · rfl
theorem runL_map {φ : Int → Int} (hφ : ∀ a b, a < b ↔ φ a < φ b) : ∀ (ss l : List Int), okS l.length ss → runL ss (l.map φ) = (runL ss l).map φ
  | [], _, _ => rfl
  | s :: ss, l, h => by
    have hs := h s List.mem_cons_self
    show runL ss (stp (l.map φ) s) = (runL ss (stp l s)).map φ
    rw [(stp_map hφ hs.1 (by omega)).1]
    exact runL_map hφ ss _ (by rw [stp_len]; exact fun t ht => h t (List.mem_cons_of_mem _ ht))
theorem actI_map2 {φ : Int → Int} (hφ : ∀ a b, a < b ↔ φ a < φ b) : ∀ (k : Nat) (ss l : List Int), okS l.length ss → actI k ss (l.map φ) = actI k ss l
  | _, [], _, _ => rfl
  | k, s :: ss, l, h => by
    have hs := h s List.mem_cons_self
    have e := stp_map hφ hs.1 (show s < l.length by omega)
    have ih := actI_map2 hφ (k + 1) ss (stp l s) (by rw [stp_len]; exact fun t ht => h t (List.mem_cons_of_mem _ ht))
    rw [actI, actI, e.1, e.2, ih]
theorem actS_map2 {φ : Int → Int} (hφ : ∀ a b, a < b ↔ φ a < φ b) (ss l : List Int) (h : okS l.length ss) : (actS ss (l.map φ)).length = (actS ss l).length := by
  rw [← actI_length 0, ← actI_length 0, actI_map2 hφ 0 ss l h]
/-- the steps keep the numbers -/
theorem stp_perm {l : List Int} {s : Int} (h1 : 1 ≤ s) (h2 : s < l.length) : (stp l s).Perm l := by
  unfold stp
  cases hit l s with
  | false => exact List.Perm.refl _
  | true =>
    rw [if_pos rfl]
    obtain ⟨p, r, e, hp⟩ := split2 (l := l) (i := (s - 1).toNat) (by omega)
    generalize l.getD (s - 1).toNat 0 = a at *
    generalize l.getD ((s - 1).toNat + 1) 0 = b at *
    subst e
    rw [xch_split h1 (by omega)]
    exact List.Perm.append_left p (List.Perm.swap a b r)
theorem runL_perm : ∀ (ss l : List Int), okS l.length ss → (runL ss l).Perm l
  | [], l, _ => List.Perm.refl _
  | s :: ss, l, h => by
    have hs := h s List.mem_cons_self
    have p := stp_perm (l := l) hs.1 (by omega)
    have ih := runL_perm ss (stp l s) (by rw [stp_len]; exact fun t ht => h t (List.mem_cons_of_mem _ ht))
    exact ih.trans p
end Nw

/-! DL25: the reading of codes: index, slices, extend. -/
namespace DL
open PySem (Str)
open Nw
theorem eqF_int (a b : Int) : eqF (.int a) (.int b) = decide (a = b) := by
  unfold eqF
  by_cases h : a = b <;> simp [h]
theorem find_aft {n : Int} : ∀ {p : List Int} (j : Nat), n ∈ p → ∃ k, findD (.int n) (nums p) j = some (j + k) ∧ p.drop (k + 1) = aft n p ∧ k < p.length
  | [], j, h => by cases h
  | x :: p, j, h => by
    rw [nums_cons, findD, eqF_int, aft]
    by_cases e : x = n
    · rw [decide_eq_true e, if_pos rfl, if_pos e]
      exact ⟨0, rfl, rfl, by simp⟩
    · rw [decide_eq_false e, if_neg (by decide), if_neg e]
      obtain ⟨k, h1, h2, h3⟩ := find_aft (j + 1) (by
        rcases List.mem_cons.mp h with h | h
        · exact absurd h.symm e
        · exact h)
      refine ⟨k + 1, by rw [h1]; congr 1; omega, h2, by rw [List.length_cons]; omega⟩
theorem nums_flat (l : List Int) : (nums l).all flat = true := by
  unfold nums
  rw [List.all_map]
  exact List.all_eq_true.mpr fun x _ => rfl
theorem oIndex_aft {o : Bool} {p : List Int} {n : Int} (h : n ∈ p) : ∃ k, oIndex [.lst o (nums p), .int n] = some (.val (.int ((k : Nat) : Int))) ∧ p.drop (k + 1) = aft n p ∧ k < p.length := by
  obtain ⟨k, h1, h2, h3⟩ := find_aft 0 h
  refine ⟨k, ?_, h2, h3⟩
  show (if flat (.int n) && (nums p).all flat then (findD (.int n) (nums p) 0).map fun m => Out.val (.int (m : Nat)) else none) = _
  rw [nums_flat, h1, Nat.zero_add]
  rfl
theorem eMt_s {i j : Nat} {f : List D → Option Out} {st : Sl} {x y : D} {o : Out} (h0 : getS st i = some x) (hl : isLst x = true) (h1 : getS st j = some y) (hf : f [x, y] = some o) : eMt i f [.s j] st = .ok o.d st := by
  unfold eMt
  rw [h0]
  dsimp only
  rw [if_pos hl, opds, if_pos (by rw [h1]; rfl)]
  dsimp only [opds, Option.map, Option.bind]
  rw [h0, h1]
  dsimp only
  rw [hf]
theorem oSl10_l {o : Bool} {p : List Int} {k : Nat} (h : k ≤ p.length) (hp : p.length ≤ 1000) {j : Int} (hj : j = (k : Int)) : oSl10 [.lst o (nums p), .int j] = some (.newL (nums (p.drop k))) := by
  subst hj
  show newLc (cutD (nums p) (some (k : Int)) none) = _
  have e : cutD (nums p) (some (k : Int)) none = nums (p.drop k) := by
    unfold cutD
    rw [HT.sIx_nat, HT.sIx_none, nums_len, Nat.min_eq_left h]
    have : nums (p.drop k) = (nums p).drop k := by unfold nums; rw [List.map_drop]
    rw [← this]
    exact List.take_of_length_le (by rw [nums_len, List.length_drop]; exact Nat.le_refl _)
  rw [e]
  unfold newLc
  rw [nums_colds, nums_len, decide_eq_true (by rw [List.length_drop]; omega)]
  rfl
theorem eApp_v {i : Nat} {m : ME} {st st1 : Sl} {d d0 : D} {xs : List D} (h0 : getS st i = some d0) (hl : isLst d0 = true) (h1 : m st = .ok d st1) (h2 : getS st1 i = some (.lst true xs)) (hn : xs.length < 16777216) : eApp i m st = .ok .non (st1.set i (some (.lst true (xs ++ [d])))) := by
  unfold eApp
  rw [h0]
  dsimp only
  rw [if_pos hl, h1]
  dsimp only [Res.bind]
  rw [h2]
  dsimp only
  rw [if_pos hn]
theorem eExt_v {i : Nat} {m : ME} {st st1 : Sl} {d0 : D} {o : Bool} {xs ys : List Int} (h0 : getS st i = some d0) (hl : isLst d0 = true) (h1 : m st = .ok (.lst o (nums ys)) st1) (h2 : getS st1 i = some (.lst true (nums xs))) (hn : xs.length + ys.length ≤ 16777216) : eExt i m st = .ok .non (st1.set i (some (.lst true (nums (xs ++ ys))))) := by
  unfold eExt
  rw [h0]
  dsimp only
  rw [if_pos hl, h1]
  dsimp only [Res.bind]
  rw [h2]
  have e : ext2 (some (.lst true (nums xs))) (.lst o (nums ys)) = some (nums (xs ++ ys)) := by
    unfold ext2
    dsimp only
    rw [nums_colds, nums_len, nums_len, decide_eq_true hn, nums_app]
    rfl
  rw [e]
theorem rangeC_down (lo : Int) (c : Nat) : rangeC lo (-1) c = nums ((List.range c).map fun (t : Nat) => lo - (t : Int)) := by
  unfold rangeC nums
  rw [List.map_map]
  apply List.map_congr_left
  intro t _
  show D.int (lo + (t : Int) * (-1)) = D.int (lo - (t : Int))
  congr 1
  omega
theorem sExpr_ok {m : ME} {st st1 : Sl} {d : D} (h : m st = .ok d st1) : sExpr m st = .next st1 := by
  unfold sExpr
  rw [h]
  rfl
theorem sFor_ok {src : Sl → Res (List D)} {g : MG} {body : MS} {st st1 st2 : Sl} {ds : List D} (h : src st = .ok ds st1) (h2 : forD g body ds st1 = .next st2) : sFor src g body st = .next st2 := by
  unfold sFor
  rw [h]
  exact h2
end DL
namespace Nw
theorem dn_len : ∀ (c m : Nat), (dn m c).length = c
  | 0, _ => rfl
  | c + 1, m => by rw [dn, List.length_cons, dn_len c]
theorem nfR_len : ∀ cs, okC cs → 2 * (nfR cs).length ≤ cs.length * (cs.length + 1)
  | [], _ => Nat.le_refl _
  | c :: r, ⟨h1, h2⟩ => by
    have ih := nfR_len r h2
    rw [nfR, List.length_append, dn_len, List.length_cons]
    have e : (r.length + 1) * (r.length + 1 + 1) = r.length * (r.length + 1) + 2 * (r.length + 1) := by
      rw [Nat.add_mul, Nat.mul_add, Nat.mul_add, Nat.mul_add]
      omega
    omega
theorem okC_at : ∀ {cs : List Nat}, okC cs → ∀ {i c : Nat}, cs.reverse[i]? = some c → c ≤ i + 1
  | [], _, i, c, e => by simp at e
  | d :: r, ⟨h1, h2⟩, i, c, e => by
    rw [List.reverse_cons] at e
    by_cases hi : i < r.reverse.length
    · rw [List.getElem?_append_left hi] at e
      exact okC_at h2 e
    · rw [List.getElem?_append_right (by omega)] at e
      rw [List.length_reverse] at e hi
      by_cases hz : i - r.length = 0
      · rw [hz] at e
        have : d = c := Option.some.inj e
        omega
      · obtain ⟨k, hk⟩ : ∃ k, i - r.length = k + 1 := ⟨i - r.length - 1, by omega⟩
        rw [hk] at e
        cases e
/-- the code's part as it stands after i turns -/
def part (cs : List Nat) (i : Nat) : List Nat := (cs.reverse.take i).reverse
theorem part_succ {cs : List Nat} {i c : Nat} (e : cs.reverse[i]? = some c) : part cs (i + 1) = c :: part cs i := by
  unfold part
  rw [List.take_succ, e, List.reverse_append]
  rfl
theorem part_len {cs : List Nat} {i : Nat} (h : i ≤ cs.length) : (part cs i).length = i := by
  unfold part
  rw [List.length_reverse, List.length_take, List.length_reverse, Nat.min_eq_left h]
theorem part_all (cs : List Nat) : part cs cs.length = cs := by
  unfold part
  rw [← List.length_reverse, List.take_length, List.reverse_reverse]
theorem part_ok {cs : List Nat} (h : okC cs) : ∀ i, i ≤ cs.length → okC (part cs i)
  | 0, _ => trivial
  | i + 1, hi => by
    have hlt : i < cs.reverse.length := by rw [List.length_reverse]; omega
    have e : cs.reverse[i]? = some cs.reverse[i] := List.getElem?_eq_getElem hlt
    rw [part_succ e]
    refine ⟨?_, part_ok h i (by omega)⟩
    rw [part_len (by omega)]
    exact okC_at h e
end Nw
namespace DL
open Nw
theorem oLRgD_v {a b : Int} {c : Nat} (ha : small62 a = true) (hb : small62 b = true) (hc : (a - b).toNat = c) (h : c ≤ 1000) : oLRgD [.int a, .int b] = some (.newL (nums ((List.range c).map fun (t : Nat) => a - (t : Int)))) := by
  show (if small62 a && small62 b && decide ((a - b).toNat ≤ 16777216) then some (Out.newL (rangeC a (-1) (a - b).toNat)) else none) = _
  rw [ha, hb, hc, decide_eq_true (by omega), rangeC_down]
  rfl
def cod (cs : List Nat) : List Int := cs.reverse.map fun (c : Nat) => (c : Int)
theorem cod_len (cs : List Nat) : (cod cs).length = cs.length := by unfold cod; rw [List.length_map, List.length_reverse]
theorem sm62 {z : Int} (h1 : -1000 ≤ z) (h2 : z ≤ 1000) : small62 z = true := by
  unfold small62
  refine decide_eq_true ?_
  omega
end DL
namespace Nw
theorem pf_mem (w : Int) : ∀ (cs : List Nat) (i : Nat), i < cs.length → w - 1 - (i : Int) ∈ pf w cs
  | [], i, h => by cases h
  | c :: r, i, h => by
    rw [List.length_cons] at h
    rw [pf]
    by_cases hi : i = r.length
    · subst hi
      refine List.mem_append_right _ ?_
      rw [show w - 1 - (r.length : Int) = w - ((r.length : Int) + 1) by omega]
      exact List.mem_cons_self
    · have ih := pf_mem w r i (by omega)
      rw [← List.take_append_drop (r.length + 1 - c) (pf w r)] at ih
      rcases List.mem_append.mp ih with ih | ih
      · exact List.mem_append_left _ ih
      · exact List.mem_append_right _ (List.mem_cons_of_mem _ ih)
end Nw
namespace DL
open Nw
theorem cod_pf {w : Nat} {cs : List Nat} (h : okC cs) (e : cs.length + 1 = w) : ((List.range (w - 1)).map fun (i : Nat) => ((cd (pf w cs) ((w : Int) - 1 - (i : Int)) : Nat) : Int)) = cod cs := by
  have a := code_pf (w : Int) cs h
  unfold cod
  rw [← a, List.map_map, show w - 1 = cs.length by omega]
  rfl
theorem log2_small {m : Int} (h : m.natAbs < 2 ^ 80) : m.natAbs.log2 < 9000 := by
  by_cases z : m.natAbs = 0
  · rw [z]
    decide
  · exact Nat.lt_trans ((Nat.log2_lt z).mpr h) (by decide)
theorem oDiv_w {i j : Int} (h : 0 < j) (h2 : j.natAbs < 2 ^ 80) : oDiv [.int i, .int j] = some (.val (.int (i / j))) := by
  show (if 0 < j ∧ j.natAbs.log2 < 9000 then some (Out.val (.int (i / j))) else none) = _
  rw [if_pos ⟨h, log2_small h2⟩]
end DL

/-! DL26: no network exchanges more often than on the descending list. -/
namespace Nw
theorem hit_at {q rest : List Int} {x y : Int} (h : x < y) : hit (q ++ y :: x :: rest) ((q.length : Int) + 1) = true := by
  have e2 : ((q.length : Int) + 1).toNat = q.length + 1 := by omega
  have e1 : ((q.length : Int) + 1 - 1).toNat = q.length := by omega
  have g1 : (q ++ y :: x :: rest).getD q.length 0 = y := by
    rw [List.getD_eq_getElem?_getD, List.getElem?_append_right (Nat.le_refl _), Nat.sub_self]
    rfl
  have g2 : (q ++ y :: x :: rest).getD (q.length + 1) 0 = x := by
    rw [List.getD_eq_getElem?_getD, List.getElem?_append_right (by omega), show q.length + 1 - q.length = 1 by omega]
    rfl
  unfold hit
  rw [e1, e2, g1, g2]
  exact decide_eq_true h
theorem act_bubble : ∀ (c m : Nat) (q rest : List Int) (x : Int), q.length = m + 1 → c ≤ m + 1 → (∀ y ∈ q, x < y) → actS (up1 (dn m c)) (q ++ x :: rest) = up1 (dn m c)
  | 0, _, _, _, _, _, _, _ => rfl
  | c + 1, m, q, rest, x, hq, hc, hx => by
    obtain ⟨q', y, rfl⟩ : ∃ q' y, q = q' ++ [y] := by
      have : q ≠ [] := fun z => by rw [z] at hq; cases hq
      exact ⟨q.dropLast, q.getLast this, (List.dropLast_concat_getLast this).symm⟩
    have hq' : q'.length = m := by simpa using hq
    have hy : x < y := hx y (by simp)
    have s := sN_at (q := q') (rest := rest) hy
    have t := hit_at (q := q') (rest := rest) hy
    rw [hq'] at s t
    unfold sN at s
    rw [show q' ++ [y] ++ x :: rest = q' ++ y :: x :: rest by simp]
    show actS (((m : Int) + 1) :: up1 (dn (m - 1) c)) _ = ((m : Int) + 1) :: up1 (dn (m - 1) c)
    rw [actS, t, if_pos rfl, s]
    cases m with
    | zero =>
      have c0 : c = 0 := by omega
      subst c0
      rfl
    | succ m =>
      rw [show m + 1 - 1 = m by omega, act_bubble c m q' (y :: rest) x hq' (by omega) fun z hz => hx z (List.mem_append_left _ hz)]
theorem act_nf (w : Nat) : ∀ cs, okC cs → cs.length + 1 ≤ w → actS (up1 (nfR cs)) (desc w) = up1 (nfR cs)
  | [], _, _ => rfl
  | c :: r, ⟨h1, h2⟩, h => by
    rw [List.length_cons] at h
    obtain ⟨k, hk⟩ : ∃ k, w - r.length - 1 = k + 1 := ⟨w - r.length - 2, by omega⟩
    rw [nfR, up1_app, actS_app, act_nf w r h2 (by omega), up1_run, run_nf w r h2 (by omega), hk, desc_succ]
    rw [act_bubble c r.length (pf w r) (desc k) _ (pf_len _ _) h1 fun y hy => by
      have := pf_gt w r y hy
      omega]
theorem act_le {w : Nat} {ss l : List Int} (hw : 1 ≤ w) (h : okS w ss) (hl : l.length = w) : (actS ss l).length ≤ (actS ss (desc w)).length := by
  obtain ⟨cs, e1, e2, e3, e4, _⟩ := normal_steps hw h
  have a1 := inv_run ss l (by rw [hl]; exact h)
  have a2 := inv_run (up1 (nfR cs)) l (by rw [hl]; exact e4)
  have b1 := inv_run ss (desc w) (by rw [desc_len]; exact h)
  have b2 := inv_run (up1 (nfR cs)) (desc w) (by rw [desc_len]; exact e4)
  rw [e3 l hl] at a1
  rw [e3 _ (desc_len w)] at b1
  rw [act_nf w cs e2 (by omega)] at b2
  have c := actS_length_le (up1 (nfR cs)) l
  omega
end Nw

/-! DL27: the meanings evaluated step by step, by unification. -/
namespace DL
open PySem (Str)
section
variable {m m1 m2 m3 : ME} {ms ns : MA} {st st1 st2 st3 st' : Sl} {a b c d d' x y : D} {ds es : List D} {o : Out} {f : List D → Option Out} {i j k : Nat} {F : MF} {ps : Sl} {g : MG} {s s1 s2 : MS} {r : SR} {t t1 t2 : MT} {p q : Bool} {C : Nat}
theorem od_val : (Out.val d).d = d := rfl
theorem od_newL : (Out.newL ds).d = .lst true ds := rfl
theorem od_newT : (Out.newT ds).d = .tup ds := rfl
theorem od_eq (h : d = d') : (Out.val d).d = d' := h
theorem set_0 {o : Option D} {l : Sl} : (o :: l).set 0 x' = x' :: l := rfl
theorem set_s {o : Option D} {l l' : Sl} {z : Option D} (h : l.set i z = l') : (o :: l).set (i + 1) z = o :: l' := by rw [← h]; rfl
/-! expressions -/
theorem xC : eC d st = .ok d st := rfl
theorem xN (h : getS st i = some d) (hc : hot d = false) : eN i st = .ok d st := eN_v h hc
theorem xNf (h : getS st i = some d) (hc : hot d = true) (hf : frz d = d') (hs : st.set i (some d') = st') : eN i st = .ok d' st' := by
  rw [eNf_v h hc, hf, hs]
theorem xMv (h : getS st i = some d) (hs : st.set i none = st') : eMv i st = .ok d st' := by
  unfold eMv; rw [h]; subst hs; rfl
theorem xOv (h : m st = .ok a st1) (hf : f [a] = some o) (hd : o.d = d) : eOp f [.v m] st = .ok d st1 := by rw [eOp1_v h hf, hd]
theorem xOs (h : getS st i = some a) (hf : f [a] = some o) (hd : o.d = d) : eOp f [.s i] st = .ok d st := by rw [eOp1_s h hf, hd]
theorem xOvv (h : m1 st = .ok a st1) (h2 : m2 st1 = .ok b st2) (hf : f [a, b] = some o) (hd : o.d = d) : eOp f [.v m1, .v m2] st = .ok d st2 := by rw [eOp2_v h h2 hf, hd]
theorem xOvs (h : m1 st = .ok a st1) (h2 : getS st1 i = some b) (hf : f [a, b] = some o) (hd : o.d = d) : eOp f [.v m1, .s i] st = .ok d st1 := by rw [eOpvs_v h h2 hf, hd]
theorem xOsv (h0 : getS st i = some x) (h : m1 st = .ok b st1) (h2 : getS st1 i = some a) (hf : f [a, b] = some o) (hd : o.d = d) : eOp f [.s i, .v m1] st = .ok d st1 := by rw [eOpsv_v (by rw [h0]; rfl) h h2 hf, hd]
theorem xOss (h1 : getS st i = some a) (h2 : getS st j = some b) (hf : f [a, b] = some o) (hd : o.d = d) : eOp f [.s i, .s j] st = .ok d st := by
  unfold eOp opds opds opds
  rw [h1, h2]
  simp only [Option.isSome_some, if_true, h1, h2, Option.bind_some, Option.map_some, hf, hd]
theorem xAndT (h : m1 st = .ok (.bl true) st1) (h2 : m2 st1 = .ok d st2) : eAnd m1 m2 st = .ok d st2 := by unfold eAnd; rw [h]; exact h2
theorem xAndF (h : m1 st = .ok (.bl false) st1) : eAnd m1 m2 st = .ok (.bl false) st1 := by unfold eAnd; rw [h]; rfl
theorem xOrT (h : m1 st = .ok (.bl true) st1) : eOr m1 m2 st = .ok (.bl true) st1 := by unfold eOr; rw [h]; rfl
theorem xOrF (h : m1 st = .ok (.bl false) st1) (h2 : m2 st1 = .ok d st2) : eOr m1 m2 st = .ok d st2 := by unfold eOr; rw [h]; exact h2
theorem xAndB (h : m1 st = .ok (.bl p) st1) (h2 : m2 st1 = .ok (.bl q) st1) : eAnd m1 m2 st = .ok (.bl (p && q)) st1 := by
  unfold eAnd; rw [h]; cases p
  · rfl
  · exact h2
theorem xOrB (h : m1 st = .ok (.bl p) st1) (h2 : m2 st1 = .ok (.bl q) st1) : eOr m1 m2 st = .ok (.bl (p || q)) st1 := by
  unfold eOr; rw [h]; cases p
  · exact h2
  · rfl
theorem xNot (h : m st = .ok (.bl p) st1) : eNot m st = .ok (.bl (!p)) st1 := by unfold eNot; rw [h]; rfl
theorem xIfT (h : t st = .ok true st1) (h2 : m1 st1 = .ok d st2) : eIf t m1 m2 st = .ok d st2 := by unfold eIf; rw [h]; exact h2
theorem xIfF (h : t st = .ok false st1) (h2 : m2 st1 = .ok d st2) : eIf t m1 m2 st = .ok d st2 := by unfold eIf; rw [h]; exact h2
theorem xANil : aNil st = .ok [] st := rfl
theorem xACons (h : m st = .ok d st1) (h2 : ms st1 = .ok ds st2) : aCons m ms st = .ok (d :: ds) st2 := by unfold aCons; rw [h]; show (ms st1).bind _ = _; rw [h2]; rfl
theorem xLst (h : ms st = .ok ds st1) (hl : Nat.ble ds.length 16777216 = true) : eLst ms st = .ok (.lst true ds) st1 := by
  unfold eLst; rw [h]; exact if_pos (Nat.le_of_ble_eq_true hl)
theorem xTup (h : ms st = .ok ds st1) (hl : Nat.ble ds.length 16777216 = true) (hf : frzL ds = es) : eTup ms st = .ok (.tup es) st1 := by
  unfold eTup; rw [h]; subst hf; exact if_pos (Nat.le_of_ble_eq_true hl)
theorem xFz (h : m st = .ok d st1) (hf : frz d = d') : eFz m st = .ok d' st1 := by rw [eFz_v h, hf]
theorem xCall (h : ms st = .ok ds st1) (hf : F ds = .ok d ps) : eCall F ms st = .ok d st1 := by
  unfold eCall; rw [h]; show (match F ds with | .ok d _ => _ | .exc x _ => _ | .fail => _) = _; rw [hf]
theorem xCallL (h : ms st = .ok ds st1) (h0 : getS st1 i = some y) (h1 : ns st1 = .ok es st2) (h2 : getS st2 i = some x) (hx : hot x = true) (hf : F (ds ++ x :: es) = .ok d ps) (hg : getS ps ds.length = some x1) (hs : st2.set i (some x1) = st') : eCallL F ms i ns st = .ok d st' := by
  rw [← hg] at hs
  unfold eCallL; rw [h]
  show (if (getS st1 i).isSome = true then _ else _) = _
  rw [if_pos (by rw [h0]; rfl), h1]
  show (match getS st2 i with | some d => _ | none => _) = _
  rw [h2]
  show (if hot x = true then _ else _) = _
  rw [if_pos hx, hf]
  subst hs
  rfl
/-- a lent slot that is not owned -/
theorem xCallLc (h : ms st = .ok ds st1) (h0 : getS st1 i = some y) (h1 : ns st1 = .ok es st2) (h2 : getS st2 i = some x) (hx : hot x = false) (hf : F (ds ++ x :: es) = .ok d ps) : eCallL F ms i ns st = .ok d st2 := by
  unfold eCallL; rw [h]
  show (if (getS st1 i).isSome = true then _ else _) = _
  rw [if_pos (by rw [h0]; rfl), h1]
  show (match getS st2 i with | some d => _ | none => _) = _
  rw [h2]
  show (if hot x = true then _ else _) = _
  rw [if_neg (by rw [hx]; exact Bool.false_ne_true), hf]
theorem xMake (h : ms st = .ok ds st1) (hf : F (.ins true C [] :: ds) = .ok .non (some x :: ps)) : eMake C F ms st = .ok x st1 := by
  unfold eMake; rw [h]; show (match F (.ins true C [] :: ds) with | .ok .non ps => _ | .exc x _ => _ | _ => _) = _; rw [hf]; rfl
theorem xEqI {neg : Bool} (h1 : m1 st = .ok a st1) (h2 : m2 st1 = .ok b st2) (ha : insC a = some C) (hb : insC b = some C) (hf : F [a, b] = .ok (.bl p) ps) (hd : D.bl (if neg then !p else p) = d) : eEqI neg C F (.v m1) (.v m2) st = .ok d st2 := by
  rw [eEqI_v h1 h2 ha hb hf, hd]
theorem xLenI {n : Nat} (h : m st = .ok x st2) (hc : insC x = some C) (hf : F [x] = .ok (.int (n : Int)) ps) (hn : Nat.blt n 1000000000 = true) : eLenI C F (.v m) st = .ok (.int (n : Int)) st2 := eLenI_v h hc hf (Nat.le_of_ble_eq_true hn)
theorem xApp {xs : List D} (h0 : getS st i = some a) (hl : isLst a = true) (h : m st = .ok d st1) (h2 : getS st1 i = some (.lst true xs)) (hn : xs.length < 16777216) (hs : st1.set i (some (.lst true (xs ++ [d]))) = st') : eApp i m st = .ok .non st' := by
  rw [eApp_v h0 hl h h2 hn, hs]
theorem xExt {z : Bool} {xs ys : List Int} (h0 : getS st i = some a) (hl : isLst a = true) (h : m st = .ok (.lst z (nums ys)) st1) (h2 : getS st1 i = some (.lst true (nums xs))) (hn : xs.length + ys.length ≤ 16777216) (hs : st1.set i (some (.lst true (nums (xs ++ ys)))) = st') : eExt i m st = .ok .non st' := by
  rw [eExt_v h0 hl h h2 hn, hs]
theorem xMtS (h0 : getS st i = some x) (hl : isLst x = true) (h1 : getS st j = some y) (hf : f [x, y] = some o) (hd : o.d = d) : eMt i f [.s j] st = .ok d st := by rw [eMt_s h0 hl h1 hf, hd]
/-! walked things -/
theorem wE {P : D → Option (List D)} (h : m st = .ok d st1) (hp : P d = some ds) (hc : colds ds = true) : iE m P st = .ok ds st1 := by
  unfold iE; rw [h]; show (match P d with | some ds => _ | none => _) = _; rw [hp]; exact if_pos hc
theorem wR1 {n : Nat} {z : Int} (h : m st = .ok (.int z) st1) (hz : z = (n : Int)) (hs : small62 z = true) : iR1 m st = .ok (rangeD 0 n) st1 := iR1_v hz h hs
theorem lst_it {z : Bool} : lstItems (.lst z ds) = some ds := rfl
theorem tup_it : tupItems (.tup ds) = some ds := rfl
/-! tests -/
theorem cE (h : m st = .ok (.bl p) st1) : tE m st = .ok p st1 := tE_ok h
theorem cNotF (h : t st = .ok true st1) : tNotM t st = .ok false st1 := by unfold tNotM; rw [h]; rfl
theorem cNotT (h : t st = .ok false st1) : tNotM t st = .ok true st1 := by unfold tNotM; rw [h]; rfl
theorem cOrF (h : t1 st = .ok false st1) (h2 : t2 st1 = .ok p st2) : tOrM t1 t2 st = .ok p st2 := tOr_ok h h2
theorem cOrT (h : t1 st = .ok true st1) : tOrM t1 t2 st = .ok true st1 := by unfold tOrM; rw [h]; rfl
theorem cAndT (h : t1 st = .ok true st1) (h2 : t2 st1 = .ok p st2) : tAndM t1 t2 st = .ok p st2 := by unfold tAndM; rw [h]; exact h2
theorem cAndF (h : t1 st = .ok false st1) : tAndM t1 t2 st = .ok false st1 := by unfold tAndM; rw [h]; rfl
/-! statements -/
theorem zSeq (h : s1 st = .next st1) (h2 : s2 st1 = r) : sSeq s1 s2 st = r := sSeq_next h h2
theorem zSeqR (h : s1 st = .ret d st1) : sSeq s1 s2 st = .ret d st1 := by unfold sSeq; rw [h]; rfl
theorem zAsg (h : m st = .ok d st1) (hg : g d st1 = .ok () st2) : sAsg m g st = .next st2 := sAsg_ok h hg
theorem zExpr (h : m st = .ok d st1) : sExpr m st = .next st1 := sExpr_ok h
theorem zRet (h : m st = .ok d st1) : sRet m st = .ret d st1 := sRet_ok h
theorem zYes (h : t st = .ok true st1) (h2 : s1 st1 = r) : sIf t s1 s2 st = r := by rw [sIf_ok h]; exact h2
theorem zNo (h : t st = .ok false st1) (h2 : s2 st1 = r) : sIf t s1 s2 st = r := by rw [sIf_ok h]; exact h2
theorem zSkip : sNext st = .next st := rfl
theorem zFor {src : Sl → Res (List D)} {B : MS} (h : src st = .ok ds st1) (h2 : forD g B ds st1 = r) : sFor src g B st = r := by unfold sFor; rw [h]; exact h2
theorem zPar (h : ms st = .ok [a, b] st1) (hs : st1.set i (some a) = st2) (hs2 : st2.set j (some b) = st3) : sPar i j ms st = .next st3 := by
  unfold sPar; rw [h]; subst hs hs2; rfl
theorem zAug (h0 : getS st i = some a) (hc : cold a = true) (h : m st = .ok b st1) (hf : f [a, b] = some (.val d)) (hs : st1.set i (some d) = st') : sAug i f m st = .next st' := by
  unfold sAug; rw [h0]; show (if cold a = true then _ else _) = _; rw [if_pos hc, h]; show (match f [a, b] with | some (.val z) => _ | _ => _) = _; rw [hf]; subst hs; rfl
theorem zWhile {B : MS} {n : Nat} (h : t st = .ok true st1) (h2 : B st1 = .next st2) (h3 : whileD t B n st2 = r) : whileD t B (n + 1) st = r := by
  rw [whileD, h]
  show (match B st1 with | .next st2 => whileD t B n st2 | .cont st2 => whileD t B n st2 | .brk st2 => .next st2 | r => r) = r
  rw [h2]; exact h3
theorem zWhile0 {B : MS} {n : Nat} (h : t st = .ok false st1) : whileD t B (n + 1) st = .next st1 := by
  rw [whileD, h]; rfl
theorem gN_r (hs : st.set i (some d) = st') : gN i d st = .ok () st' := by unfold gN; rw [hs]
theorem gT0 {ds : List D} : gT [] (.tup []) st = .ok () st := rfl
theorem gIx_r {xs : List D} {kk : Int} {n : Nat} (hc : cold d = true) (h0 : getS st i = some a) (h : m st = .ok (.int kk) st1) (h2 : getS st1 i = some (.lst true xs)) (hn : L2.ixN xs.length kk = some n) (hs : st1.set i (some (.lst true (xs.set n d))) = st') : gIx i m d st = .ok () st' := by
  unfold gIx; rw [hc, h0]
  show (if true = true then _ else _) = _
  rw [if_pos rfl, h]
  show (match getS st1 i with | some (.lst true xs) => _ | _ => _) = _
  rw [h2]
  show (match L2.ixN xs.length kk with | some j => _ | none => _) = _
  rw [hn]; subst hs; rfl
theorem fn_go {n w : Nat} {L : List Nat} {body : MS} (hl : ds.length = n) (h : body (ds.map some ++ List.replicate (w - n) none) = .ret d st) : fn n w L body ds = .ok d (keepL L n st) := fn_ret hl h
theorem fn_goN {n w : Nat} {L : List Nat} {body : MS} (hl : ds.length = n) (h : body (ds.map some ++ List.replicate (w - n) none) = .next st) : fn n w L body ds = .ok .non (keepL L n st) := by
  unfold fn; rw [if_pos hl, h]
/-! operations -/
theorem add_i {i j : Int} : oAdd [.int i, .int j] = some (.val (.int (i + j))) := rfl
theorem sub_i {i j : Int} : oSub [.int i, .int j] = some (.val (.int (i - j))) := rfl
theorem neg_i {i : Int} : oNeg [.int i] = some (.val (.int (-i))) := rfl
theorem abs_i {i : Int} : oAbs [.int i] = some (.val (.int (if i < 0 then -i else i))) := rfl
theorem lt_i {i j : Int} : f2 pLt [.int i, .int j] = some (.val (.bl (decide (i < j)))) := rfl
theorem le_i {i j : Int} : f2 pLe [.int i, .int j] = some (.val (.bl (decide (i ≤ j)))) := rfl
theorem gt_i {i j : Int} : f2 pGt [.int i, .int j] = some (.val (.bl (decide (j < i)))) := rfl
theorem ge_i {i j : Int} : f2 pGe [.int i, .int j] = some (.val (.bl (decide (j ≤ i)))) := rfl
theorem int_i {i : Int} : oInt [.int i] = some (.val (.int i)) := rfl
theorem int_b {b : Bool} : oInt [.bl b] = some (.val (.int (if b then 1 else 0))) := rfl
theorem eq_of {a b c : D} (h : pEq a b = some c) : f2 pEq [a, b] = some (.val c) := by simp only [f2, h, Option.map_some]
theorem ne_of {a b c : D} (h : pNe a b = some c) : f2 pNe [a, b] = some (.val c) := by simp only [f2, h, Option.map_some]
theorem bl_y {P : Prop} [Decidable P] (h : P) : D.bl (decide P) = .bl true := by rw [decide_eq_true h]
theorem bl_n {P : Prop} [Decidable P] (h : ¬ P) : D.bl (decide P) = .bl false := by rw [decide_eq_false h]
theorem nbl_y {P : Prop} [Decidable P] (h : ¬ P) : D.bl (!decide P) = .bl true := by rw [decide_eq_false h]; rfl
theorem nbl_n {P : Prop} [Decidable P] (h : P) : D.bl (!decide P) = .bl false := by rw [decide_eq_true h]; rfl
theorem lst_o {z : Bool} {l : List Int} (h : l.length ≤ 16777216) : oList [.lst z (nums l)] = some (.newL (nums l)) := by
  simp [oList, items, newLc, nums_colds, nums_len, h]
theorem lst_t {l : List Int} (h : l.length ≤ 16777216) : oList [.tup (nums l)] = some (.newL (nums l)) := by
  simp [oList, items, newLc, nums_colds, nums_len, h]
theorem tup_l {z : Bool} {l : List Int} (h : l.length ≤ 16777216) : oTuple [.lst z (nums l)] = some (.newT (nums l)) := by
  simp [oTuple, nums_colds, nums_len, h]
theorem tup_t {l : List D} : oTuple [.tup l] = some (.val (.tup l)) := rfl
theorem len_t {l : List Int} : oLen [.tup (nums l)] = some (.val (.int (l.length : Nat))) := by simp [oLen, items, nums_len]
theorem fz_l {z : Bool} {l : List Int} : frz (.lst z (nums l)) = .lst false (nums l) := by rw [frz, nums_frz]
theorem fz_t {l : List Int} : frz (.tup (nums l)) = .tup (nums l) := by rw [frz, nums_frz]
theorem fz_i {i : Int} : frz (.int i) = .int i := by rw [frz]
theorem fz_b {b : Bool} : frz (.bl b) = .bl b := by rw [frz]
theorem fz_s {b : Str} : frz (.str b) = .str b := by rw [frz]
theorem fz_n : frz .non = .non := by rw [frz]
theorem fzL_n : frzL [] = [] := by rw [frzL]
theorem fzL_c (h : frz d = d') (h2 : frzL ds = es) : frzL (d :: ds) = d' :: es := by rw [frzL, h, h2]
theorem fz_lst {z : Bool} (h : frzL ds = es) : frz (.lst z ds) = .lst false es := by rw [frz, h]
theorem fz_tup (h : frzL ds = es) : frz (.tup ds) = .tup es := by rw [frz, h]
end
/-! comprehensions of one clause whose parts leave the state -/
section
variable {α : Type}
theorem comp_go {g : MG} {t : MT} {e : ME} {i : Nat} {st : Sl} (enc φ : α → D) (p : α → Bool) (hi : i < st.length) : ∀ (l : List α) (acc : List D),
    (∀ x ∈ l, g (enc x) (st.set i none) = .ok () (st.set i (some (enc x)))) → (∀ x ∈ l, t (st.set i (some (enc x))) = .ok (p x) (st.set i (some (enc x)))) →
    (∀ x ∈ l, p x = true → e (st.set i (some (enc x))) = .ok (φ x) (st.set i (some (enc x)))) → acc.length + l.length ≤ 16777216 →
    compD g t e [i] (l.map enc) (st.set i none) acc = .ok (acc ++ (l.filter p).map φ) (st.set i none)
  | [], acc, _, _, _, _ => by rw [List.map_nil, compD, List.filter_nil, List.map_nil, List.append_nil]
  | x :: l, acc, hg, ht, he, hl => by
    have w : ∀ o : Option D, wipeS (st.set i o) [i] = st.set i none := fun o => by
      show (st.set i o).set i none = _
      rw [List.set_set]
    rw [List.map_cons, compD, hg x List.mem_cons_self]
    show ((t (st.set i (some (enc x)))).noX.bind _) = _
    rw [ht x List.mem_cons_self]
    show (if p x = true then _ else _) = _
    rw [List.length_cons] at hl
    by_cases hp : p x = true
    · rw [if_pos hp, he x List.mem_cons_self hp]
      show (if acc.length < 16777216 then _ else _) = _
      rw [if_pos (by omega), w, comp_go enc φ p hi l (acc ++ [φ x]) (fun y h => hg y (List.mem_cons_of_mem _ h)) (fun y h => ht y (List.mem_cons_of_mem _ h)) (fun y h => he y (List.mem_cons_of_mem _ h)) (by rw [List.length_append, List.length_singleton]; omega), List.filter_cons_of_pos hp, List.map_cons, List.append_assoc]
      rfl
    · rw [if_neg hp, w, comp_go enc φ p hi l acc (fun y h => hg y (List.mem_cons_of_mem _ h)) (fun y h => ht y (List.mem_cons_of_mem _ h)) (fun y h => he y (List.mem_cons_of_mem _ h)) (by omega), List.filter_cons_of_neg hp]
theorem xLc {g : MG} {t : MT} {e : ME} {i : Nat} {st st1 st2 : Sl} {src : Sl → Res (List D)} (enc φ : α → D) (p : α → Bool) (l : List α) {ds out : List D} (hs : src st = .ok ds st1) (hd : ds = l.map enc) (hl : l.length ≤ 16777216) (hi : i < st1.length) (hw : st1.set i none = st2)
    (hg : ∀ x ∈ l, g (enc x) (st1.set i none) = .ok () (st1.set i (some (enc x)))) (ht : ∀ x ∈ l, t (st1.set i (some (enc x))) = .ok (p x) (st1.set i (some (enc x))))
    (he : ∀ x ∈ l, p x = true → e (st1.set i (some (enc x))) = .ok (φ x) (st1.set i (some (enc x)))) (ho : (l.filter p).map φ = out) : eLc src g t e [i] st = .ok (.lst true out) st2 := by
  unfold eLc
  rw [hs]
  show (compD g t e [i] ds (st1.set i none) []).bind _ = _
  subst hd hw ho
  rw [comp_go enc φ p hi l [] hg ht he (by simpa using hl), List.nil_append]
  rfl
/-- every item is taken -/
theorem xLcA {g : MG} {e : ME} {i : Nat} {st st1 st2 : Sl} {src : Sl → Res (List D)} (enc φ : α → D) (l : List α) {ds out : List D} (hs : src st = .ok ds st1) (hd : ds = l.map enc) (hl : l.length ≤ 16777216) (hi : i < st1.length) (hw : st1.set i none = st2)
    (hg : ∀ x ∈ l, g (enc x) (st1.set i none) = .ok () (st1.set i (some (enc x))))
    (he : ∀ x ∈ l, e (st1.set i (some (enc x))) = .ok (φ x) (st1.set i (some (enc x)))) (ho : l.map φ = out) : eLc src g tYesM e [i] st = .ok (.lst true out) st2 :=
  xLc enc φ (fun _ => true) l hs hd hl hi hw hg (fun _ _ => rfl) (fun x hx _ => he x hx) (by rw [List.filter_eq_self.mpr (fun _ _ => rfl), ho])
/-- no item is taken -/
theorem xLcN {g : MG} {t : MT} {e : ME} {i : Nat} {st st1 st2 : Sl} {src : Sl → Res (List D)} (enc : α → D) (l : List α) {ds : List D} (hs : src st = .ok ds st1) (hd : ds = l.map enc) (hl : l.length ≤ 16777216) (hi : i < st1.length) (hw : st1.set i none = st2)
    (hg : ∀ x ∈ l, g (enc x) (st1.set i none) = .ok () (st1.set i (some (enc x)))) (ht : ∀ x ∈ l, t (st1.set i (some (enc x))) = .ok false (st1.set i (some (enc x)))) : eLc src g t e [i] st = .ok (.lst true []) st2 :=
  xLc enc (fun _ => .non) (fun _ => false) l hs hd hl hi hw hg ht (fun x _ h => by cases h) (by rw [List.filter_eq_nil_iff.mpr (fun _ _ h => by cases h), List.map_nil])
end
end DL

/-! DL28: methods called, defs with a starred parameter, classmethods; promises by FnR. -/
namespace DL
open PySem L2 PyProof.Rows
def insOf (C : Nat) (nm : Str) : D → Bool
  | .ins _ C' fs => decide (C' = C) && (fs.lookup nm).isNone
  | _ => false
/-- o.m(..): o's value handed over -/
def eMth (C : Nat) (nm : Str) (f : MF) (m0 : ME) (ms : MA) : ME := fun st => (m0 st).bind fun d0 st1 => if insOf C nm d0 then (ms st1).bind fun ds st2 => (match f (d0 :: ds) with
  | .ok d _ => .ok d st2
  | .exc x _ => .exc x st2
  | .fail => .fail) else .fail
/-- o.m(..): o a slot, lent -/
def eMthL (C : Nat) (nm : Str) (f : MF) (i : Nat) (ns : MA) : ME := fun st => match getS st i with
  | some d0 => if insOf C nm d0 then eCallL f aNil i ns st else .fail
  | none => .fail
/-- a def whose last parameter is starred, n parameters ahead of it -/
def mStar (n : Nat) (m : MF) : MF := fun ds => if n ≤ ds.length ∧ ds.length ≤ 16777216 then (match m (ds.take n ++ [.tup (frzL (ds.drop n))]) with
  | .ok d ps => .ok d (ps.take n ++ List.replicate (ds.length - n) none)
  | .exc x ps => .exc x (ps.take n ++ List.replicate (ds.length - n) none)
  | .fail => .fail) else .fail
/-- C(..), C at a slot that holds the class -/
def eMakeV (C i : Nat) (f : MF) (ms : MA) : ME := fun st => match getS st i with
  | some (.cls C') => if C' = C then eMake C f ms st else .fail
  | _ => .fail

/-- room, and no repr under way -/
def RoomG (k : Nat) (A : Around) : Prop := A.guards = some [] ∧ Room k A
theorem RoomG.mono {j k : Nat} {A : Around} (r : RoomG k A) (h : j ≤ k) : RoomG j A := ⟨r.1, r.2.mono h⟩
theorem RoomG.in1 {k : Nat} {A : Around} (r : RoomG (k + 1) A) : RoomG k A.in1 := ⟨r.1, r.2.in1⟩
theorem RoomG.deeper {k : Nat} {A : Around} (r : RoomG (k + 1) A) (env : Env) : RoomG k (A.deeper env) := ⟨r.1, r.2.deeper env⟩
theorem RoomG.make {k : Nat} {A : Around} (r : RoomG (k + 1) A) (C : Addr) (us : List Value) (kw : List (Str × Value)) : RoomG k (A.under (.builtin "type.__call__" ⟨.ref C :: us, kw⟩)) := ⟨r.1, r.2.make C us kw⟩
/-- a promise by positional values, no repr under way -/
def FnG (P : Program) (w : World) (K : PySem.W.Frag) (mg : Str → Option Value) (base : Heap) (CX : CXT) (k : Nat) (f : Addr) (sp : Sp) : Prop :=
  ∀ (A : Around) (outer : List Env) (s : Shared) (H : Hp) (us : List Value) (vs : List V) (Q : VK) (E : XK), RoomG k A → Env0 P w K mg base A outer s H → Vals vs us → sp vs H Q E →
    codeAny (model P w) A (.call (.ref f) ⟨us, []⟩) (L2.CR CX outer P w H s Q E) s
section
variable {ca : Nat → Addr} {Hf H Hf1 H1 Hf2 H2 : Hp} {S P P1 P2 : Rg} {R R1 R2 : Nat → Rg} {σ : L2.St} {st : Sl} {v : V} {d : D} {vs : List V} {ds : List D} {X : Cx} {L : List Nat}
theorem run_fnRS {CX : CXT} {pins : List (Addr × Obj)} {s : Shared} {k : Nat} {f : Addr} {sp : Sp} {E : XK} {Q : VK} {us : List Value} {vs : List V} (F : FnG X.prog X.w X.K X.mg X.base CX k f sp) (hr : RoomG k X.A) (hx : PassesAt CX X σ E) (I : Inv X pins σ H s) (r : Vals vs us) (h : sp vs H Q E) :
    codeAny (model X.prog X.w) X.A (.call (.ref f) ⟨us, []⟩) (fun r s' => match r with | .ok (.ret v) => EP X pins σ Q v s' | .ok _ => False | .error e => X.xe e s') s := by
  refine codeAny_mono (F X.A X.stack s H us vs Q E hr I.env0 r h) fun r s' hq => ?_
  cases r with
  | error e => exact hx pins H s e s' I hq
  | ok fl =>
    cases fl with
    | ret u => exact I.after hq
    | next => exact False.elim hq
    | brk => exact False.elim hq
    | cont => exact False.elim hq
/-! ### methods -/
theorem pe_mth {C f : Addr} {CX : CXT} {k : Nat} {sp : Sp} {E : L2.St → XK} {m : Str} {o : Expr} {es : List Expr} {to : TE} {t : TA} {apos pos : Pos} {pl : Sem Bool} (he : PE X o to) (c : Cls X.K C) (hm : Meth X.K C m f) (F : FnG X.prog X.w X.K X.mg X.base CX k f sp) (hr : RoomG k X.A)
    (hx : ∀ σ, PassesAt CX X σ (E σ)) (ha : PA X es t) (hes : es = [] ∨ ∃ e r, es = e :: r ∧ starEach (e :: r) X.env = (false, eval e X.env) :: starEach r X.env ∧ (backTo pos (starEach r X.env)).any (·.1) = false)
    (ht : eval (.Call (.Attribute o m apos) es [] pos) X.env = (do
      let ov ← eval o X.env
      standAt apos.atName
      let (g, first) ← holding [ov] (getMethod ov m pl)
      callWith pos g first (backTo pos (starEach es X.env)) (backToKw pos (keywordEach [] X.env)))) :
    PE X (.Call (.Attribute o m apos) es [] pos) (fun σ H Q => to σ H fun x H1 => ∃ a dx fs, x = .ref a ∧ H1 a = some (.ins C dx fs) ∧ fs.lookup m = none ∧ (match es with | [] => sp [x] H1 Q (E σ) | _ :: _ => t σ H1 fun vs H2 => sp (x :: vs) H2 Q (E σ))) := ⟨fun pins s σ H Q I h => by
  refine PySem.W.methodCall_KW (pl := pl) (thn (he.run pins s σ H _ I h) fun u s1 hh => ?_) ht
  obtain ⟨x, H1, I1, rx, a, dx, fs, ex, ea, lk, q⟩ := hh
  subst ex
  cases rx
  rcases hes with rfl | ⟨e, r, rfl, hst, hpl⟩
  · exact getmeth_ok I1 ea c hm lk (PySem.W.callWith_K0 (first := [.ref a]) I1.kIn hm.kp (wpAny_call (run_fnRS (us := [.ref a]) (vs := [.ref a]) F hr (hx σ) I1 (.cons rfl .nil) q)))
  · refine getmeth_ok I1 ea c hm lk (PySem.W.callWith_K (first := [.ref a]) (h₀ := X.base) I.ok.mod.kin hm.kp (thn (ha.run pos pins s1 σ H1 _ I1 q) fun us s2 hh => ?_) hst hpl)
    obtain ⟨vs, H2, I2, rs, q2⟩ := hh
    exact ⟨I2.kIn, wpAny_call (run_fnRS (us := .ref a :: us) (vs := .ref a :: vs) F hr (hx σ) I2 (.cons rfl rs) q2)⟩⟩
theorem lookup_none {α β : Type} : ∀ {fs : List (Str × α)} {gs : List (Str × β)} {f : Str}, fs.map (·.1) = gs.map (·.1) → gs.lookup f = none → fs.lookup f = none
  | [], [], _, _, _ => rfl
  | [], _ :: _, _, h, _ => by simp at h
  | _ :: _, [], _, h, _ => by simp at h
  | (a, x) :: fs, (b, y) :: gs, f, h, e => by
    simp only [List.map_cons, List.cons.injEq] at h
    obtain ⟨h1, h2⟩ := h
    subst h1
    rw [List.lookup_cons] at e ⊢
    cases hb : f == a with
    | true => rw [hb] at e; cases e
    | false => rw [hb] at e; exact lookup_none h2 e
theorem insOf_rep {C : Nat} {nm : Str} (hx : Ex Hf H) (r : Rep ca X.K Hf H S v d) (h : insOf C nm d = true) : ∃ a dx fs, v = .ref a ∧ H a = some (.ins (ca C) dx fs) ∧ fs.lookup nm = none := by
  cases d with
  | ins o C' gs =>
    simp only [insOf, Bool.and_eq_true, decide_eq_true_eq] at h
    obtain ⟨rfl, h2⟩ := h
    obtain ⟨a, dx, fs, T, e1, e2, e3, _⟩ := rep_ins hx r
    exact ⟨a, dx, fs, e1, e2, lookup_none e3 (by simpa using h2)⟩
  | _ => cases h
/-- the form of a method's call -/
def MForm (X : Cx) (o : Expr) (m : Str) (es : List Expr) (apos pos : Pos) (pl : Sem Bool) : Prop := eval (.Call (.Attribute o m apos) es [] pos) X.env = (do
      let ov ← eval o X.env
      standAt apos.atName
      let (g, first) ← holding [ov] (getMethod ov m pl)
      callWith pos g first (backTo pos (starEach es X.env)) (backToKw pos (keywordEach [] X.env)))
theorem ce_mth {k C : Nat} {f : Addr} {nm : Str} {o : Expr} {es : List Expr} {m0 : ME} {m : MF} {ms : MA} {apos pos : Pos} {pl : Sem Bool} (c : Cls X.K (ca C)) (hm : Meth X.K (ca C) nm f) (F : FnG X.prog X.w X.K X.mg X.base (L2.CX X.prog X.w) k f (spM ca X.K m)) (hr : RoomG k X.A)
    (ho : CE ca X o m0) (ha : CL ca X es ms) (hst : NoStar es) (ht : MForm X o nm es apos pos pl := by exact rfl) (hpl : ∀ e r, es = e :: r → (backTo pos (starEach r X.env)).any (·.1) = false := by intro e r h; cases h; rfl) :
    CE ca X (.Call (.Attribute o nm apos) es [] pos) (eMth C nm m m0 ms) := fun Hf H R σ st Q pr h => by
  have key : We X o σ H fun x H1 => ∃ a dx fs, x = .ref a ∧ H1 a = some (.ins (ca C) dx fs) ∧ fs.lookup nm = none ∧ WL X es σ H1 fun vs H2 => spM ca X.K m (x :: vs) H2 Q (fun cls dd H' => wX X cls dd σ H') := by
    refine ho Hf H R σ st _ pr ?_
    unfold eMth at h
    cases e0 : m0 st with
    | fail => rw [e0] at h; exact h
    | exc x st1 => rw [e0] at h; exact h
    | ok d0 st1 =>
      rw [e0] at h
      intro Hf1 H1 P1 R1 x t1 p1
      change Post ca X Hf H _ σ (if insOf C nm d0 = true then _ else .fail) Q at h
      by_cases hi : insOf C nm d0 = true
      · rw [if_pos hi] at h
        obtain ⟨a, dx, fs, e1, e2, e3⟩ := insOf_rep p1.w.ex p1.pend hi
        refine ⟨a, dx, fs, e1, e2, e3, ?_⟩
        have h1 := Post.from (less0 t1) h
        refine ha Hf1 H1 R1 σ st1 _ p1.drop ?_
        cases e2 : ms st1 with
        | fail => dsimp only [Res.bind] at h1; rw [e2] at h1; exact h1
        | exc x st2 => dsimp only [Res.bind] at h1; rw [e2] at h1; exact h1
        | ok ds st2 =>
          dsimp only [Res.bind] at h
          rw [e2] at h
          intro Hf2 H2 P2 R2 vs t2 p2
          obtain ⟨c1, c2, c3, c4, c5⟩ := PR.carry (ppf := fun _ _ => True) p1 t2 p2
          have p3 : PR ca X.K Hf2 H2 (fun b => P1 b ∨ P2 b) (RepL ca X.K Hf2 H2 (fun b => P1 b ∨ P2 b) (x :: vs) (d0 :: ds)) R2 σ st2 :=
            ⟨.cons (p1.pend.keep t2.fx c1) p2.pend (fun _ q => .inl q) (fun _ q => .inr q) c2, p2.len, p2.at_, p2.dj, fun i b q1 q2 => q1.elim (fun q => c3 i b q q2) (fun q => p2.dp i b q q2), c4⟩
          exact ⟨Hf2, _, d0 :: ds, p3.pend, p3.w.mono fun b q => .inl q, postC_of p3 (Post.from (t1.trans c5) h)⟩
      · rw [if_neg hi] at h; exact h.elim
  have sub : ∀ σ H Q, WL X es σ H Q → Wa X es σ H Q := fun σ H Q q => wa_wl (fun e' r' q' => noStar_suf hst e' r' q' _) q
  refine we_of (pe_mth (we_pe X o) c hm F hr (E := fun σ cls dd H' => wX X cls dd σ H') (fun σ => passAt (takes_wX X) σ) (wa_pa X es) ?_ ht) ?_
  · cases es with
    | nil => exact .inl rfl
    | cons e r => exact .inr ⟨e, r, rfl, hst.1 _, hpl e r rfl⟩
  · intro pins s I
    refine thn (key pins s I) fun u s1 ⟨x, H1, I1, r1, a, dx, fs, e1, e2, e3, q⟩ => ⟨x, H1, I1, r1, a, dx, fs, e1, e2, e3, ?_⟩
    cases es with
    | nil => exact q
    | cons e r => exact sub _ _ _ q
theorem lent_tail {fs : List Expr} {i : Nat} {ns : MA} {m : MF} {Q : VK} {E : L2.St → XK} {Hf1 H1 : Hp} {P1 : Rg} {R1 : Nat → Rg} {vs : List V} {ds : List D} {st1 : Sl} {d0 : D} (hb : CL ca X fs ns) (p1 : PR ca X.K Hf1 H1 P1 (RepL ca X.K Hf1 H1 P1 vs ds) R1 σ st1) (eg : getS st1 i = some d0)
    (h1 : Post ca X Hf1 H1 (jn P1 R1) σ ((ns st1).bind fun es st2 =>
          (match getS st2 i with
          | some d => if hot d then (match m (ds ++ d :: es) with
              | .ok r ps => .ok r (st2.set i (getS ps ds.length))
              | .exc x ps => .exc x (st2.set i (getS ps ds.length))
              | .fail => .fail) else (match m (ds ++ d :: es) with
              | .ok r _ => .ok r st2
              | .exc x _ => .exc x st2
              | .fail => .fail)
          | none => .fail)) Q) (hE : E σ = fun cls dd H' => wX X cls dd σ H') : ∃ v0, σ[i]? = some (some v0) ∧ WL X fs σ H1 fun ws H' => spM ca X.K m (vs ++ v0 :: ws) H' Q (E σ) := by
      obtain ⟨v0, ev0, _⟩ := p1.at_ i d0 eg
      refine ⟨v0, ev0, hb Hf1 H1 R1 σ st1 _ p1.drop ?_⟩
      have h2 := h1
      clear h1
      cases e2 : ns st1 with
      | fail => rw [e2] at h2; exact h2
      | exc x st2 => rw [e2] at h2; exact fun Hf' H' R' cls dd t q => h2 Hf' H' R' cls dd (t.more fun b q => q.elim (fun q => q.elim) .inr) q
      | ok es' st2 =>
        rw [e2] at h2
        intro Hf2 H2 P2 R2 ws t2 p2
        obtain ⟨c1, c2, c3, c4, c5⟩ := PR.carry (ppf := fun _ _ => True) p1 t2 p2
        have h3 := Post.from c5 h2
        clear h2
        dsimp only [Res.bind] at h3
        have r1 := p1.pend.keep t2.fx c1
        have r2 := p2.pend
        cases eg2 : getS st2 i with
        | none => rw [eg2] at h3; exact h3.elim
        | some d =>
          rw [eg2] at h3
          dsimp only at h3
          rw [hE]
          by_cases hh : hot d = true
          · rw [if_pos hh] at h3
            obtain ⟨v, ev, p3⟩ := p2.drop.take eg2
            rw [ev0] at ev
            cases ev
            -- the pending arguments, the lent slot's own
            have hd1 : ∀ b, (P1 b ∨ P2 b) → R2 i b → False := fun b q1 q2 => q1.elim (fun q => c3 i b q q2) fun q => p2.dp i b q q2
            have rr : RepL ca X.K Hf2 H2 (fun b => (P1 b ∨ P2 b) ∨ R2 i b) (vs ++ v0 :: ws) (ds ++ d :: es') :=
              repL_app' (S1 := P1) (S2 := fun b => R2 i b ∨ P2 b) r1 (.cons p3.pend r2 (fun _ q => .inl q) (fun _ q => .inr q) fun b q1 q2 => p2.dp i b q2 q1) (fun b q => .inl (.inl q)) (fun b q => q.elim .inr fun q => .inl (.inr q)) fun b q1 q2 => q2.elim (fun q => c3 i b q1 q) (c2 b q1)
            have p4 : PR ca X.K Hf2 H2 (fun b => (P1 b ∨ P2 b) ∨ R2 i b) (RepL ca X.K Hf2 H2 (fun b => (P1 b ∨ P2 b) ∨ R2 i b) (vs ++ v0 :: ws) (ds ++ d :: es')) (fun j b => j ≠ i ∧ R2 j b) σ (st2.set i none) :=
              ⟨rr, p3.len, p3.at_, p3.dj, fun k b q1 q2 => q1.elim (fun q => q.elim (fun q => c3 k b q q2.2) fun q => p2.dp k b q q2.2) fun q => q2.1 (p2.dj k i b q2.2 q), c4.mono fun b q => by
                rcases q with (q | q) | ⟨k, q⟩
                · exact .inl q
                · exact .inr ⟨i, q⟩
                · exact .inr ⟨k, q.2⟩⟩
            refine ⟨Hf2, _, _, rr, p4.w.mono fun b q => .inl q, postC_lent (i := i) (j := vs.length) (a := v0) p4 (by simp) ev0 (by rw [getS_set, if_pos rfl]; split <;> rfl) (by rw [List.length_set]; exact getS_lt eg2) ?_⟩
            rw [r1.length]
            have hset : ∀ o : Option D, (st2.set i none).set i o = st2.set i o := fun o => by rw [List.set_set]
            simp only [hset]
            refine Post.from (Tr.refl fun b q => ?_) h3
            rcases q with (q | q) | ⟨k, q⟩
            · exact .inl q
            · exact .inr ⟨i, q⟩
            · exact .inr ⟨k, q.2⟩
          · rw [if_neg hh] at h3
            have hh' : hot d = false := by simpa using hh
            obtain ⟨v, ev, rd⟩ := p2.drop.at_ i d eg2
            rw [ev0] at ev
            cases ev
            have rr : RepL ca X.K Hf2 H2 (fun b => P1 b ∨ P2 b) (vs ++ v0 :: ws) (ds ++ d :: es') :=
              repL_app' (S1 := P1) (S2 := P2) r1 (.cons (S1 := Em) (rd.cold hh') r2 (fun _ q => q.elim) (fun _ q => q) fun b q1 q2 => q1) (fun b q => .inl q) (fun b q => .inr q) c2
            have p4 : PR ca X.K Hf2 H2 (fun b => P1 b ∨ P2 b) (RepL ca X.K Hf2 H2 (fun b => P1 b ∨ P2 b) (vs ++ v0 :: ws) (ds ++ d :: es')) R2 σ st2 :=
              ⟨rr, p2.len, p2.at_, p2.dj, fun k b q1 q2 => q1.elim (fun q => c3 k b q q2) fun q => p2.dp k b q q2, c4⟩
            exact ⟨Hf2, _, _, rr, p4.w.mono fun b q => .inl q, postC_of p4 h3⟩

theorem ce_mthL {k C : Nat} {f : Addr} {nm : Str} {o : Expr} {es : List Expr} {i : Nat} {m : MF} {ns : MA} {apos pos : Pos} {pl : Sem Bool} (c : Cls X.K (ca C)) (hm : Meth X.K (ca C) nm f) (F : FnG X.prog X.w X.K X.mg X.base (L2.CX X.prog X.w) k f (spM ca X.K m)) (hr : RoomG k X.A)
    (ho : PE X o (tVar i)) (ha : CL ca X es ns) (hst : NoStar es) (ht : MForm X o nm es apos pos pl := by exact rfl) (hpl : ∀ e r, es = e :: r → (backTo pos (starEach r X.env)).any (·.1) = false := by intro e r h; cases h; rfl) :
    CE ca X (.Call (.Attribute o nm apos) es [] pos) (eMthL C nm m i ns) := fun Hf H R σ st Q pr h => by
  have sub : ∀ σ H Q, WL X es σ H Q → Wa X es σ H Q := fun σ H Q q => wa_wl (fun e' r' q' => noStar_suf hst e' r' q' _) q
  refine we_of (pe_mth ho c hm F hr (E := fun σ cls dd H' => wX X cls dd σ H') (fun σ => passAt (takes_wX X) σ) (wa_pa X es) ?_ ht) ?_
  · cases es with
    | nil => exact .inl rfl
    | cons e r => exact .inr ⟨e, r, rfl, hst.1 _, hpl e r rfl⟩
  · unfold eMthL at h
    cases eg : getS st i with
    | none => rw [eg] at h; exact h.elim
    | some d0 =>
      rw [eg] at h
      change Post ca X Hf H _ σ (if insOf C nm d0 = true then _ else .fail) Q at h
      by_cases hi : insOf C nm d0 = true
      · rw [if_pos hi] at h
        have h1 : Post ca X Hf H (jn Em R) σ ((ns st).bind fun es st2 =>
          (match getS st2 i with
          | some d => if hot d then (match m ([] ++ d :: es) with
              | .ok r ps => .ok r (st2.set i (getS ps ([] : List D).length))
              | .exc x ps => .exc x (st2.set i (getS ps ([] : List D).length))
              | .fail => .fail) else (match m ([] ++ d :: es) with
              | .ok r _ => .ok r st2
              | .exc x _ => .exc x st2
              | .fail => .fail)
          | none => .fail)) Q := by
          unfold eCallL aNil at h
          dsimp only [Res.bind] at h
          rw [eg] at h
          exact h
        obtain ⟨v, ev, rv⟩ := pr.at_ i d0 eg
        obtain ⟨v0, ev0, q⟩ := lent_tail (E := fun σ cls dd H' => wX X cls dd σ H') ha (pr.toP (fun _ q => q) (RepL.nil)) eg h1 rfl
        rw [ev] at ev0
        cases ev0
        obtain ⟨a, dx, fs, e1, e2, e3⟩ := insOf_rep pr.w.ex rv hi
        refine ⟨v, ev, a, dx, fs, e1, e2, e3, ?_⟩
        cases es with
        | nil => exact q
        | cons e r => exact sub _ _ _ q
      · rw [if_neg hi] at h; exact h.elim
end
end DL

/-! DL29: defs with a starred parameter; classmethods. -/
namespace DL
open PySem L2 PyProof.Rows
/-- how a def with a starred parameter binds -/
structure StarB (fd : FuncData) (ps : List Str) (pv : Str) : Prop where
  b : ∀ us rest : List Value, us.length = ps.length → bindArgs fd ⟨us ++ rest, []⟩ = (newTuple rest >>= fun t => pure (ps.zip us ++ [(pv, t)]))
section
variable {ca : Nat → Addr} {P : Program} {w : World} {K : PySem.W.Frag} {mg : Str → Option Value} {base : Heap} {L : List Nat}
theorem repL_cutAt {K : PySem.W.Frag} {Hf H : Hp} : ∀ (n : Nat) {S : Rg} {vs : List V} {ds : List D}, RepL ca K Hf H S vs ds → ∃ A B : Rg, RepL ca K Hf H A (vs.take n) (ds.take n) ∧ RepL ca K Hf H B (vs.drop n) (ds.drop n) ∧ (∀ b, A b → S b) ∧ (∀ b, B b → S b) ∧ ∀ b, A b → B b → False
  | 0, S, vs, ds, r => ⟨Em, S, .nil, r, fun _ q => q.elim, fun _ q => q, fun _ q => q.elim⟩
  | n + 1, S, [], [], r => ⟨Em, S, .nil, r, fun _ q => q.elim, fun _ q => q, fun _ q => q.elim⟩
  | n + 1, S, v :: vs, d :: ds, r => by
    cases r with
    | cons r1 r2 h1 h2 h3 =>
      obtain ⟨A, B, a, b, c, e, f⟩ := repL_cutAt n r2
      exact ⟨_, B, .cons (S := fun x => _ ∨ A x) r1 a (fun _ q => .inl q) (fun _ q => .inr q) (fun x q1 q2 => h3 x q1 (c x q2)), b, fun x q => q.elim (h1 x) fun q => h2 x (c x q), fun x q => h2 x (e x q), fun x q1 q2 => q1.elim (fun q => h3 x q (e x q2)) fun q => f x q q2⟩
  | _ + 1, _, [], _ :: _, r => by cases r
  | _ + 1, _, _ :: _, [], r => by cases r
theorem fn_body {x qual : Str} {st : Stmt} {f : Addr} {fd : FuncData} {N ps : List Str} {k n : Nat} {mb : MS} (F : Fun K x qual st f fd) (S : FnScope N ps (defScope st)) (hn : ps.length = n)
    (hb : ∀ (cdv : Value) (A : Around) (outer : List Env) (s : Shared) (H : Hp) (E : XK), RoomG k (A.deeper (envOfC qual (defScope st) s.heap.objs.size f cdv)) →
      CSs ca (cxOf (L2.CX P w) P w K mg base N qual (defScope st) f cdv A outer s H E) L (defBody st) mb) {cdv : Value} {A : Around} {outer : List Env} {s : Shared} {H : Hp} {vs : List V} {Q : VK} {E : XK} (hr : RoomG k (A.deeper (envOfC qual (defScope st) s.heap.objs.size f cdv)))
    (h : spM ca K (fn n N.length L mb) vs H Q E) : ∃ t, PSs (cxOf (L2.CX P w) P w K mg base N qual (defScope st) f cdv A outer s H E) (defBody st) t ∧ t { nx := fun _ H' => Q .non H', rt := Q } (L2.start N vs) H := by
  refine ⟨_, wss_pss _ _, ?_⟩
  have hl := spM_len h
  obtain ⟨Hf, Pg, ds, r, w1, post⟩ := h
  have hds : ds.length = n := by rw [← r.length]; exact hl
  obtain ⟨R, a, b, c⟩ := repL_split r
  have hvn : vs.length ≤ N.length := by
    have := congrArg List.length S.pre
    rw [List.length_take] at this
    omega
  have p0 : PR ca K Hf H Em True R (L2.start N vs) (ds.map some ++ List.replicate (N.length - n) none) := by
    refine ⟨trivial, ?_, fun i d e => ?_, b, fun _ _ q => q.elim, ?_⟩
    · unfold L2.start; simp [hds, hl]
    · have hi : i < ds.length := by
        by_cases hi : i < ds.length
        · exact hi
        · exfalso
          unfold getS at e
          rw [List.getElem?_append_right (by simp; omega), List.getElem?_replicate] at e
          split at e <;> cases e
      have e1 : ds[i]? = some d := by
        unfold getS at e
        rw [List.getElem?_append_left (by simpa using hi), List.getElem?_map, List.getElem?_eq_getElem hi] at e
        rw [List.getElem?_eq_getElem hi]
        exact e
      obtain ⟨v, e2, r2⟩ := a i d e1
      refine ⟨v, ?_, r2⟩
      rw [start_at (by rw [r.length]; exact hi), e2]
    · exact w1.mono fun b q => q.elim (fun q => q.elim) fun ⟨i, q⟩ => c i b q
  refine hb cdv A outer s H E hr Hf H R (L2.start N vs) _ _ p0 ?_
  unfold fn at post
  rw [if_pos hds] at post
  have hkk : ∀ σ' : L2.St, Lk L (L2.start N vs) σ' → ∀ i ∈ L, i < n → σ'[i]? = some (vs[i]?) := fun σ' k i hi hn' => by
    rw [k.2 i hi]; exact start_at (by omega)
  have hS : ∀ b, jn Em R b → Pg b := fun b q => q.elim (fun q => q.elim) fun ⟨i, q⟩ => c i b q
  have hR : ∀ {P' : Rg} {R' : Nat → Rg} (b : Addr), jn P' (fun i b => i ∈ L ∧ i < n ∧ R' i b) b → jn P' R' b := fun b q => q.elim .inl fun ⟨i, q⟩ => .inr ⟨i, q.2.2⟩
  cases em : mb (ds.map some ++ List.replicate (N.length - n) none) with
  | fail => rw [em] at post; exact post.elim
  | brk st1 => rw [em] at post; exact post.elim
  | cont st1 => rw [em] at post; exact post.elim
  | next st1 =>
    rw [em] at post
    intro Hf1 H1 R1 σ1 t1 p1 k1
    exact post Hf1 H1 Em _ .non ((t1.more hS).less hR) (p1.params hl (hkk σ1 k1) .non fun _ q => q)
  | ret d st1 =>
    rw [em] at post
    intro Hf1 H1 P1 R1 σ1 v t1 p1 k1
    exact post Hf1 H1 P1 _ v ((t1.more hS).less hR) (p1.params hl (hkk σ1 k1) p1.pend fun _ q => q)
  | exc x st1 =>
    rw [em] at post
    intro Hf1 H1 R1 σ1 cls dd t1 p1 k1
    exact wX_of (takes_of rfl rfl rfl rfl) (post Hf1 H1 _ cls dd ((t1.more hS).less hR) (p1.params hl (hkk σ1 k1) p1.pend fun _ q => q))
theorem FnG.imp {CX : CXT} {k : Nat} {f : Addr} {sp sp' : Sp} (F : FnG P w K mg base CX k f sp) (h : ∀ vs H Q E, sp' vs H Q E → sp vs H Q E) : FnG P w K mg base CX k f sp' :=
  fun A outer s H us vs Q E hr e0 r hs => F A outer s H us vs Q E hr e0 r (h _ _ _ _ hs)
theorem fn_okG {x qual : Str} {st : Stmt} {f : Addr} {fd : FuncData} {N ps : List Str} {k n : Nat} {mb : MS} (F : Fun K x qual st f fd) (B : Binds K fd ps []) (S : FnScope N ps (defScope st)) (hn : ps.length = n)
    (hb : ∀ (cdv : Value) (A : Around) (outer : List Env) (s : Shared) (H : Hp) (E : XK), RoomG k (A.deeper (envOfC qual (defScope st) s.heap.objs.size f cdv)) →
      CSs ca (cxOf (L2.CX P w) P w K mg base N qual (defScope st) f cdv A outer s H E) L (defBody st) mb) : FnG P w K mg base (L2.CX P w) (k + 1) f (spM ca K (fn n N.length L mb)) := by
  obtain ⟨oc, od, kV, doc, pm, an, cdv, ct, osl, rfl, lk, hcd⟩ := F.ex
  have F' : Fun K x qual st f (PySem.W.fnOf x qual (defArgs st) (defBody st) (defScope st) .none kV doc pm an cdv ct) := F
  intro A outer s H us vs Q E hr e0 r h
  have hl := spM_len h
  have KX : K.In s.heap := e0.mod.kin.keeps fun b o e => (e0.bs b o e).1
  refine StX.run_bnd lk hcd S hr.2 e0 (G := fun xs H2 => xs = vs ∧ H2 = H) (fun A' Ex Q' hq => ?_) fun s2 H2 xs ⟨e1, e2⟩ hr' => ?_
  · have b := B s us KX (by rw [List.append_nil, ← r.length, hl, hn])
    rw [List.append_nil] at b
    exact b _ _ _ _ (hq s H vs us e0 Un.refl rfl (fun _ _ z => z) r (by rw [hl, hn]) ⟨rfl, rfl⟩)
  · subst e1 e2
    exact fn_body F' S hn hb ⟨hr.1, hr'⟩ h
theorem star_run {k : Nat} {f : Addr} {name qual : Str} {params : Arguments} {body : List Stmt} {scope : Scope} {dV kV doc pm cdv ct oc : Value} {an od : Option Addr} {osl : Array (Option Value)} {N ps : List Str} {sp : Sp} {pv : Str}
    (lk : K.lookup f = some ⟨oc, od, .func (PySem.W.fnOf name qual params body scope dV kV doc pm an cdv ct), osl⟩) (hcd : PySem.W.codeIn K cdv qual = true) (S : FnScope N (ps ++ [pv]) scope)
    (hb : ∀ us rest : List Value, us.length = ps.length → bindArgs (PySem.W.fnOf name qual params body scope dV kV doc pm an cdv ct) ⟨us ++ rest, []⟩ = (newTuple rest >>= fun t => pure (ps.zip us ++ [(pv, t)])))
    (hbody : ∀ (A : Around) (outer : List Env) (s : Shared) (H : Hp) (vs : List V) (Q : VK) (E : XK), RoomG k (A.deeper (envOfC qual scope s.heap.objs.size f cdv)) → sp vs H Q E →
      ∃ t, PSs (cxOf (L2.CX P w) P w K mg base N qual scope f cdv A outer s H E) body t ∧ t { nx := fun _ H' => Q .non H', rt := Q } (L2.start N vs) H) :
    FnG P w K mg base (L2.CX P w) (k + 1) f (fun vs H Q E => ∃ ws rest, vs = ws ++ rest ∧ ws.length = ps.length ∧ rest.length ≤ sizeLine ∧ ∀ p, H p = Option.none → sp (ws ++ [V.ref p]) (upd H p (.tup rest)) Q E) := by
  intro A outer s H us vs Q E hr e0 r ⟨ws, rest, ev, hl, hz, hq⟩
  subst ev
  obtain ⟨u1, u2, eu, r1, r2⟩ := StX.vals_split r
  subst eu
  have fresh : H s.heap.objs.size = Option.none := e0.hok.fresh (Nat.le_refl _)
  have n1 : u1.length = ps.length := r1.length.symm.trans hl
  have n2 : u2.length ≤ sizeLine := by rw [← r2.length]; exact hz
  refine StX.run_bnd lk hcd S hr.2 e0 (G := fun xs H2 => ∃ p, H p = Option.none ∧
    xs = ws ++ [V.ref p] ∧ H2 = upd H p (.tup rest)) (fun A' Ex Q' h => ?_) fun s2 H2 xs ⟨p, hp, ex, eH⟩ hr' => ?_
  · rw [hb u1 u2 n1]
    refine wpAny_bind (wpAny_newTuple
      (wpAny_pure ?_) n2)
    have nob : ObjOk P w (upd H s.heap.objs.size (.tup rest)) (s.heap.push ({ cls := .type "tuple", data := .seq u2.toArray } : Obj))
      s.heap.objs.size (.tup rest) := ⟨hz, u2, r2, ⟨_, Heap.get?_push_size _ rfl, rfl, _, rfl⟩⟩
    have un := StX.un_laid (fs := frs outer) (s := s)
      (o := ({ cls := .type "tuple", data := .seq u2.toArray } : Obj)) (u := .tup rest) fresh
    have z := h _ _ (ws ++ [V.ref s.heap.objs.size]) (u1 ++ [Value.ref s.heap.objs.size]) (StX.env0_laid e0 nob) un rfl
      (fun e s' => StX.cxUp outer s H _ _ E e s' un (fun b o q => Heap.get?_push_of_some _ q) rfl) (r1.append (.cons rfl .nil))
      (by rw [List.length_append, List.length_append, hl] <;> rfl) ⟨_, fresh, rfl, rfl⟩
    rw [List.zip_append n1.symm] at z
    exact z
  · subst ex eH
    exact hbody A outer s2 _ _ Q E ⟨hr.1, hr'⟩ (hq p hp)
theorem star_ok {x qual : Str} {st : Stmt} {f : Addr} {fd : FuncData} {N ps : List Str} {pv : Str} {k n : Nat} {mb : MS} (F : Fun K x qual st f fd) (B : StarB fd ps pv) (S : FnScope N (ps ++ [pv]) (defScope st)) (hn : ps.length = n)
    (hb : ∀ (cdv : Value) (A : Around) (outer : List Env) (s : Shared) (H : Hp) (E : XK), RoomG k (A.deeper (envOfC qual (defScope st) s.heap.objs.size f cdv)) →
      CSs ca (cxOf (L2.CX P w) P w K mg base N qual (defScope st) f cdv A outer s H E) L (defBody st) mb) : FnG P w K mg base (L2.CX P w) (k + 1) f (spM ca K (mStar n (fn (n + 1) N.length L mb))) := by
  obtain ⟨oc, od, kV, doc, pm, an, cdv, ct, osl, rfl, lk, hcd⟩ := F.ex
  have F' : Fun K x qual st f (PySem.W.fnOf x qual (defArgs st) (defBody st) (defScope st) .none kV doc pm an cdv ct) := F
  refine (star_run (ps := ps) (pv := pv) (sp := spM ca K (fn (n + 1) N.length L mb)) lk hcd S B.b fun A outer s H vs Q E hr h => fn_body F' S (by rw [List.length_append, hn]; rfl) hb hr h).imp fun vs H Q E h => ?_
  obtain ⟨Hf, Pg, ds, r, w1, post⟩ := h
  generalize hm : fn (n + 1) N.length L mb = m at *
  have hl := r.length
  unfold mStar at post
  by_cases hc : n ≤ ds.length ∧ ds.length ≤ 16777216
  · rw [if_pos hc] at post
    obtain ⟨h1, h2⟩ := hc
    obtain ⟨A, B, r1, r2, hA, hB, hAB⟩ := repL_cutAt n r
    refine ⟨vs.take n, vs.drop n, (List.take_append_drop n vs).symm, by rw [List.length_take, hl, hn]; omega, by rw [List.length_drop, hl, ← sz_eq]; omega, fun p hp => ?_⟩
    have hpf : Hf p = none := (wl_new (o := .tup []) w1 hp).2
    -- the rest is let stand
    have dec : ∀ b, Decidable (B b) := fun b => Classical.propDecidable _
    obtain ⟨Hf1, g1, g2⟩ : ∃ Hf1 : Hp, (∀ b, B b → Hf1 b = H b) ∧ ∀ b, ¬ B b → Hf1 b = Hf b := ⟨fun b => if B b then H b else Hf b, fun b q => if_pos q, fun b q => if_neg q⟩
    have hpB : ¬ B p := fun q => by obtain ⟨o, e⟩ := w1.dm p (hB p q); rw [hp] at e; cases e
    have hpA : ¬ A p := fun q => by obtain ⟨o, e⟩ := w1.dm p (hA p q); rw [hp] at e; cases e
    have x1 : Ex Hf Hf1 := fun b o e => by
      by_cases q : B b
      · rw [w1.nf b (hB b q)] at e; cases e
      · rw [g2 b q]; exact e
    have hp1 : Hf1 p = none := by rw [g2 p hpB]; exact hpf
    have x2 : Ex Hf1 (upd Hf1 p (.tup (vs.drop n))) := fun b o e => upd_keep hp1 b o e
    have xH : Ex H (upd H p (.tup (vs.drop n))) := fun b o e => upd_keep hp b o e
    have x3 : Ex Hf1 H := fun b o e => by
      by_cases q : B b
      · rw [g1 b q] at e; exact e
      · rw [g2 b q] at e; exact w1.ex b o e
    have rt : Rep ca K (upd Hf1 p (.tup (vs.drop n))) (upd H p (.tup (vs.drop n))) Em (.ref p) (.tup (frzL (ds.drop n))) :=
      .tup upd_same (RepL.frz (fun b o e => x2 b o (x1 b o e)) r2 fun b q o e => x2 b o (by rw [g1 b q]; exact e))
    have ra : RepL ca K (upd Hf1 p (.tup (vs.drop n))) (upd H p (.tup (vs.drop n))) A (vs.take n) (ds.take n) := r1.keep (fun b o e => x2 b o (x1 b o e)) fun b _ o e => xH b o e
    have rr : RepL ca K (upd Hf1 p (.tup (vs.drop n))) (upd H p (.tup (vs.drop n))) A (vs.take n ++ [.ref p]) (ds.take n ++ [.tup (frzL (ds.drop n))]) :=
      repL_app' (S1 := A) (S2 := Em) ra (RepL.one rt) (fun _ q => q) (fun _ q => q.elim) fun _ _ q => q
    have wA : Wl (upd Hf1 p (.tup (vs.drop n))) (upd H p (.tup (vs.drop n))) A := by
      refine ⟨fun b o e => ?_, fun b q => ?_, fun b q => ?_⟩
      · by_cases hb : b = p
        · subst hb; rw [upd_same] at e ⊢; exact e
        · rw [upd_ne hb] at e ⊢; exact x3 b o e
      · obtain ⟨o, e⟩ := w1.dm b (hA b q)
        exact ⟨o, xH b o e⟩
      · have : b ≠ p := fun z => hpA (z ▸ q)
        rw [upd_ne this, g2 b fun z => hAB b q z]
        exact w1.nf b (hA b q)
    have tr : Tr Pg Hf H A (upd Hf1 p (.tup (vs.drop n))) (upd H p (.tup (vs.drop n))) := by
      refine ⟨fun b o e => x2 b o (x1 b o e), fun b o e _ => xH b o e, fun b q => .inl (hA b q), fun b o e => ?_⟩
      by_cases hb : b = p
      · subst hb; exact .inr (.inr hp)
      · rw [upd_ne hb] at e
        by_cases q : B b
        · exact .inr (.inl (hB b q))
        · rw [g2 b q] at e; exact .inl e
    refine ⟨_, A, _, rr, wA, ?_⟩
    have slots : ∀ {Hf' H' : Hp} {P' : Rg} {pp : Prop} {Rp : Nat → Rg} {ps' : Sl}, PR ca K Hf' H' P' pp Rp ((vs.take n ++ [V.ref p]).map some) ps' → PR ca K Hf' H' P' pp (fun i b => i < n ∧ Rp i b) (vs.map some) (ps'.take n ++ List.replicate (ds.length - n) none) := fun {Hf' H' P' pp Rp ps'} q => by
      have ql : ps'.length = n + 1 := by
        have := q.len
        rw [List.length_map, List.length_append, List.length_take, hl] at this
        rw [this, Nat.min_eq_left h1]
        rfl
      refine ⟨q.pend, ?_, fun i d e => ?_, fun i j b z1 z2 => q.dj i j b z1.2 z2.2, fun i b z1 z2 => q.dp i b z1 z2.2, q.w.mono fun b z => z.imp_right fun ⟨i, z⟩ => ⟨i, z.2⟩⟩
      · rw [List.length_append, List.length_take, List.length_replicate, List.length_map, hl, ql]
        omega
      · have hi : i < n := by
          refine Classical.byContradiction fun hi => ?_
          unfold getS at e
          rw [List.getElem?_append_right (by rw [List.length_take, ql]; omega), List.getElem?_replicate] at e
          split at e <;> cases e
        have e2 : getS ps' i = some d := by
          unfold getS at e ⊢
          rw [List.getElem?_append_left (by rw [List.length_take, ql]; omega), List.getElem?_take, if_pos hi] at e
          exact e
        obtain ⟨v, e3, r3⟩ := q.at_ i d e2
        refine ⟨v, ?_, ?_⟩
        · rw [List.getElem?_map, List.getElem?_append_left (by rw [List.length_take, hl]; omega), List.getElem?_take, if_pos hi] at e3
          rw [List.getElem?_map]
          exact e3
        · exact r3.mono fun b z => ⟨hi, z⟩
    cases em : m (ds.take n ++ [.tup (frzL (ds.drop n))]) with
    | fail => rw [em] at post; exact post
    | ok d ps' =>
      rw [em] at post
      intro Hf' H' P' Rp v t q
      exact post Hf' H' P' _ v ((tr.trans t).less fun b z => z.imp_right fun ⟨i, z⟩ => ⟨i, z.2⟩) (slots q)
    | exc y ps' =>
      rw [em] at post
      intro Hf' H' Rp cls dd t q
      exact post Hf' H' _ cls dd ((tr.trans t).less fun b z => z.imp_right fun ⟨i, z⟩ => ⟨i, z.2⟩) (slots q)
  · rw [if_neg hc] at post; exact post.elim
end
end DL

/-! DL30: t[::-1] of a tuple; slices of lists and tuples; classmethods; a class at a slot called. -/
namespace DL
open PySem L2 PyProof.Rows
section
variable {prog : Program} {w : World} {A : Around} {E : Value → Shared → Prop} {s : Shared}
theorem applied_rev {sl : Addr} {vs : Value} {n : Nat} {Q : Int × Int × Nat → Shared → Prop} (hs : s.heap.IsSliceOf sl .none .none vs) (ps : IsPart vs (some (-1)))
    (h : Q ((n : Int) - 1, -1, n) s) : wpAny (model prog w) A (Builtin.Slice.sliceApplied (.ref sl) (pure (n : Int))) Q E s := by
  obtain ⟨os, hos, hcs, hds⟩ := id hs
  unfold Builtin.Slice.sliceApplied
  unfold Builtin.Slice.sliceFields
  refine wpAny_bind (wpAny_bind (wpAny_field hos hds (x := .none) rfl (wpAny_bind
    (wpAny_field hos hds (x := .none) rfl (wpAny_bind (wpAny_field hos hds (x := vs) rfl
      (wpAny_pure ?_)))))))
  refine wpAny_bind (HT.slicePart_ ps ?_)
  show wpAny _ _ (if ((-1 : Int) == 0) = true then _ else _) _ _ s
  rw [if_neg (by decide)]
  refine wpAny_bind (HT.slicePart_ .none (wpAny_bind
    (HT.slicePart_ .none (wpAny_bind (wpAny_pure ?_)))))
  have e : Builtin.Slice.sliceAdjust none none (-1) (n : Int) = ((n : Int) - 1, -1) := rfl
  have e2 : Builtin.Slice.slicePlaces ((n : Int) - 1) (-1) (-1) = n := by
    unfold Builtin.Slice.slicePlaces
    rw [if_neg (by decide)]
    by_cases hn : n = 0
    · subst hn; rfl
    · rw [if_pos (by omega), show -(-1 : Int) = 1 from rfl, Int.ediv_one]; omega
  show wpAny _ _ (match Builtin.Slice.sliceAdjust none none (-1) (n : Int) with | (lo, hi) => pure (lo, (-1 : Int), Builtin.Slice.slicePlaces lo hi (-1))) _ _ s
  rw [e]
  show wpAny _ _ (pure ((n : Int) - 1, (-1 : Int), Builtin.Slice.slicePlaces ((n : Int) - 1) (-1) (-1))) _ _ s
  rw [e2]
  exact wpAny_pure h
theorem pick_rev (xs : Array Value) : ((List.range xs.size).filterMap fun (m : Nat) => xs[(((xs.size : Int) - 1) + (m : Int) * (-1)).toNat]?).toArray = xs.toList.reverse.toArray := by
  congr 1
  have e : ∀ m ∈ List.range xs.size, xs[(((xs.size : Int) - 1) + (m : Int) * (-1)).toNat]? = xs.toList.reverse[m]? := fun m hm => by
    have hm : m < xs.size := by simpa using hm
    have i : (((xs.size : Int) - 1) + (m : Int) * (-1)).toNat = xs.size - 1 - m := by omega
    rw [i, List.getElem?_reverse (by simpa using hm)]
    simp
  have e3 : (List.range xs.size).filterMap (fun (m : Nat) => xs[(((xs.size : Int) - 1) + (m : Int) * (-1)).toNat]?) = (List.range xs.size).filterMap fun m => xs.toList.reverse[m]? := by
    have gen : ∀ l : List Nat, (∀ m ∈ l, xs[(((xs.size : Int) - 1) + (m : Int) * (-1)).toNat]? = xs.toList.reverse[m]?) → l.filterMap (fun (m : Nat) => xs[(((xs.size : Int) - 1) + (m : Int) * (-1)).toNat]?) = l.filterMap fun m => xs.toList.reverse[m]? := fun l => by
      induction l with
      | nil => exact fun _ => rfl
      | cons y l ih =>
        intro h
        rw [List.filterMap_cons, List.filterMap_cons, h y List.mem_cons_self, ih fun z hz => h z (List.mem_cons_of_mem _ hz)]
    exact gen _ e
  rw [e3]
  have := PySem.W.krv_all (xs.toList.reverse.toArray)
  simpa using this
theorem getItem_tuple_rev {t sl : Addr} {items : Array Value} {vs : Value} {Q : Value → Shared → Prop} (ht : IsTup s.heap t items) (hs : s.heap.IsSliceOf sl .none .none vs) (ps : IsPart vs (some (-1)))
    (h : Q (.ref s.heap.objs.size) { s with heap := s.heap.push { cls := .type "tuple", data := .seq items.toList.reverse.toArray } })
    (hsz : items.size ≤ sizeLine) : wpAny (model prog w) A (getItem (.ref t) (.ref sl)) Q E s := by
  have htake : sizeOk (.seq items.toList.reverse.toArray) := by
    show items.toList.reverse.toArray.size ≤ sizeLine
    rw [List.size_toArray, List.length_reverse, Array.length_toList]
    exact hsz
  obtain ⟨os, hos, hcs, hds⟩ := id hs
  have hTs : s.TypeIs (.ref sl) "slice" := ⟨os, hos, hcs⟩
  unfold getItem
  try with_reducible refine wpAny_holding ?_
  first
    | refine wpAny_bind (wpAny_pure ?_)
    | skip
  refine wpAny_bind (wpAny_sequenceKey ht.typeIs
    (by decide) ?_)
  refine wpAny_bind (wpAny_callSpecial?_slot (name := Str.ofString "__getitem__")
    ht.typeIs PyProof.Rows.slot_tuple_getitem
    (wpAny_call_entry PyProof.Rows.slot_tuple_getitem ht.typeIs
      entry_tuple_getitem ?_ (args_tuple_getitem _ _)))
  show wpAny _ _ (Builtin.Tuple.tupleItemsOf (.ref t)
    >>= _) _ _ s
  refine wpAny_bind (PyProof.Rows.tupleItemsOf_ ht ?_)
  refine wpAny_bind (wpAny_typeOf hTs ?_)
  rw [if_pos (by decide)]
  refine wpAny_bind (applied_rev hs ps ?_)
  have hno : ¬ ((((items.size : Int) - 1) == 0 && (-1 : Int) == 1 && items.size == items.size) = true) := by
    intro q
    rw [Bool.and_eq_true, Bool.and_eq_true] at q
    exact absurd (eq_of_beq q.1.2) (by decide)
  show wpAny _ _ (if (((items.size : Int) - 1) == 0 && (-1 : Int) == 1 && items.size == items.size) = true then _ else _) _ _ s
  rw [if_neg hno, pick_rev]
  first
    | exact wpAny_bind (m := Builtin.Tuple.tupleExact _)
        (wpAny_newObj_type (wpAny_pure ⟨_, rfl, wpAny_pure h⟩) htake)
    | exact wpAny_bind (m := Builtin.Tuple.tupleExact _)
        (wpAny_newObj_type (wpAny_bind (wpAny_pure (wpAny_pure ⟨_, rfl, wpAny_pure h⟩))) htake)
    | exact wpAny_bind (wpAny_bind (m := Builtin.Tuple.tupleExact _)
        (wpAny_newObj_type (wpAny_pure (wpAny_pure ⟨_, rfl, wpAny_pure h⟩)) htake))
    | exact wpAny_bind (wpAny_bind (m := Builtin.Tuple.tupleExact _)
        (wpAny_newObj_type (wpAny_pure ⟨_, rfl, wpAny_pure h⟩) htake))
end
/-- xs[::-1], a list or a tuple -/
def oRevA : List D → Option Out
  | [.tup xs] => if xs.length ≤ 16777216 then some (.newT xs.reverse) else none
  | ds => oRev ds
section
variable {ca : Nat → Addr} {Hf H Hf1 H1 Hf2 H2 : Hp} {S P P1 P2 : Rg} {R R1 R2 : Nat → Rg} {σ : L2.St} {st : Sl} {v : V} {d : D} {vs : List V} {ds : List D} {X : Cx} {L : List Nat}
theorem pe_revA {e : Expr} {te : TE} {k : Nat} {p1 p2 p3 pos : Pos} (he : PE X e te) : PE X (.Subscript e (.Slice none none (some (.UnaryOp .USub (.Constant (.int 1) k p1) p2)) p3) pos)
    (fun σ H Q => te σ H fun x H1 => ∃ a xs, x = .ref a ∧ ((SqL X.K H1 a xs ∧ ∀ p, H1 p = none → Q (.ref p) (upd H1 p (.lst xs.reverse))) ∨ (SqT X.K H1 a xs ∧ ∀ p, H1 p = none → Q (.ref p) (upd H1 p (.tup xs.reverse))))) := by
  refine ⟨fun pins s σ H Q I h => ?_⟩
  refine Subscript_ (thn (he.run pins s σ H _ I h) fun v s1 ⟨x, H1, I1, r1, q1⟩ => ?_)
  obtain ⟨a, xs, ex, q⟩ := q1
  subst ex
  cases r1
  have hst : PO X (some (.UnaryOp .USub (.Constant (.int 1) k p1) p2)) (tPart (tUn (rU fun i => .int (-i)) (tC (.int 1)))) :=
    po_some (pe_un un_neg pe_int)
  refine wpAny_Slice (thn (po_none.run pins s1 σ H1 (fun o H2 => o = none ∧ H2 = H1) I1 ⟨rfl, rfl⟩)
    fun vl s2 ⟨l, H2, I2, pl, el, e2⟩ => ?_)
  subst el e2
  refine thn (po_none.run pins s2 σ H2 (fun o H3 => o = none ∧ H3 = H2) I2 ⟨rfl, rfl⟩)
    fun vu s3 ⟨u, H3, I3, pu, eu, e3⟩ => ?_
  subst eu e3
  refine thn (hst.run pins s3 σ H3 (fun o H4 => o = some (-1) ∧ H4 = H3) I3 ⟨1, rfl, -1, rfl, rfl, rfl⟩)
    fun vs s4 ⟨o, H4, I4, ps, eo, e4⟩ => ?_
  subst eo e4
  have I5 : Inv X pins σ H4 { s4 with heap := s4.heap.push { cls := .type "slice", data := .fields #[vl, vu, vs] } } :=
    I4.kept (t' := s4.toks) fun b ob q => Heap.get?_push_of_some _ q
  show wpAny (model X.prog X.w) X.A (subscriptTail e (.Slice none none (some (.UnaryOp .USub (.Constant (.int 1) k p1) p2)) p3) (.ref a) (.ref s4.heap.objs.size))
    (EP X pins σ Q) X.xe { s4 with heap := s4.heap.push { cls := .type "slice", data := .fields #[vl, vu, vs] } }
  rcases q with ⟨hx, q⟩ | ⟨hx, q⟩
  · obtain ⟨its, r, ht, hz⟩ := I5.list hx
    have hlen := r.length
    refine tail_any (ops := [.ref a, .ref s4.heap.objs.size]) ht.isList.typeIs
      (PySem.slot_list_getitem.lookup) ?_ (by with_unfolding_all rfl)
    refine wpAny_getItem_list_slice ht.isList (Heap.IsSliceOf.new _ vl vu vs) pl pu ps (by decide)
      ?_ (by rw [List.size_toArray]; omega)
    rw [PySem.W.krv_pick]
    refine ⟨.ref _, _, I5.laid (t' := s4.toks) (o := .lst xs.reverse) (fun b ob q => Heap.get?_push_of_some _ q)
      (Nat.le_refl _) ?_, rfl, q _ (I5.hok.fresh (Nat.le_refl _))⟩
    exact ⟨by rw [List.length_reverse]; exact hz, _, 0, r.reverse,
      Heap.get?_push_size _ rfl⟩
  · obtain ⟨its, r, ht, hz⟩ := I5.tuple hx
    have hlen := r.length
    cases pl
    cases pu
    refine tail_any (ops := [.ref a, .ref s4.heap.objs.size]) ht.typeIs
      (PyProof.Rows.slot_tuple_getitem.lookup) ?_ (by with_unfolding_all rfl)
    refine getItem_tuple_rev ht (Heap.IsSliceOf.new _ _ _ vs) ps
      ?_ (by rw [List.size_toArray]; omega)
    refine ⟨.ref _, _, I5.laid (t' := s4.toks) (o := .tup xs.reverse) (fun b ob q => Heap.get?_push_of_some _ q)
      (Nat.le_refl _) ?_, rfl, q _ (I5.hok.fresh (Nat.le_refl _))⟩
    exact ⟨by rw [List.length_reverse]; exact hz, _, r.reverse, IsTup.new _ _⟩
end
end DL

/-! DL31: where a statement stands in a def; slices of lists and tuples; classmethods; a class at a slot called. -/
namespace DL
open PySem L2 PyProof.Rows
def nthS (ss : List Stmt) (i : Nat) : Stmt := ss.getD i (.Pass ⟨0, 0, 0, 0⟩)
def forB : Stmt → List Stmt
  | .For _ _ b _ _ => b
  | _ => []
def whB : Stmt → List Stmt
  | .While _ b _ _ => b
  | _ => []
def ifB : Stmt → List Stmt
  | .If _ b _ _ => b
  | _ => []
def ifE : Stmt → List Stmt
  | .If _ _ e _ => e
  | _ => []
def tryB : Stmt → List Stmt
  | .Try b _ _ _ _ => b
  | _ => []
/-- xs[lo:hi], a list or a tuple -/
def cutA (lo hi : Option Int) : List D → Option Out
  | [.tup xs] => if HT.sIx xs.length 0 lo = 0 ∧ HT.sIx xs.length xs.length hi = xs.length then some (.val (.tup xs)) else if xs.length ≤ 16777216 then some (.newT (cutD xs lo hi)) else none
  | ds => cutO lo hi ds
def oS00 : List D → Option Out
  | [x] => cutA none none [x]
  | _ => none
def oS10 : List D → Option Out
  | [x, .int a] => cutA (some a) none [x]
  | _ => none
def oS01 : List D → Option Out
  | [x, .int b] => cutA none (some b) [x]
  | _ => none
def eS11 (i : Nat) (ma mb : ME) : ME := fun st => if (getS st i).isSome then (ma st).bind fun a st2 => (match a with
  | .int x => (mb st2).bind fun b st3 => (match b with
    | .int y => (match (getS st3 i).bind fun d => cutA (some x) (some y) [d] with
      | some o => .ok o.d st3
      | none => .fail)
    | _ => .fail)
  | _ => .fail) else .fail

def rSlZ (K : PySem.W.Frag) : V → Option Int → Option Int → Hp → VK → Prop := fun x lo hi H Q => rSlL K x lo hi H Q ∨ rSlA K x lo hi H Q
section
variable {ca : Nat → Addr} {K : PySem.W.Frag} {Hf H Hf1 H1 Hf2 H2 : Hp} {S P P1 P2 : Rg} {R R1 R2 : Nat → Rg} {σ : L2.St} {st : Sl} {v : V} {d : D} {vs : List V} {ds : List D} {X : Cx} {L : List Nat}
theorem sl_any : SlR X (rSlZ X.K) := SlR.or sl_list sl_tupA
theorem os_cutA {lo hi : Option Int} {x : D} {o : Out} {Q : VK} (hx : Ex Hf H) (r1 : Rep ca K Hf H S v x) (h : cutA lo hi [x] = some o) (q : OutQ ca K Hf H o Q) : rSlZ K v lo hi H Q := by
  cases x with
  | tup xs =>
    right
    obtain ⟨a, vs, rfl, e2, r3⟩ := rep_tup hx r1
    have hl := r3.length
    refine ⟨a, vs, rfl, (show SqT K H a vs from .inl (.inl e2)), fun hw => ?_, fun hw p hp => ?_⟩
    · rw [hl] at hw
      dsimp only [cutA] at h
      rw [if_pos hw] at h
      cases h
      exact q _ (r1.cold rfl)
    · rw [hl] at hw
      dsimp only [cutA] at h
      rw [if_neg hw] at h
      split at h
      · cases h
        refine q p _ hp ?_
        obtain ⟨_, B, _, r4, _, hB, _⟩ := repL_cutAt (HT.sIx vs.length 0 lo) r3
        obtain ⟨A, _, r5, _, hA, _, _⟩ := repL_cutAt (HT.sIx vs.length vs.length hi - HT.sIx vs.length 0 lo) r4
        have r6 := r5.mono (S' := Em) fun b z => hB b (hA b z)
        unfold cutV cutD
        rw [← hl]
        exact r6
      · cases h
  | _ => exact .inl (os_cut hx r1 h q)
theorem ce_s00 {e : Expr} {oe : Opd} {p2 pos : Pos} (he : CO ca X e oe) : CE ca X (.Subscript e (.Slice none none none p2) pos) (eOp oS00 [oe]) :=
  ce_op (es := [e]) (rl := rl1 fun x H Q => rSlZ X.K x none none H Q) (fun σ H Q h => we_of (pe_slice sl_any (we_pe X e) po_none po_none) h) (.cons he .nil) fun Hf H vs ds o Q hx rd h q => by
    match ds, h with
    | [x], h =>
      obtain ⟨v, S, e1, r1⟩ := rdl1 rd rfl
      subst e1
      exact os_cutA hx r1 h q
theorem ce_s10 {e a : Expr} {oe oa : Opd} {p2 pos : Pos} (he : CO ca X e oe) (ha : CO ca X a oa) : CE ca X (.Subscript e (.Slice (some a) none none p2) pos) (eOp oS10 [oe, oa]) :=
  ce_op (es := [e, a]) (rl := rl2 fun x y H Q => ∃ i, y = .int i ∧ rSlZ X.K x (some i) none H Q) (fun σ H Q h => we_of (pe_slice sl_any (we_pe X e) (po_some (we_pe X a)) po_none) h) (.cons he (.cons ha .nil)) fun Hf H vs ds o Q hx rd h q => by
    match ds, h with
    | [x, .int i], h =>
      obtain ⟨v, w, S, S', e1, r1, r2⟩ := rdl2 rd rfl
      subst e1
      exact ⟨i, rep_int r2, os_cutA hx r1 h q⟩
theorem ce_s01 {e a : Expr} {oe oa : Opd} {p2 pos : Pos} (he : CO ca X e oe) (ha : CO ca X a oa) : CE ca X (.Subscript e (.Slice none (some a) none p2) pos) (eOp oS01 [oe, oa]) :=
  ce_op (es := [e, a]) (rl := rl2 fun x y H Q => ∃ i, y = .int i ∧ rSlZ X.K x none (some i) H Q) (fun σ H Q h => we_of (pe_slice sl_any (we_pe X e) po_none (po_some (we_pe X a))) h) (.cons he (.cons ha .nil)) fun Hf H vs ds o Q hx rd h q => by
    match ds, h with
    | [x, .int i], h =>
      obtain ⟨v, w, S, S', e1, r1, r2⟩ := rdl2 rd rfl
      subst e1
      exact ⟨i, rep_int r2, os_cutA hx r1 h q⟩
theorem ce_s11 {e a b : Expr} {i : Nat} {ma mb : ME} {p2 pos : Pos} (he : PE X e (tVar i)) (ha : CE ca X a ma) (hb : CE ca X b mb) : CE ca X (.Subscript e (.Slice (some a) (some b) none p2) pos) (eS11 i ma mb) := fun Hf H R σ st Q p h => by
  refine we_of (pe_slice sl_any he (po_some (we_pe X a)) (po_some (we_pe X b))) ?_
  unfold eS11 at h
  cases g : getS st i with
  | none => rw [g] at h; exact h.elim
  | some d0 =>
    rw [g] at h
    obtain ⟨x, ex, rx⟩ := p.at_ i d0 g
    refine ⟨x, ex, ha Hf H R σ st _ p ?_⟩
    have h0 : Post ca X Hf H (jn Em R) σ ((ma st).bind fun a st2 => (match a with
      | .int x => (mb st2).bind fun b st3 => (match b with
        | .int y => (match (getS st3 i).bind fun d => cutA (some x) (some y) [d] with
          | some o => .ok o.d st3
          | none => .fail)
        | _ => .fail)
      | _ => .fail)) Q := h
    clear h
    cases em : ma st with
    | fail => rw [em] at h0; exact h0
    | exc x0 st1 => rw [em] at h0; exact h0
    | ok d1 st1 =>
      rw [em] at h0
      intro Hf1 H1 P1 R1 v1 t1 p1
      cases d1 with
      | int k =>
        refine ⟨k, rep_int p1.pend, hb Hf1 H1 R1 σ st1 _ p1.drop ?_⟩
        have h1 : Post ca X Hf1 H1 (jn Em R1) σ ((mb st1).bind fun b st3 => (match b with
          | .int y => (match (getS st3 i).bind fun d => cutA (some k) (some y) [d] with
            | some o => .ok o.d st3
            | none => .fail)
          | _ => .fail)) Q := Post.from (less0 t1) h0
        clear h0
        cases eb : mb st1 with
        | fail => rw [eb] at h1; exact h1
        | exc x0 st2 => rw [eb] at h1; exact h1
        | ok d2 st2 =>
          rw [eb] at h1
          intro Hf2 H2 P2 R2 v2 t2 p2
          cases d2 with
          | int m =>
            refine ⟨m, rep_int p2.pend, ?_⟩
            have h2 : Post ca X Hf2 H2 (jn Em R2) σ (match (getS st2 i).bind fun d => cutA (some k) (some m) [d] with
              | some o => .ok o.d st2
              | none => .fail) Q := Post.from (less0 t2) h1
            clear h1
            cases g2 : getS st2 i with
            | none => rw [g2] at h2; exact h2.elim
            | some dx =>
              rw [g2] at h2
              obtain ⟨x2, ex2, rx2⟩ := p2.at_ i dx g2
              rw [ex] at ex2
              cases ex2
              cases g3 : cutA (some k) (some m) [dx] with
              | none => simp only [Option.bind_some, g3] at h2; exact h2.elim
              | some o =>
                simp only [Option.bind_some, g3] at h2
                exact os_cutA p2.w.ex rx2 g3 (outQ_of p2 h2 fun b q => .inr q)
          | _ => exact h1.elim
      | _ => exact h0.elim

end
end DL

/-! DL32: classmethods called; a class at a slot called; calls and instances made by FnR. -/
namespace DL
open PySem L2 PyProof.Rows
section
variable {ca : Nat → Addr} {Hf H Hf1 H1 Hf2 H2 : Hp} {S P P1 P2 : Rg} {R R1 R2 : Nat → Rg} {σ : L2.St} {st : Sl} {v : V} {d : D} {vs : List V} {ds : List D} {X : Cx} {L : List Nat}
theorem run_makeG {CX : CXT} {k : Nat} {f C : Addr} {sp : Sp} {E : XK} {pins : List (Addr × Obj)} {s : Shared} {Q : VK} {us : List Value}
    (M : Mk X.K C f) (F : FnG X.prog X.w X.K X.mg X.base CX k f sp) (hr : RoomG (k + 1) X.A) (hx : PassesAt CX X σ E) (I : Inv X pins σ H s) (r : Vals vs us)
    (h : ∀ x dx, H x = none → H dx = none → dx ≠ x → sp (.ref x :: vs) (upd (upd H dx (.own x)) x (.ins C dx [])) (fun v H2 => v = .non ∧ Q (.ref x) H2) E) : wpAny (model X.prog X.w) X.A (call (.ref C) us) (EP X pins σ Q) X.xe s := by
  have wish := h (s.heap.objs.size + 1) s.heap.objs.size (I.hok.fresh (Nat.le_succ _)) (I.hok.fresh (Nat.le_refl _)) (Nat.ne_of_lt (Nat.lt_succ_self _))
  have J := Inv.made (C := C) I
  have rs : Vals (V.ref (s.heap.objs.size + 1) :: vs) (Value.ref (s.heap.objs.size + 1) :: us) := .cons rfl r
  refine wpAny_call (make_map (f := f) I.kIn M.makes M.init (beq_iff_eq.mp M.fn) (codeAny_mono (F _ X.stack _ _ _ _ _ E (hr.make C us []) (J.env0.make C us []) rs wish) fun res s' got => ?_))
  cases res with
  | error e => exact hx pins _ _ e s' J got
  | ok fl => cases fl with
    | ret u =>
      obtain ⟨v, H', I3, rv, ev, q3⟩ := J.after got
      subst ev
      exact ⟨rv, ⟨V.ref (s.heap.objs.size + 1), H', I3, rfl, q3⟩⟩
    | next => exact got.elim
    | brk => exact got.elim
    | cont => exact got.elim
theorem run_cmS {CX : CXT} {k : Nat} {g q C : Addr} {sp : Sp} {E : XK} {Q : VK} {us : List Value} {vs : List V} {pins : List (Addr × Obj)} {s : Shared} (F : FnG X.prog X.w X.K X.mg X.base CX k g sp) (hr : RoomG k X.A) (hx : PassesAt CX X σ E)
    (I : Inv X ((q, PySem.W.methodObj (.ref g) (.ref C)) :: pins) σ H s) (r : Vals vs us) (h : sp (.ref C :: vs) H Q E) : wpAny (model X.prog X.w) X.A (call (.ref q) us) (EP X pins σ Q) X.xe s := by
  have z : wpAny (model X.prog X.w) X.A (call (.ref q) us) (EP X ((q, PySem.W.methodObj (.ref g) (.ref C)) :: pins) σ Q) X.xe s :=
    wpAny_call (PySem.W.method_call (ClX.pin_at I)
      (run_fnRS (us := .ref C :: us) (vs := .ref C :: vs) F hr hx I (.cons rfl r) h))
  exact thn z fun _ _ y => ClX.unpinE y
/-- C.m(e, ..), m a classmethod -/
theorem ce_cmth {k C : Nat} {mc : Value} {pr g : Addr} {nm x : Str} {xp : Pos} {e : Expr} {es : List Expr} {m : MF} {ms : MA} {apos pos : Pos} {pl : Sem Bool} (hg : Gl X x) (hmx : X.mg x = some (.ref (ca C))) (r : ClX.CRead X.K (ca C) mc) (c : ClX.CMet X.K (ca C) mc nm pr g)
    (F : FnG X.prog X.w X.K X.mg X.base (L2.CX X.prog X.w) k g (spM ca X.K m)) (hr : RoomG k X.A) (ha : CL ca X (e :: es) ms) (hst : NoStar (e :: es)) (ht : MForm X (.Name x xp) nm (e :: es) apos pos pl := by exact rfl) (hdb : (x == ("__debug__" : Str)) = false := by decide) (hpl : (backTo pos (starEach es X.env)).any (·.1) = false := by rfl) :
    CE ca X (.Call (.Attribute (.Name x xp) nm apos) (e :: es) [] pos) (eCall m (aCons (eC (.cls C)) ms)) := fun Hf H R σ st Q p h => by
  have hw : Wa X (e :: es) σ H fun vs H1 => spM ca X.K m (.ref (ca C) :: vs) H1 Q (fun cls dd H' => wX X cls dd σ H') := by
    refine wa_wl (fun e' r' q => noStar_suf hst e' r' q _) (ha Hf H R σ st _ p ?_)
    unfold eCall aCons eC at h
    dsimp only [Res.bind] at h
    cases e1 : ms st with
    | fail => rw [e1] at h; exact h
    | exc y st1 => rw [e1] at h; exact h
    | ok ds st1 =>
      rw [e1] at h
      intro Hf1 H1 P1 R1 vs t1 p1
      have p2 : PR ca X.K Hf1 H1 P1 (RepL ca X.K Hf1 H1 P1 (.ref (ca C) :: vs) (.cls C :: ds)) R1 σ st1 := p1.imp fun q => .cons (S1 := Em) (S2 := P1) .cls q (fun _ z => z.elim) (fun _ z => z) fun _ z _ => z
      exact ⟨Hf1, P1, .cls C :: ds, p2.pend, p2.w.mono fun b q => .inl q, postC_of p2 (Post.from t1 h)⟩
  intro pins s I
  have ho : PE X (.Name x xp) (tC (.ref (ca C))) := pe_glob hg hmx rfl hdb
  refine PySem.W.methodCall_KW (pl := pl) (thn (ho.run pins s σ H (fun v H1 => v = .ref (ca C) ∧ H1 = H) I ⟨rfl, rfl⟩) fun u s1 ⟨v, H1, I1, rx, ev, eh⟩ => ?_) ht
  subst ev eh
  obtain rfl : u = Value.ref (ca C) := rx
  refine ClX.getmethcm_ok I1 r c fun s2 I2 => ?_
  refine ClX.callwith_cm I2 (ClX.base_none I1 (Nat.le_refl _)) c.fi
    (thn (hw pos _ s2 I2) fun us s3 ⟨vs, H2, I3, rv, q2⟩ => ⟨⟨ClX.pin_at I3, I3.kIn⟩, ?_⟩) (hst.1 _) hpl
  exact run_cmS F hr (passAt (takes_wX X) σ) I3 rv q2
/-- cls(e, ..), cls a slot that holds the class C -/
theorem ce_makeV {k C i : Nat} {f : Addr} {x : Str} {p pos : Pos} {e : Expr} {es : List Expr} {m : MF} {ms : MA} (M : Mk X.K (ca C) f) (F : FnG X.prog X.w X.K X.mg X.base (L2.CX X.prog X.w) k f (spM ca X.K m)) (hr : RoomG (k + 1) X.A) (hN : X.N[i]? = some x) (hv : Vis X.env.scope x)
    (ha : CL ca X (e :: es) ms) (hst : NoStar (e :: es)) (hdb : (x == ("__debug__" : Str)) = false := by decide) (hcd : (x == ("__classdict__" : Str)) = false := by decide) (hpl : (backTo pos (starEach es X.env)).any (·.1) = false := by rfl) :
    CE ca X (.Call (.Name x p) (e :: es) [] pos) (eMakeV C i m ms) := fun Hf H R σ st Q pr h => by
  unfold eMakeV at h
  cases eg : getS st i with
  | none => rw [eg] at h; exact h.elim
  | some d0 =>
    rw [eg] at h
    cases d0 with
    | cls C' =>
      change Post ca X Hf H _ σ (if C' = C then _ else .fail) Q at h
      by_cases hc : C' = C
      · rw [if_pos hc] at h
        subst hc
        obtain ⟨v0, ev0, rv⟩ := pr.at_ i _ eg
        cases rv
        have hw : Wa X (e :: es) σ H fun vs H1 => ∀ x dx, H1 x = none → H1 dx = none → dx ≠ x → spM ca X.K m (.ref x :: vs) (upd (upd H1 dx (.own x)) x (.ins (ca C') dx [])) (fun v H2 => v = .non ∧ Q (.ref x) H2) (fun cls dd H' => wX X cls dd σ H') := by
          refine wa_wl (fun e' r' q => noStar_suf hst e' r' q _) (ha Hf H R σ st _ pr ?_)
          unfold eMake at h
          cases e1 : ms st with
          | fail => rw [e1] at h; exact h
          | exc y st1 => rw [e1] at h; exact h
          | ok ds st1 =>
            rw [e1] at h
            intro Hf1 H1 P1 R1 vs t1 p1 x dx n1 n2 n3
            exact postC_make p1 n1 n2 n3 (Post.from t1 h)
        intro pins s I
        refine wpAny_Call_Name_kw (thn ((pe_var (pos := p) hN hv hdb hcd).run pins s σ H
          (fun v H1 => v = .ref (ca C') ∧ H1 = H) I ⟨.ref (ca C'), ev0, rfl, rfl⟩) fun u s1 ⟨v, H1, I1, r1, q1, q2⟩ => ?_)
        subst q1 q2
        cases r1
        refine PySem.W.callWith_K (h₀ := X.base) I.ok.mod.kin M.kp
          (thn (hw pos pins s1 I1) fun us s2 ⟨vs, H2, I2, r, q⟩ => ⟨I2.kIn, ?_⟩) (hst.1 _) hpl
        exact run_makeG M F hr (passAt (takes_wX X) σ) I2 r q
      · rw [if_neg hc] at h; exact h.elim
    | _ => exact h.elim
/-- f(e, ..), by FnR -/
theorem ce_callR {k : Nat} {f : Addr} {x : Str} {p pos : Pos} {e : Expr} {es : List Expr} {m : MF} {ms : MA} (F : FnG X.prog X.w X.K X.mg X.base (L2.CX X.prog X.w) k f (spM ca X.K m)) (hr : RoomG k X.A) (hg : Gl X x) (hm : X.mg x = some (.ref f))
    (hk : PySem.W.keepIn X.K (.ref f) = true) (ha : CL ca X (e :: es) ms) (hst : NoStar (e :: es)) (hdb : (x == ("__debug__" : Str)) = false := by decide) (hpl : (backTo pos (starEach es X.env)).any (·.1) = false := by rfl) :
    CE ca X (.Call (.Name x p) (e :: es) [] pos) (eCall m ms) := fun Hf H R σ st Q pr h => by
  have hw : Wa X (e :: es) σ H fun vs H1 => spM ca X.K m vs H1 Q (fun cls dd H' => wX X cls dd σ H') := by
    refine wa_wl (fun e' r' q => noStar_suf hst e' r' q _) (ha Hf H R σ st _ pr ?_)
    unfold eCall at h
    cases e1 : ms st with
    | fail => rw [e1] at h; exact h
    | exc x st1 => rw [e1] at h; exact h
    | ok ds st1 =>
      rw [e1] at h
      intro Hf1 H1 P1 R1 vs t1 p1
      exact ⟨Hf1, P1, ds, p1.pend, p1.w.mono fun b q => .inl q, postC_of p1 (Post.from t1 h)⟩
  intro pins s I
  refine wpAny_Call_Name_kw (ld_glob I hg hm ?_ hdb)
  refine PySem.W.callWith_K (h₀ := X.base) I.ok.mod.kin hk
    (thn (hw pos pins s I) fun us s1 ⟨vs, H1, I1, r, q⟩ => ⟨I1.kIn, ?_⟩) (hst.1 _) hpl
  exact wpAny_call (run_fnRS F hr (passAt (takes_wX X) σ) I1 r q)
end
end DL

/-! DL33: repr of what is no container; texts compared. -/
namespace DL
open PySem L2 PyProof.Rows
def rRepr0 : List V → Hp → VK → Prop := fun xs H Q => (∃ b : Bool, xs = [.bl b] ∧ Q (.str (if b then "True" else "False")) H) ∨ (xs = [.non] ∧ Q (.str "None") H) ∨ ∃ i : Int, xs = [.int i] ∧ i.natAbs.log2 < 1920 ∧ Q (.str (toString i)) H
def oRepr0 : List D → Option Out
  | [.bl b] => some (.val (.str (if b then "True" else "False")))
  | [.non] => some (.val (.str "None"))
  | [.int i] => if i.natAbs.log2 < 1920 then some (.val (.str (toString i))) else none
  | _ => none
section
variable {ca : Nat → Addr} {K : PySem.W.Frag} {Hf H Hf1 H1 : Hp} {S : Rg} {X : Cx} {v : V} {d : D}
theorem ce_revA {e : Expr} {oe : Opd} {k : Nat} {p1 p2 p3 pos : Pos} (he : CO ca X e oe) : CE ca X (.Subscript e (.Slice none none (some (.UnaryOp .USub (.Constant (.int 1) k p1) p2)) p3) pos) (eOp oRevA [oe]) :=
  ce_op (es := [e]) (rl := rl1 fun x H Q => ∃ a xs, x = .ref a ∧ ((SqL X.K H a xs ∧ ∀ p, H p = none → Q (.ref p) (upd H p (.lst xs.reverse))) ∨ (SqT X.K H a xs ∧ ∀ p, H p = none → Q (.ref p) (upd H p (.tup xs.reverse)))))
    (fun σ H Q h => we_of (pe_revA (we_pe X e)) h) (.cons he .nil) fun Hf H vs ds o Q hx rd h q => by
    obtain ⟨x, rfl⟩ : ∃ x, ds = [x] := by
      match ds, h with
      | [], h => cases h
      | [x], _ => exact ⟨x, rfl⟩
      | a :: b :: r, h => cases a <;> cases h
    cases x with
    | tup xs =>
      obtain ⟨v, S, e1, r1⟩ := rdl1 rd rfl
      subst e1
      obtain ⟨a, vs, rfl, e2, r3⟩ := rep_tup hx r1
      dsimp only [oRevA] at h
      split at h
      · cases h
        exact ⟨a, vs, rfl, .inr ⟨.inl (.inl e2), fun p hp => q p _ hp (repL_rev r3)⟩⟩
      · cases h
    | lst o xs =>
      obtain ⟨rfl, hc, hl⟩ := newLc_some (show newLc xs.reverse = some _ from h)
      obtain ⟨v, S, e1, r1⟩ := rdl1 rd rfl
      subst e1
      obtain ⟨a, vs, T, rfl, e2, r3⟩ := rep_lstItems hx r1 (show lstItems (.lst o xs) = some xs from rfl)
      exact ⟨a, vs, rfl, .inl ⟨e2, fun p hp => q p _ hp (repL_rev (repL_cold r3 (colds_rev hc)))⟩⟩
    | scr xs =>
      obtain ⟨rfl, hc, hl⟩ := newLc_some (show newLc (xs.map D.int).reverse = some _ from h)
      obtain ⟨v, S, e1, r1⟩ := rdl1 rd rfl
      subst e1
      obtain ⟨a, vs, T, rfl, e2, r3⟩ := rep_lstItems hx r1 (show lstItems (.scr xs) = some (xs.map D.int) from rfl)
      exact ⟨a, vs, rfl, .inl ⟨e2, fun p hp => q p _ hp (repL_rev (repL_cold r3 (colds_rev hc)))⟩⟩
    | _ => cases h
theorem call_repr0 : CallR X (.builtin "repr") rRepr0 := by
  intro pins s σ H xs us Q I r h
  rcases h with ⟨b, rfl, q⟩ | ⟨rfl, q⟩ | ⟨i, rfl, hz, q⟩
  · obtain ⟨u, rfl, rfl⟩ := vals1 r
    exact PySem.P.repr_of_bool ⟨.str _, H, I.tok _, ⟨_, rfl⟩, q⟩
  · obtain ⟨u, rfl, rfl⟩ := vals1 r
    exact PySem.P.repr_of_none ⟨.str _, H, I.tok _, ⟨_, rfl⟩, q⟩
  · obtain ⟨u, rfl, t, rfl⟩ := vals1 r
    exact PySem.P.repr_of_int hz ⟨.str _, H, I.tok _, ⟨_, rfl⟩, q⟩
theorem os_repr0 : OpS ca K rRepr0 oRepr0 := fun Hf H vs ds o Q hx rd h q => by
  match ds, h with
  | [.bl b], h =>
    obtain ⟨v, S, e1, r1⟩ := rdl1 rd rfl
    subst e1
    cases h
    exact .inl ⟨b, by rw [rep_bl r1], q _ .str⟩
  | [.non], h =>
    obtain ⟨v, S, e1, r1⟩ := rdl1 rd rfl
    subst e1
    cases h
    exact .inr (.inl ⟨by rw [rep_non r1], q _ .str⟩)
  | [.int i], h =>
    obtain ⟨v, S, e1, r1⟩ := rdl1 rd rfl
    subst e1
    dsimp only [oRepr0] at h
    split at h
    · rename_i hz
      cases h
      exact .inr (.inr ⟨i, by rw [rep_int r1], hz, q _ .str⟩)
    · cases h
end
theorem repr_b {b : Bool} : oRepr0 [.bl b] = some (.val (.str (if b then "True" else "False"))) := rfl
theorem repr_n : oRepr0 [.non] = some (.val (.str "None")) := rfl
theorem tf_eq (a b : Bool) : pNe (.str (if a then "True" else "False")) (.str (if b then "True" else "False")) = some (.bl (!decide (a = b))) := by
  cases a <;> cases b <;> kernel_rfl
theorem tf_eq' (a b : Bool) : pEq (.str (if a then "True" else "False")) (.str (if b then "True" else "False")) = some (.bl (decide (a = b))) := by
  cases a <;> cases b <;> kernel_rfl
theorem oS10_l {o : Bool} {p : List Int} {k : Nat} (h : k ≤ p.length) (hp : p.length ≤ 1000) {j : Int} (hj : j = (k : Int)) : oS10 [.lst o (nums p), .int j] = some (.newL (nums (p.drop k))) := oSl10_l (o := o) h hp hj
theorem oS01_scr (l : List Int) (j : Int) (hl : l.length ≤ 63) : ∃ k, oS01 [.scr l, .int j] = some (.newL (nums k)) := oSl01_scr l j hl
theorem cutD_nums (l : List Int) (lo hi : Option Int) : cutD (nums l) lo hi = nums ((l.drop (HT.sIx l.length 0 lo)).take (HT.sIx l.length l.length hi - HT.sIx l.length 0 lo)) := by
  unfold cutD
  rw [nums_len]
  unfold nums
  rw [List.map_take, List.map_drop]
theorem s10_n {o : Bool} {p : List Int} {j : Int} {k : Nat} (hj : j = (k : Int)) (hp : p.length ≤ 16777216) : oS10 [.lst o (nums p), .int j] = some (.newL (nums (p.drop k))) := by
  subst hj
  show newLc (cutD (nums p) (some (k : Int)) none) = _
  rw [cutD_nums]
  have e1 : HT.sIx p.length 0 (some (k : Int)) = min k p.length := by
    show (if (k : Int) < 0 then ((k : Int) + (p.length : Int)).toNat else min (k : Int).toNat p.length) = _
    rw [if_neg (by omega), Int.toNat_natCast]
  have e2 : HT.sIx p.length p.length none = p.length := rfl
  rw [e1, e2]
  have e3 : (p.drop (min k p.length)).take (p.length - min k p.length) = p.drop k := by
    by_cases h : k ≤ p.length
    · rw [Nat.min_eq_left h, List.take_of_length_le (by rw [List.length_drop]; omega)]
    · rw [Nat.min_eq_right (by omega), List.drop_length, List.take_nil, List.drop_of_length_le (by omega)]
  rw [e3]
  unfold newLc
  rw [nums_colds, nums_len, List.length_drop]
  exact if_pos (by simp; omega)
theorem s01_n {o : Bool} {p : List Int} {j : Int} {k : Nat} (hj : j = (k : Int)) (hp : p.length ≤ 16777216) : oS01 [.lst o (nums p), .int j] = some (.newL (nums (p.take k))) := by
  subst hj
  show newLc (cutD (nums p) none (some (k : Int))) = _
  rw [cutD_nums]
  have e1 : HT.sIx p.length p.length (some (k : Int)) = min k p.length := by
    show (if (k : Int) < 0 then ((k : Int) + (p.length : Int)).toNat else min (k : Int).toNat p.length) = _
    rw [if_neg (by omega), Int.toNat_natCast]
  have e2 : HT.sIx p.length 0 none = 0 := rfl
  rw [e1, e2, List.drop_zero, Nat.sub_zero]
  have e3 : p.take (min k p.length) = p.take k := by
    by_cases h : k ≤ p.length
    · rw [Nat.min_eq_left h]
    · rw [Nat.min_eq_right (by omega), List.take_length, List.take_of_length_le (by omega)]
  rw [e3]
  unfold newLc
  rw [nums_colds, nums_len, List.length_take]
  exact if_pos (by simp; omega)
theorem add_l {o z : Bool} {p q : List Int} (h : p.length + q.length ≤ 16777216) : oAdd [.lst o (nums p), .lst z (nums q)] = some (.newL (nums (p ++ q))) := by
  show newLc (nums p ++ nums q) = _
  rw [← nums_app]
  unfold newLc
  rw [nums_colds, nums_len, List.length_append]
  exact if_pos (by simp; omega)
theorem rev_n {o : Bool} {p : List Int} (h : p.length ≤ 16777216) : oRevA [.lst o (nums p)] = some (.newL (nums p.reverse)) := by
  show newLc (nums p).reverse = _
  rw [nums_rev]
  unfold newLc
  rw [nums_colds, nums_len, List.length_reverse]
  exact if_pos (by simp; omega)
end DL

/-! DL34: the splitting into descending runs; the one normal word of an effect. -/
namespace Nw
open DL
def runDrop (b : Int) : List Int → List Int
  | [] => []
  | x :: r => if x = b then runDrop (b - 1) r else x :: r
theorem runDrop_len : ∀ (l : List Int) (b : Int), (runDrop b l).length ≤ l.length
  | [], _ => Nat.le_refl _
  | x :: r, b => by
    rw [runDrop]
    split
    · exact Nat.le_trans (runDrop_len r _) (Nat.le_succ _)
    · exact Nat.le_refl _
def lawN : Nat → Int → List Int → Bool
  | _, _, [] => true
  | 0, _, _ :: _ => false
  | n + 1, last, x :: r => if x ≤ last then false else lawN n x (runDrop (x - 1) r)
def wordFrom : Nat → List Nat → List Nat
  | _, [] => []
  | m, c :: ds => dn m c ++ wordFrom (m + 1) ds
theorem wordFrom_snoc : ∀ (ds : List Nat) (m c : Nat), wordFrom m (ds ++ [c]) = wordFrom m ds ++ dn (m + ds.length) c
  | [], m, c => by simp [wordFrom]
  | d :: ds, m, c => by
    rw [List.cons_append, wordFrom, wordFrom, wordFrom_snoc ds (m + 1) c, List.append_assoc, List.length_cons, show m + 1 + ds.length = m + (ds.length + 1) by omega]
theorem nfR_word : ∀ cs : List Nat, nfR cs = wordFrom 0 cs.reverse
  | [] => rfl
  | c :: r => by
    rw [List.reverse_cons, wordFrom_snoc, ← nfR_word r, List.length_reverse, Nat.zero_add]
    rfl
/-- the counts from m on are counts -/
def okF (m : Nat) : List Nat → Prop
  | [] => True
  | c :: ds => c ≤ m + 1 ∧ okF (m + 1) ds
theorem okF_snoc : ∀ (ds : List Nat) (m c : Nat), okF m (ds ++ [c]) ↔ okF m ds ∧ c ≤ m + ds.length + 1
  | [], m, c => by simp [okF]
  | d :: ds, m, c => by
    rw [List.cons_append, okF, okF, okF_snoc ds (m + 1) c, List.length_cons, show m + 1 + ds.length + 1 = m + (ds.length + 1) + 1 by omega]
    exact ⟨fun ⟨a, b, e⟩ => ⟨⟨a, b⟩, e⟩, fun ⟨⟨a, b⟩, e⟩ => ⟨a, b, e⟩⟩
theorem okC_okF : ∀ cs : List Nat, okC cs ↔ okF 0 cs.reverse
  | [] => by simp [okC, okF]
  | c :: r => by
    rw [List.reverse_cons, okF_snoc, ← okC_okF r, List.length_reverse, okC]
    constructor
    · exact fun ⟨a, b⟩ => ⟨b, by omega⟩
    · exact fun ⟨a, b⟩ => ⟨by omega, a⟩
theorem runDrop_block : ∀ (c m : Nat) (r : List Int), c ≤ m + 1 → runDrop ((m : Int) + 1) (up1 (dn m c) ++ r) = runDrop ((m : Int) + 1 - (c : Int)) r
  | 0, m, r, _ => by
    show runDrop _ r = _
    rw [show ((m : Int) + 1 - ((0 : Nat) : Int)) = (m : Int) + 1 by omega]
  | c + 1, 0, r, h => by
    have : c = 0 := by omega
    subst this
    show runDrop (((0 : Nat) : Int) + 1) ((((0 : Nat) : Int) + 1) :: (up1 (dn (0 - 1) 0) ++ r)) = _
    rw [runDrop, if_pos rfl]
    rfl
  | c + 1, m + 1, r, h => by
    show runDrop (((m + 1 : Nat) : Int) + 1) ((((m + 1 : Nat) : Int) + 1) :: (up1 (dn m c) ++ r)) = _
    rw [runDrop, if_pos rfl, show (((m + 1 : Nat) : Int) + 1 - 1) = (m : Int) + 1 by omega, runDrop_block c m r (by omega)]
    congr 1
    omega
theorem runDrop_keep {b : Int} {r : List Int} (h : ∀ x ∈ r.head?, x ≠ b) : runDrop b r = r := by
  cases r with
  | nil => rfl
  | cons x r => rw [runDrop, if_neg (h x rfl)]
theorem word_head : ∀ (ds : List Nat) (m : Nat), okF m ds → ∀ x ∈ (up1 (wordFrom m ds)).head?, (m : Int) < x
  | [], m, _, x, h => by cases h
  | 0 :: ds, m, ok, x, h => by
    have := word_head ds (m + 1) ok.2 x h
    omega
  | (c + 1) :: ds, m, ok, x, h => by
    cases m with
    | zero =>
      have e : ((0 : Nat) : Int) + 1 = x := Option.some.inj h
      omega
    | succ m =>
      have e : ((m + 1 : Nat) : Int) + 1 = x := Option.some.inj h
      omega
theorem lawN_word : ∀ (ds : List Nat) (m n : Nat) (last : Int), okF m ds → last ≤ (m : Int) → (wordFrom m ds).length ≤ n → lawN n last (up1 (wordFrom m ds)) = true
  | [], m, n, last, _, _, _ => by cases n <;> rfl
  | 0 :: ds, m, n, last, ok, hl, hn => lawN_word ds (m + 1) n last ok.2 (by omega) hn
  | (c + 1) :: ds, m, n, last, ok, hl, hn => by
    have hd : ∃ t, dn m (c + 1) = m :: t ∧ up1 t = up1 (dn (m - 1) c) := by
      cases m with
      | zero => exact ⟨_, rfl, rfl⟩
      | succ m => exact ⟨_, rfl, rfl⟩
    obtain ⟨t, e1, e2⟩ := hd
    rw [wordFrom, e1, List.cons_append] at hn ⊢
    cases n with
    | zero => simp at hn
    | succ n =>
      have e3 : up1 (m :: (t ++ wordFrom (m + 1) ds)) = ((m : Int) + 1) :: (up1 (dn (m - 1) c) ++ up1 (wordFrom (m + 1) ds)) := by
        rw [← e2, ← up1_app]; rfl
      rw [e3, lawN, if_neg (by omega)]
      have hh := word_head ds (m + 1) ok.2
      have e4 : runDrop ((m : Int) + 1 - 1) (up1 (dn (m - 1) c) ++ up1 (wordFrom (m + 1) ds)) = up1 (wordFrom (m + 1) ds) := by
        cases m with
        | zero =>
          have : c = 0 := by have := ok.1; omega
          subst this
          exact runDrop_keep fun x hx => by have := hh x hx; omega
        | succ m =>
          rw [show (((m + 1 : Nat) : Int) + 1 - 1) = (m : Int) + 1 by omega]
          show runDrop _ (up1 (dn m c) ++ _) = _
          rw [runDrop_block c m _ (by have := ok.1; omega)]
          exact runDrop_keep fun x hx => by have := hh x hx; omega
      rw [e4]
      refine lawN_word ds (m + 1) n _ ok.2 (by omega) ?_
      rw [List.length_cons, List.length_append] at hn
      omega
/-- what a run takes -/
theorem runDrop_split : ∀ (r : List Int) (m : Nat), (∀ x ∈ r, 1 ≤ x) → ∃ (c : Nat) (r' : List Int), c ≤ m + 1 ∧ r = up1 (dn m c) ++ r' ∧ runDrop ((m : Int) + 1) r = r'
  | [], m, _ => ⟨0, [], by omega, rfl, rfl⟩
  | x :: r, m, h => by
    by_cases hx : x = (m : Int) + 1
    · subst hx
      cases m with
      | zero =>
        refine ⟨1, r, by omega, rfl, ?_⟩
        rw [runDrop, if_pos rfl]
        refine runDrop_keep fun y hy => ?_
        have : y ∈ r := List.mem_of_mem_head? hy
        have := h y (List.mem_cons_of_mem _ this)
        omega
      | succ m =>
        obtain ⟨c, r', h1, h2, h3⟩ := runDrop_split r m fun y hy => h y (List.mem_cons_of_mem _ hy)
        refine ⟨c + 1, r', by omega, ?_, ?_⟩
        · rw [h2]; rfl
        · rw [runDrop, if_pos rfl, show (((m + 1 : Nat) : Int) + 1 - 1) = (m : Int) + 1 by omega]
          exact h3
    · exact ⟨0, x :: r, by omega, rfl, by rw [runDrop, if_neg hx]⟩
theorem wordFrom_zeros : ∀ (k m : Nat) (ds : List Nat), wordFrom m (List.replicate k 0 ++ ds) = wordFrom (m + k) ds
  | 0, m, ds => rfl
  | k + 1, m, ds => by
    rw [List.replicate_succ, List.cons_append, wordFrom, wordFrom_zeros k (m + 1) ds, show m + 1 + k = m + (k + 1) by omega]
    rfl
theorem okF_zeros : ∀ (k m : Nat) (ds : List Nat), okF (m + k) ds → okF m (List.replicate k 0 ++ ds)
  | 0, m, ds, h => h
  | k + 1, m, ds, h => ⟨by omega, okF_zeros k (m + 1) ds (by rw [show m + 1 + k = m + (k + 1) by omega]; exact h)⟩
theorem word_lawN (w : Nat) : ∀ (n : Nat) (ss : List Int) (m : Nat), m ≤ w → okS ((w : Int) + 1) ss → lawN n (m : Int) ss = true → ∃ ds, ds.length = w - m ∧ okF m ds ∧ ss = up1 (wordFrom m ds)
  | n, [], m, hm, _, _ => ⟨List.replicate (w - m) 0, by simp, by have := okF_zeros (w - m) m [] trivial; rwa [List.append_nil] at this, by
      have := wordFrom_zeros (w - m) m []
      rw [List.append_nil] at this
      rw [this]; rfl⟩
  | 0, x :: r, m, _, _, h => by cases h
  | n + 1, x :: r, m, hm, ok, h => by
    rw [lawN] at h
    by_cases hx : x ≤ (m : Int)
    · rw [if_pos hx] at h; cases h
    rw [if_neg hx] at h
    obtain ⟨h1, h2⟩ := ok x List.mem_cons_self
    obtain ⟨k, hk⟩ : ∃ k : Nat, x = (k : Int) + 1 := ⟨(x - 1).toNat, by omega⟩
    subst hk
    have okr : okS ((w : Int) + 1) r := fun y hy => ok y (List.mem_cons_of_mem _ hy)
    have step : ∃ (c : Nat) (r' : List Int), c ≤ k ∧ r = up1 (dn (k - 1) c) ++ r' ∧ runDrop ((k : Int) + 1 - 1) r = r' := by
      cases k with
      | zero => exact ⟨0, r, by omega, rfl, runDrop_keep fun y hy => by have := okr y (List.mem_of_mem_head? hy); omega⟩
      | succ k =>
        obtain ⟨c, r', a, b, e⟩ := runDrop_split r k fun y hy => (okr y hy).1
        exact ⟨c, r', by omega, b, by rw [show (((k + 1 : Nat) : Int) + 1 - 1) = (k : Int) + 1 by omega]; exact e⟩
    obtain ⟨c, r', hc, e1, e2⟩ := step
    rw [e2] at h
    have h' : lawN n ((k + 1 : Nat) : Int) r' = true := by rw [show ((k + 1 : Nat) : Int) = (k : Int) + 1 by omega]; exact h
    obtain ⟨ds, l1, l2, l3⟩ := word_lawN w n r' (k + 1) (by omega) (fun y hy => okr y (by rw [e1]; exact List.mem_append_right _ hy)) h'
    refine ⟨List.replicate (k - m) 0 ++ (c + 1) :: ds, ?_, ?_, ?_⟩
    · rw [List.length_append, List.length_replicate, List.length_cons, l1]; omega
    · refine okF_zeros _ _ _ ⟨by omega, ?_⟩
      rw [show m + (k - m) + 1 = k + 1 by omega]; exact l2
    · rw [wordFrom_zeros, show m + (k - m) = k by omega, wordFrom, up1_app, ← l3, e1]
      cases k with
      | zero =>
        have : c = 0 := by omega
        subst this; rfl
      | succ k => rfl
/-- normal: the word of its counts -/
def Nrm (w : Nat) (ss : List Int) : Prop := ∃ cs, cs.length + 1 = w ∧ okC cs ∧ ss = up1 (nfR cs)
theorem nrm_iff {w : Nat} (hw : 1 ≤ w) {ss : List Int} (h : okS w ss) {n : Nat} (hn : ss.length ≤ n) : lawN n 0 ss = true ↔ Nrm w ss := by
  constructor
  · intro e
    obtain ⟨ds, l1, l2, l3⟩ := word_lawN (w - 1) n ss 0 (by omega) (by rw [show (((w - 1 : Nat) : Int) + 1) = (w : Int) by omega]; exact h) e
    refine ⟨ds.reverse, by rw [List.length_reverse]; omega, (okC_okF _).mpr (by rw [List.reverse_reverse]; exact l2), ?_⟩
    rw [nfR_word, List.reverse_reverse]
    exact l3
  · rintro ⟨cs, h1, h2, rfl⟩
    rw [nfR_word] at hn ⊢
    refine lawN_word _ 0 n 0 ((okC_okF cs).mp h2) (by omega) ?_
    unfold up1 at hn
    rwa [List.length_map] at hn
theorem nrm_inj {w : Nat} {a b : List Int} (ha : Nrm w a) (hb : Nrm w b) (h : runL a (desc w) = runL b (desc w)) : a = b := by
  obtain ⟨cs, a1, a2, rfl⟩ := ha
  obtain ⟨ds, b1, b2, rfl⟩ := hb
  rw [up1_run, up1_run] at h
  rw [pf_inj a2 b2 (by omega) (by omega) h]
end Nw

/-! DL35: calls with a slot lent, instances made, ==, len, the law's end, by FnG; repr of data. -/
namespace DL
open PySem L2 PyProof.Rows
section
variable {ca : Nat → Addr} {K : PySem.W.Frag} {Hf H Hf1 H1 Hf2 H2 : Hp} {S S1 S2 P P1 P2 : Rg} {R R1 R2 : Nat → Rg} {pp qq : Prop} {σ σ' : L2.St} {st st' : Sl} {v w : V} {d e : D} {vs : List V} {ds xs : List D} {X : Cx} {L : List Nat}
theorem ce_callLG {k : Nat} {f : Addr} {x : Str} {p pos : Pos} {e0 : Expr} {es : List Expr} (es1 fs : List Expr) (e : Expr) {i : Nat} {m : MF} {ms ns : MA} (F : FnG X.prog X.w X.K X.mg X.base (L2.CX X.prog X.w) k f (spM ca X.K m)) (hr : RoomG k X.A) (hg : Gl X x) (hm : X.mg x = some (.ref f))
    (hk : PySem.W.keepIn X.K (.ref f) = true) (ha : CL ca X es1 ms) (he : PE X e (tVar i)) (hbs : CL ca X fs ns) (hes : e0 :: es = es1 ++ e :: fs) (hst : NoStar (e0 :: es)) (hdb : (x == ("__debug__" : Str)) = false := by decide) (hpl : (backTo pos (starEach es X.env)).any (·.1) = false := by rfl) :
    CE ca X (.Call (.Name x p) (e0 :: es) [] pos) (eCallL m ms i ns) := fun Hf H R σ st Q pr h => by
  have hw : Wa X (e0 :: es) σ H fun vs H1 => spM ca X.K m vs H1 Q (fun cls dd H' => wX X cls dd σ H') := by
    refine wa_wl (fun e' r' q => noStar_suf hst e' r' q _) ?_
    rw [hes]
    exact lent_args (E := fun σ cls dd H' => wX X cls dd σ H') ha he hbs pr h rfl
  intro pins s I
  refine wpAny_Call_Name_kw (ld_glob I hg hm ?_ hdb)
  refine PySem.W.callWith_K (h₀ := X.base) I.ok.mod.kin hk
    (thn (hw pos pins s I) fun us s1 ⟨vs, H1, I1, r, q⟩ => ⟨I1.kIn, ?_⟩) (hst.1 _) hpl
  exact wpAny_call (run_fnRS F hr (passAt (takes_wX X) σ) I1 r q)
theorem ce_makeG {k C : Nat} {f : Addr} {x : Str} {p pos : Pos} {e : Expr} {es : List Expr} {m : MF} {ms : MA} (M : Mk X.K (ca C) f) (F : FnG X.prog X.w X.K X.mg X.base (L2.CX X.prog X.w) k f (spM ca X.K m)) (hr : RoomG (k + 1) X.A) (hg : Gl X x) (hm : X.mg x = some (.ref (ca C)))
    (ha : CL ca X (e :: es) ms) (hst : NoStar (e :: es)) (hdb : (x == ("__debug__" : Str)) = false := by decide) (hpl : (backTo pos (starEach es X.env)).any (·.1) = false := by rfl) :
    CE ca X (.Call (.Name x p) (e :: es) [] pos) (eMake C m ms) := fun Hf H R σ st Q pr h => by
  have hw : Wa X (e :: es) σ H fun vs H1 => ∀ x dx, H1 x = none → H1 dx = none → dx ≠ x → spM ca X.K m (.ref x :: vs) (upd (upd H1 dx (.own x)) x (.ins (ca C) dx [])) (fun v H2 => v = .non ∧ Q (.ref x) H2) (fun cls dd H' => wX X cls dd σ H') := by
    refine wa_wl (fun e' r' q => noStar_suf hst e' r' q _) (ha Hf H R σ st _ pr ?_)
    unfold eMake at h
    cases e1 : ms st with
    | fail => rw [e1] at h; exact h
    | exc x st1 => rw [e1] at h; exact h
    | ok ds st1 =>
      rw [e1] at h
      intro Hf1 H1 P1 R1 vs t1 p1 x dx n1 n2 n3
      exact postC_make p1 n1 n2 n3 (Post.from t1 h)
  intro pins s I
  refine wpAny_Call_Name_kw (ld_glob
      I hg hm ?_ hdb)
  refine PySem.W.callWith_K (h₀ := X.base) I.ok.mod.kin M.kp (thn (hw pos pins s I) fun us s1 ⟨vs, H1, I1, r, q⟩ => ⟨I1.kIn, ?_⟩) (hst.1 _) hpl
  exact run_makeG M F hr (passAt (takes_wX X) σ) I1 r q
/-- the call of __eq__, within the comparison -/
theorem eq_runG {CX : CXT} {k : Nat} {f : Addr} {sp : Sp} {E : XK} {A : Around} {pins : List (Addr × Obj)} {s : Shared} {a b : Addr} {Q : VK} (F : FnG X.prog X.w X.K X.mg X.base CX k f sp) (hr : RoomG k A) (hfr : A.frames = X.A.frames)
    (hx : PassesAt CX X σ E) (I : Inv X pins σ H s) (h : sp [.ref a, .ref b] H Q E) : wpAny (model X.prog X.w) A (call (.ref f) [.ref a, .ref b]) (EP X pins σ Q) X.xe s := by
  have e0 : Env0 X.prog X.w X.K X.mg X.base A X.stack s H
      := by
    have e := I.env0
    exact ⟨hfr.trans e.frames, e.mod, e.bs, e.bsz, e.funs, e.frf, e.hok, e.bare⟩
  have r2 : Vals [V.ref a, V.ref b] [Value.ref a, Value.ref b] :=
      .cons rfl (.cons rfl .nil)
  refine wpAny_call (codeAny_mono (F A X.stack s H _ _ Q E hr e0 r2 h) fun res s' got => ?_)
  cases res with
  | error e => exact hx pins _ _ e s' I got
  | ok fl => cases fl with
    | ret w => exact I.after got
    | next => exact got.elim
    | brk => exact got.elim
    | cont => exact got.elim
theorem rc_eqIG {CX : CXT} {k : Nat} {f C : Addr} {sp : Sp} {E : L2.St → XK} (F : FnG X.prog X.w X.K X.mg X.base CX k f sp) (c : OwnEqC X.K C f) (hr : RoomG (k + 1) X.A) (hx : ∀ σ, PassesAt CX X σ (E σ)) (neg : Bool)
    {pins : List (Addr × Obj)} {s : Shared} {x y : V} {u v : Value} {Q : VK} (I : Inv X pins σ H s) (rx : RelV x u) (ry : RelV y v) (h : rEqI neg C sp E σ x y H Q) :
    wpAny (model X.prog X.w) X.A (compareOp (if neg then .NotEq else .Eq) u v) (EP X pins σ Q) X.xe s := by
  obtain ⟨a, b, dx, dy, fs, gs, rfl, rfl, ha, hb', hs⟩ := h
  cases rx
  cases ry
  obtain ⟨mA, J, _⟩ :=
      ins_get I.hok ha
  obtain ⟨mB, J', _⟩ :=
      ins_get I.hok hb'
  cases neg with
  | false =>
    obtain ⟨od, J, _⟩ := J.look
    obtain ⟨od', J', _⟩ :=
        J'.look
    obtain ⟨m, hF⟩ := I.fr
    show wpAny _ _ (richCompare .Eq _ _) _ _ _
    refine PySem.W.cmp_K (op := .Eq) (tb := .ref C) hr.2.units0 hF I.ok.mod.kin J J'.type (by simp [PySem.W.notFirst]) c.eq c.fn ?_
    refine thn (eq_runG F (hr.mono (Nat.le_succ k)) rfl (hx σ) I hs) fun v s' ⟨vv, H', I', rv, kk, ev, q⟩ => ?_
    subst ev
    cases rv
    exact ⟨.bl kk, H', I', rfl, q⟩
  | true =>
    obtain ⟨of, nm, q, N, bs, hdct, sn, sub, ab, col, dd, k0, k1, k2, k3, k5, newId, hC, hN0, hN1, hN2, hf, hfc⟩ := c.ne
    obtain ⟨hp, g, dr, tk, os⟩ :=
        s
    have hk : X.K.In hp := I.kIn
    have hNs : hp.Ns N (hp.nsMap N) := .of_isNs (PySem.W.isNs_of_in hk hN0)
    have fin := eq_runG F (hr.in1) (show X.A.in1.frames = X.A.frames from rfl) (hx σ) I hs
    refine compareOp_ne_ownEq PySem.F.cmp_object ⟨_, of, nm, q, N, bs, hdct, sn, sub, ab, col, dd, k0, k1, k2, k3, k5, newId, _, _, J.obj, rfl, hk _ _ hC, hNs, ns_some hk hNs hN1, hk _ _ hf, hfc, PySem.F.cmp_object.mro, PySem.F.cmp_object.eq.lookup, PySem.W.nsMap_none_of_in hk hN0 hN2⟩ J'.obj rfl (Nat.lt_of_le_of_lt (Nat.le_add_right _ 0) ?_) ?_
    · have := hr.2.units
      omega
    · refine thn fin fun v s' ⟨vv, H', I', rv, kk, ev, q⟩ => ?_
      subst ev
      cases rv
      exact ⟨kk, rfl, .bl (!kk), H', I', rfl, q⟩
theorem ce_eqIG {k C : Nat} {f : Addr} {a b : Expr} {oa ob : Opd} {m : MF} {pos : Pos} {op : CmpOp} (neg : Bool) (hop : op = if neg then .NotEq else .Eq) (F : FnG X.prog X.w X.K X.mg X.base (L2.CX X.prog X.w) k f (spM ca X.K m)) (c : OwnEqC X.K (ca C) f) (hr : RoomG (k + 1) X.A)
    (ha : CO ca X a oa) (hbb : CO ca X b ob) : CE ca X (.Compare a [op] [b] pos) (eEqI neg C m oa ob) := fun Hf H R σ st Q p h => by
  have ho : ∀ (pins : List (Addr × Obj)) (s : Shared) (σ : L2.St) (H : Hp) (x y : V) (u v : Value) (Q : VK), Inv X pins σ H s → RelV x u → RelV y v → rEqI neg (ca C) (spM ca X.K m) (fun σ cls dd H' => wX X cls dd σ H') σ x y H Q →
      wpAny (model X.prog X.w) X.A (compareOp (if neg then .NotEq else .Eq) u v) (EP X pins σ Q) X.xe s := fun pins s σ H x y u v Q I rx ry h => rc_eqIG F c hr (fun σ => passAt (takes_wX X) σ) neg I rx ry h
  have hm : behindInMarks op b = false := nomark b (by rw [hop]; cases neg <;> decide) (by rw [hop]; cases neg <;> decide)
  have key : WL X [a, b] σ H fun vs H2 => rl2 (rEqI neg (ca C) (spM ca X.K m) (fun σ cls dd H' => wX X cls dd σ H') σ) vs H2 Q := by
    refine ops_sound (.cons ha (.cons hbb .nil)) p h fun gs st2 Hf2 H2 R2 vs t2 p2 hr2 hk => ?_
    cases g : gs st2 with
    | none => rw [g] at hk; exact hk.elim
    | some ds =>
      rw [g] at hk
      match ds, hk with
      | [x, y], hk =>
        dsimp only at hk
        by_cases hc : insC x = some C ∧ insC y = some C
        · rw [if_pos hc] at hk
          obtain ⟨a, b, dx, dy, fs, gs', rfl, e1, e2, rl⟩ := rdl_ins2 (X := X) p2.w.ex (hr2 _ g) hc.1 hc.2
          refine ⟨a, b, dx, dy, fs, gs', rfl, rfl, e1, e2, Hf2, Em, [x, y], rl, p2.w.mono fun _ q => q.elim, ?_⟩
          refine postC_of (σ := σ) (st := st2) (R := R2) (p2.imp fun _ => rl) ?_
          cases em : m [x, y] with
          | fail => rw [em] at hk; exact hk
          | exc x0 ps => rw [em] at hk; exact hk.elim
          | ok d ps =>
            rw [em] at hk
            cases d with
            | bl kk =>
              intro Hf3 H3 P3 R3 v3 t3 p3
              exact ⟨kk, rep_bl p3.pend, hk Hf3 H3 Em R3 _ (less0 t3) (p3.drop.put .bl)⟩
            | _ => exact hk.elim
        · rw [if_neg hc] at hk; exact hk.elim
  intro pins s I
  refine wpAny_Compare1 (binT (R := fun x y H => rEqI neg (ca C) (spM ca X.K m) (fun σ cls dd H' => wX X cls dd σ H') σ x y H Q) (we_pe X a) (we_pe X b) I key fun v u s2 x y H2 I2 rx ry q => ?_) hm
  rw [hop]
  exact ho pins s2 σ H2 x y v u Q I2 rx ry q
theorem run_fnAG {CX : CXT} {k : Nat} {f : Addr} {sp : Sp} {E : XK} {A : Around} {pins : List (Addr × Obj)} {s : Shared} {us : List Value} {Q : VK} (F : FnG X.prog X.w X.K X.mg X.base CX k f sp) (hr : RoomG k A) (hfr : A.frames = X.A.frames)
    (hx : PassesAt CX X σ E) (I : Inv X pins σ H s) (r2 : Vals vs us) (h : sp vs H Q E) : wpAny (model X.prog X.w) A (call (.ref f) us) (EP X pins σ Q) X.xe s := by
  have e0 : Env0 X.prog X.w X.K X.mg X.base A X.stack s H
      := by
    have e := I.env0
    exact ⟨hfr.trans e.frames, e.mod, e.bs, e.bsz, e.funs, e.frf, e.hok, e.bare⟩
  refine wpAny_call (codeAny_mono (F A X.stack s H _ _ Q E hr e0 r2 h) fun res s' got => ?_)
  cases res with
  | error e => exact hx pins _ _ e s' I got
  | ok fl => cases fl with
    | ret w => exact I.after got
    | next => exact got.elim
    | brk => exact got.elim
    | cont => exact got.elim
theorem ce_lenIG {k C : Nat} {f : Addr} {a : Expr} {oa : Opd} {m : MF} {p pos : Pos} (F : FnG X.prog X.w X.K X.mg X.base (L2.CX X.prog X.w) k f (spM ca X.K m)) (c : OwnSpC X.K (ca C) f "__len__") (hr : RoomG (k + 1) X.A)
    (hg : Gl X "len") (hm : X.mg "len" = none) (ha : CO ca X a oa) (hst : NoStar [a] := by exact ⟨fun _ => rfl, trivial⟩) : CE ca X (.Call (.Name "len" p) [a] [] pos) (eLenI C m oa) := fun Hf H R σ st Q pr h => by
  have key : Wa X [a] σ H fun vs H2 => ∃ x dx fs, vs = [.ref x] ∧ H2 x = some (.ins (ca C) dx fs) ∧ spM ca X.K m [.ref x] H2 (fun v H' => ∃ n : Int, v = .int n ∧ 0 ≤ n ∧ n < 2 ^ 63 ∧ Q (.int n) H') (fun cls dd H' => wX X cls dd σ H') := by
    refine wa_wl (fun e' r' q => noStar_suf hst e' r' q _) (ops_sound (.cons ha .nil) pr h fun gs st2 Hf2 H2 R2 vs t2 p2 hr2 hk => ?_)
    cases g : gs st2 with
    | none => rw [g] at hk; exact hk.elim
    | some ds =>
      rw [g] at hk
      obtain ⟨x, rfl⟩ : ∃ x, ds = [x] := by
        match ds, hk with
        | [x], _ => exact ⟨x, rfl⟩
      dsimp only at hk
      by_cases hc : insC x = some C
      · rw [if_pos hc] at hk
        obtain ⟨v, S', e1, r1⟩ := rdl1 (hr2 _ g) rfl
        subst e1
        have h1 : hot x = false := by
          cases x <;> try (cases hc; done)
          rename_i o _ _
          cases o
          · rfl
          · cases hc
        have q1 := r1.cold (S' := Em) h1
        cases x <;> try (cases hc; done)
        rename_i o1 C1 g1
        obtain ⟨a, dx, fs, T, rfl, e2, _, _⟩ := rep_ins p2.w.ex q1
        have d1 : C1 = C := by
          cases o1
          · exact Option.some.inj hc
          · cases hc
        subst d1
        have rl : RepL ca X.K Hf2 H2 Em [.ref a] [.ins o1 C1 g1] := RepL.one q1
        refine ⟨a, dx, fs, rfl, e2, Hf2, Em, _, rl, p2.w.mono fun _ q => q.elim, ?_⟩
        refine postC_of (σ := σ) (st := st2) (R := R2) (p2.imp fun _ => rl) ?_
        cases em : m [.ins o1 C1 g1] with
        | fail => rw [em] at hk; exact hk
        | exc x0 ps => rw [em] at hk; exact hk.elim
        | ok d ps =>
          rw [em] at hk
          cases d with
          | int n =>
            dsimp only at hk
            by_cases hn : 0 ≤ n ∧ n < 2 ^ 63
            · rw [if_pos hn] at hk
              intro Hf3 H3 P3 R3 v3 t3 p3
              exact ⟨n, rep_int p3.pend, hn.1, hn.2, hk Hf3 H3 Em R3 _ (less0 t3) (p3.drop.put .int)⟩
            · rw [if_neg hn] at hk; exact hk.elim
          | _ => exact hk.elim
      · rw [if_neg hc] at hk; exact hk.elim
  intro pins s I
  refine wpAny_Call_Name_kw (ld_blt I hg hm boot_len ?_)
  refine PyProof.Rows.callWith_builtin1 (thn (key pos pins s I) fun us s1 ⟨vs, H1, I1, r1, q1⟩ => ?_) (hst.1 _) rfl
  obtain ⟨x, dx, fs, rfl, e2, sp⟩ := q1
  obtain ⟨u, rfl, rx⟩ := vals1 r1
  obtain rfl : u = .ref x := rx
  obtain ⟨hp, g, dr, tk, os⟩ :=
      s1
  refine len_own (c.at (y := none) I1 e2 (by with_unfolding_all rfl)) ?_
  refine thn (run_fnAG F hr.in1 (show X.A.in1.frames = X.A.frames from rfl) (passAt (takes_wX X) σ) I1 r1 sp) fun v s' ⟨vv, H', I', rv, n, ev, n0, n1, q⟩ => ?_
  subst ev
  obtain ⟨u, rfl⟩ := rv
  exact ⟨n, u, rfl, n0, n1, .int n, H', I'.kept (t' := s'.toks + 1) fun b o e => e, ⟨_, rfl⟩, q⟩

/-! ### a law's end -/
theorem law_base {P : Program} {w : World} {K : PySem.W.Frag} {mg mb : Str → Option Value} {k : Nat} {fa a : Addr} {sp : Sp} {s₁ : Shared} {vs : List Value} {H : Hp}
    (KX : K.In s₁.heap) (hns : s₁.heap.Ns mainGlobals mg) (hb : s₁.heap.Ns builtinsNs mb) (hbb : ∀ x : Str, x ≠ "__name__" → mb x = bootBuiltins x) (hlim : s₁.heap.NoLimit) (hg : s₁.gens = #[])
    (ha : s₁.heap.get? a = some { cls := .type "list", data := .seq vs.toArray }) (hr : RoomG k callerA)
    (F : ∀ base : Heap, K.In base → base.Ns mainGlobals mg → FnG P w K mg base (L2.CX P w) k fa sp) (hq : sp [.ref a] H (fun v _ => v = .bl true) fun _ _ _ => False)
    (hCX : ∀ e s', L2.CX P w [] H s₁ (fun _ _ _ => False) e s' → False) (hO : Only H) (hok : HOk P w H s₁.heap) (hA : ∀ b, H b ≠ none → b = a) (hK : H a ≠ none → K.lookup a = none) :
    codeAny (model P w) callerA (.call (.ref fa) ⟨[.ref a], []⟩) (fun r s' => r = .ok (.ret (.bool true)) ∧ OldK s₁.heap s'.heap ∧ s'.os = s₁.os ∧ AllBare s'.gens) s₁ := by
  have only : ∀ {b : Addr}, H b ≠ none → ∀ {o : Obj}, s₁.heap.get? b = some o → b = a ∧ o = { cls := .type "list", data := .seq vs.toArray } := fun {b} q o e => by
    have z := hA b q
    subst z
    rw [ha] at e
    exact ⟨rfl, (Option.some.inj e).symm⟩
  have free : ∀ {b : Addr} {o : Obj} {es : Array DictEntry} {ep : Nat}, s₁.heap.get? b = some o → o.data = .dict es ep → H b = none := fun {b o es ep} e dd =>
    Classical.byContradiction fun q => by
      obtain ⟨_, z⟩ := only q e
      subst z
      have z2 : Data.seq vs.toArray _ = Data.dict es ep := dd
      cases z2
  have ns : ∀ {b : Addr} {m : Str → Option Value}, s₁.heap.Ns b m → (hidT s₁.heap H).Ns b m :=
    fun {b m} ⟨o, es, ep, e, dd, r⟩ => ⟨o, es, ep, hidT_get e (free e dd), dd, r⟩
  have kin : K.In (hidT s₁.heap H) := fun b o e => hidT_get (KX b o e) (Classical.byContradiction fun q => by
    have z := hA b q
    subst z
    rw [hK q] at e
    cases e)
  have md : Mod K mg (hidT s₁.heap H) := ⟨kin, ns hns, ⟨mb, ns hb, hbb⟩, let ⟨mc, h1, h2⟩ := hlim; ⟨mc, ns h1, h2⟩⟩
  have nil : ∀ b : Addr, ¬ b ∈ ([] : List Addr) := fun b z => by cases z
  have e0 : Env0 P w K mg (hidT s₁.heap H) callerA [] s₁ H :=
    ⟨rfl, md, fun b o e => of_hidT e, Nat.le_of_eq (hidT_size _ _), trivial, fun b z => absurd z (nil b), hok, .of_eq hg⟩
  refine codeAny_mono (F _ kin (ns hns) callerA [] s₁ H [.ref a] [.ref a] _ _ hr e0 (.cons rfl .nil) hq) fun r s' h => ?_
  cases r with
  | error e => exact (hCX e s' h).elim
  | ok fl =>
    cases fl with
    | next => exact h.elim
    | brk => exact h.elim
    | cont => exact h.elim
    | ret u =>
      obtain ⟨v, H', os, bare, un, hok', r', q⟩ := h
      have q' : v = .bl true := q
      subst q'
      obtain rfl : u = Value.bool true := r'
      refine ⟨rfl, OldK.of_keep fun b o e => ?_, os, bare⟩
      rcases hO b with z | ⟨ob, xs, z⟩
      · exact un.keep b o e z (nil b) (nil b)
      · obtain ⟨e1, _⟩ := hok b _ z
        obtain ⟨e2, _⟩ := hok' b _ (un.frzs b ob _ z)
        rw [e] at e1
        cases e1
        exact e2
theorem law_callG {P : Program} {w : World} {K : PySem.W.Frag} {mg mb : Str → Option Value} {k : Nat} {fa a : Addr} {sp : Sp} {s₁ : Shared} {vs : List Value} {ns : List Int}
    (KX : K.In s₁.heap) (hns : s₁.heap.Ns mainGlobals mg) (hb : s₁.heap.Ns builtinsNs mb) (hbb : ∀ x : Str, x ≠ "__name__" → mb x = bootBuiltins x) (hlim : s₁.heap.NoLimit) (hg : s₁.gens = #[])
    (ha : s₁.heap.get? a = some { cls := .type "list", data := .seq vs.toArray }) (hi : IntsAre vs ns) (hl : ns.length ≤ sizeLine) (hr : RoomG k callerA)
    (F : ∀ base : Heap, K.In base → base.Ns mainGlobals mg → FnG P w K mg base (L2.CX P w) k fa sp)
    (hsp : ∀ H : Hp, Only H → SqL K H a (ns.map V.int) → sp [.ref a] H (fun v _ => v = .bl true) fun _ _ _ => False)
    (hCX : ∀ H e s', L2.CX P w [] H s₁ (fun _ _ _ => False) e s' → False) :
    codeAny (model P w) callerA (.call (.ref fa) ⟨[.ref a], []⟩) (fun r s' => r = .ok (.ret (.bool true)) ∧ OldK s₁.heap s'.heap ∧ s'.os = s₁.os ∧ AllBare s'.gens) s₁ := by
  have rv := vals_ints hi
  have lv := hi.length
  have go : ∀ H : Hp, Only H → SqL K H a (ns.map V.int) → HOk P w H s₁.heap → (∀ b, H b ≠ none → b = a) → (H a ≠ none → K.lookup a = none) → _ :=
    fun H hO hS hok hA hK => law_base KX hns hb hbb hlim hg ha hr F (hsp H hO hS) (hCX H) hO hok hA hK
  cases hk : K.lookup a with
  | some o =>
    have e := KX a o hk
    rw [ha] at e
    cases e
    have lit : vs.toArray.size ≤ sizeLine := by
      rw [List.size_toArray, lv]
      exact hl
    exact go (fun _ => none) (fun _ => .inl rfl) (.inr ⟨_, vs.toArray, _, hk, rfl, rfl, rfl, lit, by simpa using rv⟩)
      (fun b u z => nomatch z) (fun b z => absurd rfl z) fun z => absurd rfl z
  | none =>
    obtain ⟨H, h1, h2⟩ : ∃ H : Hp, H a = some (.frz { cls := .type "list", data := .seq vs.toArray } (.lst (ns.map V.int))) ∧ ∀ b, b ≠ a → H b = none :=
      ⟨fun b => if b = a then some (.frz { cls := .type "list", data := .seq vs.toArray } (.lst (ns.map V.int))) else none, if_pos rfl, fun b z => if_neg z⟩
    refine go H (fun b => ?_) (.inl (.inr ⟨_, h1⟩)) (fun b u z => ?_) (fun b z => Classical.byContradiction fun q => z (h2 b q)) fun _ => hk
    · by_cases q : b = a
      · subst q
        exact .inr ⟨_, _, h1⟩
      · exact .inl (h2 b q)
    · by_cases q : b = a
      · subst q
        rw [h1] at z
        cases z
        exact ⟨ha, by rw [List.length_map]; exact hl, vs, _, rv, ha⟩
      · rw [h2 b q] at z
        cases z
theorem walk_lawG {l : PySem.W.OpenLaw} {k : Nat} {q : Program} {loose : List Str} {XP : (Str → Option Value) → Heap → Prop} {YP : World → Heap → Prop} {d : DefRec} {K : Params → PySem.W.Frag} {m : MF}
    (hn : l.most = some 63) (hdf : d.params.defaults = []) (hr : Room k callerA) (hY : ∀ (w : World) (h : Heap), YP w h → (K w.params).In h)
    (F : ∀ (w : World) (mg : Str → Option Value) (fa : Addr) (h : Heap),
        (K w.params).In h → h.Ns mainGlobals mg → mg d.name = some (.ref fa) →
      ∃ (ca : Nat → Addr), ∀ base : Heap, (K w.params).In base → base.Ns mainGlobals mg → FnG l.prog w (K w.params) mg base (L2.CX l.prog w) k fa (spM ca (K w.params) m))
    (hm : ∀ ns : List Int, ns.length ≤ 63 → ∃ ps, m [.scr ns] = .ok (.bl true) ps) :
    PySem.W.WalkO q loose XP YP l.row.toRowW d [] (fun f vs => PySem.call f vs) := by
  refine Att.attach_call hn hdf fun w s₀ s₁ mg mb fa o pm cd doc a vs ns G Y ho hd hcd hmg hobj hints hlen hg => ?_
  obtain ⟨ca, h5⟩ := F w mg fa _ (hY w _ Y) G.T.g hmg
  exact law_callG (hY w _ Y) G.T.g G.T.b G.T.builtins G.T.nolimit hg hobj hints (Nat.le_trans hlen (by decide)) ⟨rfl, hr⟩ h5 (fun H hO hS => sp_law hm H a ns hlen hS) fun H e s' h => law_cx h
end
end DL

/-! DL36: repr of data. -/
namespace DL
open PySem L2 PyProof.Rows
/-- what repr takes -/
def rpOk (p : PyData) : Bool := p.canLay0 && p.showable && !p.hasDict && decide (p.depth ≤ 64) && decide (p.shown.length ≤ 16777216)
def rRepr (K : PySem.W.Frag) : List V → Hp → VK → Prop := fun xs H Q => ∃ x p, xs = [x] ∧ Dp K H x p ∧ rpOk p = true ∧ Q (.str p.shown) H
def oRepr : List D → Option Out
  | [x] => if rpOk (toPy x) then some (.val (.str (toPy x).shown)) else none
  | _ => none
section
variable {ca : Nat → Addr} {K : PySem.W.Frag} {Hf H Hf1 H1 : Hp} {S : Rg} {X : Cx} {v : V} {d : D}
theorem call_repr {k : Nat} (hr : RoomG k X.A) : CallR X (.builtin "repr") (rRepr X.K) := by
  intro pins s σ H xs us Q I r h
  obtain ⟨x, p, rfl, hd, ok, q⟩ := h
  unfold rpOk at ok
  simp only [Bool.and_eq_true, decide_eq_true_eq, Bool.not_eq_true'] at ok
  obtain ⟨⟨⟨⟨h1, h2⟩, h3⟩, h4⟩, h5⟩ := ok
  rw [sz_eq] at h5
  obtain ⟨u, rfl, rx⟩ := vals1 r
  obtain ⟨as, rd⟩ := Dp.reads I p x u hd rx
  have hu := hr.2.un
  have big : ∀ a, u = .ref a → wpAny (model X.prog X.w) X.A (call (.builtin "repr") [.ref a]) (EP X pins σ Q) X.xe s := fun a e => by
    subst e
    exact PySem.repr_of_reads' rd h2 (PyData.noDict_hsm h3) hr.1 (by omega) (fun _ _ e => e)
      (fun h' u tk keep => ⟨.str _, H, I.kept (t' := tk) keep, ⟨_, rfl⟩, q⟩) h5
  cases rd with
  | none => exact PySem.P.repr_of_none ⟨.str _, H, I.tok _, ⟨_, rfl⟩, q⟩
  | bool b => exact PySem.P.repr_of_bool ⟨.str _, H, I.tok _, ⟨_, rfl⟩, q⟩
  | int i t => exact PySem.P.repr_of_int (by simpa [PyData.showable] using h2) ⟨.str _, H, I.tok _, ⟨_, rfl⟩, q⟩
  | str y t => exact PySem.P.repr_of_str ⟨.str _, H, I.tok _, ⟨_, rfl⟩, q⟩ h5
  | list _ _ _ _ => exact big _ rfl
  | tuple _ _ _ _ => exact big _ rfl
  | dict _ _ _ _ _ => exact big _ rfl
theorem os_repr : OpS ca K (rRepr K) oRepr := fun Hf H vs ds o Q hx rd h q => by
  match ds, h with
  | [x], h =>
    obtain ⟨v, S, e1, r1⟩ := rdl1 rd rfl
    subst e1
    dsimp only [oRepr] at h
    split at h
    · rename_i hz
      cases h
      have hl : (toPy x).canLay0 = true := by
        unfold rpOk at hz
        simp only [Bool.and_eq_true] at hz
        exact hz.1.1.1.1
      exact ⟨v, _, rfl, rep_dp hx r1 hl, hz, q _ .str⟩
    · cases h
end
end DL

/-! DL37: zip; << >> &; walks of a list or a tuple. -/
namespace DL
open PySem L2 PyProof.Rows
def zipD : List D → List D → List D
  | a :: as, b :: bs => .tup [a, b] :: zipD as bs
  | _, _ => []
theorem zipD_get : ∀ {xs ys : List D} {i : Nat} {e : D}, (zipD xs ys)[i]? = some e → ∃ a b, xs[i]? = some a ∧ ys[i]? = some b ∧ e = .tup [a, b]
  | a :: xs, b :: ys, 0, e, h => ⟨a, b, rfl, rfl, (Option.some.inj h).symm⟩
  | a :: xs, b :: ys, i + 1, e, h => by
    obtain ⟨a', b', h1, h2, h3⟩ := zipD_get (xs := xs) (ys := ys) (i := i) (by simpa [zipD] using h)
    exact ⟨a', b', by simpa using h1, by simpa using h2, h3⟩
  | [], _, _, _, h => by simp [zipD] at h
  | _ :: _, [], _, _, h => by simp [zipD] at h
theorem zipD_len : ∀ {xs ys : List D}, (zipD xs ys).length = min xs.length ys.length
  | a :: xs, b :: ys => by rw [zipD, List.length_cons, zipD_len, List.length_cons, List.length_cons]; omega
  | [], _ => by simp [zipD]
  | _ :: _, [] => by simp [zipD]
/-- zip(a, b), two lists -/
def iZ (ms : MA) : Sl → Res (List D) := fun st => (ms st).bind fun ds st1 => match ds with
  | [d, e] => (match lstItems d, lstItems e with
    | some xs, some ys => if colds xs && colds ys then .ok (zipD xs ys) st1 else .fail
    | _, _ => .fail)
  | _ => .fail
/-- a walk of a list or a tuple -/
def anyItems : D → Option (List D)
  | .tup xs => some xs
  | d => lstItems d
def oShl : List D → Option Out
  | [.int i, .int j] => if 0 ≤ j ∧ j ≤ 1000000 ∧ i.natAbs < 2 ^ 64 then some (.val (.int (i * 2 ^ j.toNat))) else none
  | _ => none
def oShr : List D → Option Out
  | [.int i, .int j] => if 0 ≤ j then some (.val (.int (i / 2 ^ j.toNat))) else none
  | _ => none
def oBand : List D → Option Out
  | [.int i, .int j] => some (.val (.int (Builtin.bitAnd i j)))
  | _ => none
section
variable {ca : Nat → Addr} {K : PySem.W.Frag} {Hf H Hf1 H1 Hf2 H2 : Hp} {S S1 S2 P P1 P2 : Rg} {R R1 R2 : Nat → Rg} {σ : L2.St} {st : Sl} {v : V} {d : D} {vs us : List V} {ds xs ys : List D} {X : Cx} {L : List Nat}
theorem os_shr : OpS ca K (rl2 (rI (fun _ j => 0 ≤ j) fun i j => .int (i / 2 ^ j.toNat))) oShr := fun Hf H vs ds o Q hx rd h q => by
  match ds, h with
  | [.int i, .int j], h =>
    obtain ⟨v, w, S, S', e1, r1, r2⟩ := rdl2 rd rfl
    subst e1
    dsimp only [oShr] at h
    split at h
    · rename_i hc
      cases h
      exact ⟨i, j, rep_int r1, rep_int r2, hc, q _ .int⟩
    · cases h
theorem os_shl : OpS ca K (rl2 (rI CPow fun i j => .int (i * 2 ^ j.toNat))) oShl := fun Hf H vs ds o Q hx rd h q => by
  match ds, h with
  | [.int i, .int j], h =>
    obtain ⟨v, w, S, S', e1, r1, r2⟩ := rdl2 rd rfl
    subst e1
    dsimp only [oShl] at h
    split at h
    · rename_i hc
      cases h
      exact ⟨i, j, rep_int r1, rep_int r2, hc, q _ .int⟩
    · cases h
theorem os_band : OpS ca K (rl2 (rI0 fun i j => .int (Builtin.bitAnd i j))) oBand := fun Hf H vs ds o Q hx rd h q => by
  match ds, h with
  | [.int i, .int j], h =>
    obtain ⟨v, w, S, S', e1, r1, r2⟩ := rdl2 rd rfl
    subst e1
    cases h
    exact ⟨i, j, rep_int r1, rep_int r2, q _ .int⟩
theorem itd_zip {a b : Addr} (h1 : SqL K Hf a vs) (r1 : RepL ca K Hf H Em vs xs) (h2 : SqL K Hf b us) (r2 : RepL ca K Hf H Em us ys) : ItD ca K (Itz K a b) Hf (zipD xs ys) := by
  intro Hf' H' x1 x2
  have x3 : Ex Hf H' := fun a o e => x2 a o (x1 a o e)
  have l1 := r1.length
  have l2 := r2.length
  refine ⟨fun i hi => ?_, ⟨vs, us, sqL_ex x3 h1, sqL_ex x3 h2, ?_⟩, fun i d x H2 e y => ?_⟩
  · rw [zipD_len] at hi
    have i1 : i < vs.length := by omega
    have i2 : i < us.length := by omega
    exact ⟨vs, us, vs[i], us[i], sqL_ex x3 h1, sqL_ex x3 h2, by simp [i1], by simp [i2]⟩
  · rw [zipD_len]
    omega
  · obtain ⟨T, xv, yv, rfl, hT, rfl, y1, y2⟩ := y
    obtain ⟨d1, d2, e1, e2, rfl⟩ := zipD_get e
    obtain ⟨v1, T1, f1, q1, z1⟩ := repL_at r1 e1
    obtain ⟨v2, T2, f2, q2, z2⟩ := repL_at r2 e2
    have g1 := y1 vs (sqL_ex x3 h1)
    have g2 := y2 us (sqL_ex x3 h2)
    rw [f1] at g1
    rw [f2] at g2
    cases g1
    cases g2
    have hT' : Hf' T = none := by
      cases q : Hf' T with
      | none => rfl
      | some o => rw [x2 T o q] at hT; cases hT
    refine ⟨rfl, upd Hf' T (.tup [xv, yv]), fun b o e => upd_keep hT' b o e, fun b o e => upd_keep hT b o e, fun b o e => ?_, fun b o e => ?_, ?_⟩
    · by_cases q : b = T
      · subst q; rw [upd_same] at e ⊢; exact e
      · rw [upd_ne q] at e ⊢; exact x2 b o e
    · by_cases q : b = T
      · subst q; exact .inr hT
      · rw [upd_ne q] at e; exact .inl e
    · have k1 := (q1.mono z1).keep (Hf' := upd Hf' T (.tup [xv, yv])) (H' := upd H' T (.tup [xv, yv])) (fun b o e => upd_keep hT' b o (x1 b o e)) fun _ q => q.elim
      have k2 := (q2.mono z2).keep (Hf' := upd Hf' T (.tup [xv, yv])) (H' := upd H' T (.tup [xv, yv])) (fun b o e => upd_keep hT' b o (x1 b o e)) fun _ q => q.elim
      exact .tup upd_same (.cons (S1 := Em) (S2 := Em) k1 (RepL.one k2) (fun _ q => q) (fun _ q => q) fun _ q _ => q)
/-- a datum that stands and is a list -/
theorem rep_std {Hf' : Hp} (r : Rep ca K Hf H S v d) (h : lstItems d = some xs) (hc : colds xs = true) (x1 : Ex Hf Hf') (x2 : ∀ b, S b → ∀ o, H b = some o → Hf' b = some o) : ∃ a us, v = .ref a ∧ SqL K Hf' a us ∧ RepL ca K Hf' H Em us xs := by
  cases r with
  | lstF e r => cases h; exact ⟨_, _, rfl, .inl (.inl (x1 _ _ e)), repL_cold (r.keep x1 fun _ _ _ e => e) hc⟩
  | lstO s e r => cases h; exact ⟨_, _, rfl, .inl (.inl (x2 _ s _ e)), repL_cold (r.keep x1 fun _ _ _ e => e) hc⟩
  | scr e => cases h; exact ⟨_, _, rfl, sqL_ex x1 e, repL_mapInt _⟩
  | _ => cases h
theorem ci_zip {a b : Expr} {ms : MA} {p pos tpos : Pos} {elts : List Expr} {kk : Nat} (hg : Gl X "zip") (hm : X.mg "zip" = none) (ha : CL ca X [a, b] ms) (hst : NoStar [a, b] := by exact ⟨fun _ => rfl, fun _ => rfl, trivial⟩) (hpl : (backTo pos (starEach [b] X.env)).any (·.1) = false := by rfl) :
    CI ca X (.Tuple elts kk tpos) (.Call (.Name "zip" p) [a, b] [] pos) (iZip X.K (Wa X [a, b])) (iZ ms) :=
  ⟨pi_zip hg hm (wa_pa X [a, b]) (hst.1 _) hpl, fun Hf H R σ st Q p h => by
    refine wa_wl (fun e' r' q => noStar_suf hst e' r' q _) (ha Hf H R σ st _ p ?_)
    unfold iZ at h
    cases r : ms st with
    | fail => rw [r] at h; exact h
    | exc x st => rw [r] at h; exact h
    | ok ds st1 =>
      rw [r] at h
      intro Hf1 H1 P R1 vs t1 p1
      dsimp only [Res.bind] at h
      match ds, h with
      | [d, e], h =>
        dsimp only at h
        cases e1 : lstItems d with
        | none => rw [e1] at h; exact h.elim
        | some xs =>
          cases e2 : lstItems e with
          | none => rw [e1, e2] at h; exact h.elim
          | some ys =>
            rw [e1, e2] at h
            dsimp only at h
            by_cases hc : (colds xs && colds ys) = true
            · rw [if_pos hc] at h
              rw [Bool.and_eq_true] at hc
              obtain ⟨Hf', x1, x2, p', t'⟩ := p1.standP
              cases p1.pend with
              | cons q1 q2 c1 c2 c3 => cases q2 with
                | cons q3 q4 c4 c5 c6 =>
                  cases q4
                  obtain ⟨a1, u1, rfl, s1, r1⟩ := rep_std q1 e1 hc.1 x1 fun b z => x2 b (c1 b z)
                  obtain ⟨a2, u2, rfl, s2, r2⟩ := rep_std q3 e2 hc.2 x1 fun b z => x2 b (c2 b (c4 b z))
                  exact ⟨a1, a2, u1, u2, rfl, sqL_ex p'.w.ex s1, sqL_ex p'.w.ex s2, h Hf' H1 R1 _ (t1.trans t') p' (itd_zip s1 r1 s2 r2)⟩
            · rw [if_neg hc] at h; exact h.elim⟩
end
end DL

/-! DL38: how a def with a starred parameter binds. -/
namespace DL
open PySem PySem.Spec PyProof.Rows L2
theorem starB1 {fd : FuncData} {p1 pv : Str} (h0 : ∀ a, bindArgs fd { pos := [a] } = (newTuple [] >>= fun t => pure [(p1, a), (pv, t)])) (h1 : ∀ a r rs, bindArgs fd { pos := a :: r :: rs } = (newTuple (r :: rs) >>= fun t => pure [(p1, a), (pv, t)])) : StarB fd [p1] pv :=
  ⟨StX.bind_star1 (B := fun us => bindArgs fd { pos := us }) h0 h1⟩
theorem starB2 {fd : FuncData} {p1 p2 pv : Str} (h0 : ∀ a b, bindArgs fd { pos := [a, b] } = (newTuple [] >>= fun t => pure [(p1, a), (p2, b), (pv, t)])) (h1 : ∀ a b r rs, bindArgs fd { pos := a :: b :: r :: rs } = (newTuple (r :: rs) >>= fun t => pure [(p1, a), (p2, b), (pv, t)])) : StarB fd [p1, p2] pv :=
  ⟨StX.bind_star2 (B := fun us => bindArgs fd { pos := us }) h0 h1⟩
end DL

/-! DL39: tuple * int. -/
namespace DL
open PySem PySem.Spec PyProof.Rows L2
open AutoSeq1 (wpAny_loadPart')
theorem tuple_mulS (l : Addr) (items : Array Value) (n : Nat) (dd : Option Addr) (sl : Array (Option Value)) (x : Int) (u : Tok) (c0 : (decide (x < -(2 ^ 63)) || decide (x ≥ 2 ^ 63)) = false) (c1 : (items.isEmpty || x == 1) = true) :
    Meets (Builtin.«tuple.__mul__» ⟨[.ref l, .int x u], []⟩) (fun _ R s => s.heap.get? l = some { cls := .type "tuple", dict := dd, data := .seq items n, slots := sl } ∧ R (.ok (.ret (Value.ref l))) s) :=
  .of_wp fun prog w A R s h => by
    obtain ⟨hp, g, d, tk, os⟩ := s
    obtain ⟨hl, h⟩ := h
    have f1 := AutoSeq1.idx_int
    wp_walk using wpAny_loadPart' hl
    repeat (first
      | (refine wpAny_ite_false (decide_eq_false (by rw [c0]; exact Bool.false_ne_true)) ?_; wp_walk using wpAny_loadPart' hl)
      | (refine wpAny_ite_true (decide_eq_true c1) ?_; wp_walk using wpAny_loadPart' hl))
    all_goals first | exact ⟨_, rfl, h⟩ | exact h | skip
theorem tuple_mul0 (l : Addr) (items : Array Value) (n : Nat) (dd : Option Addr) (sl : Array (Option Value)) (x : Int) (u : Tok) (c0 : (decide (x < -(2 ^ 63)) || decide (x ≥ 2 ^ 63)) = false) (c1 : (items.isEmpty || x == 1) = false) (c2 : (decide (x ≤ 0) || items.isEmpty) = true) :
    Meets (Builtin.«tuple.__mul__» ⟨[.ref l, .int x u], []⟩) (fun _ R s => s.heap.get? l = some { cls := .type "tuple", dict := dd, data := .seq items n, slots := sl } ∧
      R (.ok (.ret (Value.ref s.heap.objs.size))) { s with heap := s.heap.push { cls := Value.type "tuple", data := Data.seq #[] }, toks := s.toks }) :=
  .of_wp fun prog w A R s h => by
    obtain ⟨hp, g, d, tk, os⟩ := s
    obtain ⟨hl, h⟩ := h
    have f1 := AutoSeq1.idx_int
    wp_walk using wpAny_loadPart' hl
    repeat (first
      | (refine wpAny_ite_false (decide_eq_false (by rw [c0]; exact Bool.false_ne_true)) ?_; wp_walk using wpAny_loadPart' hl)
      | (refine wpAny_ite_false (decide_eq_false (by rw [c1]; exact Bool.false_ne_true)) ?_; wp_walk using wpAny_loadPart' hl)
      | (refine wpAny_ite_true (decide_eq_true c2) ?_; wp_walk using wpAny_loadPart' hl))
    exact ⟨_, rfl, h⟩
def rMulT1 (K : PySem.W.Frag) : L2.R2 := fun x y H Q => ∃ l k xs, x = .ref l ∧ y = .int k ∧ SqT K H l xs ∧ (-(2 ^ 63) ≤ k ∧ k < 2 ^ 63) ∧ (xs = [] ∨ k = 1) ∧ Q (.ref l) H
def rMulT0 (K : PySem.W.Frag) : L2.R2 := fun x y H Q => ∃ l k xs, x = .ref l ∧ y = .int k ∧ SqT K H l xs ∧ (-(2 ^ 63) ≤ k ∧ k < 2 ^ 63) ∧ xs ≠ [] ∧ k ≤ 0 ∧ ∀ p, H p = none → Q (.ref p) (upd H p (.tup []))
section
variable {X : Cx}
theorem op_mulT1 : OpR X (binaryOp .Mult) (rMulT1 X.K) := by
  intro pins s σ H x y v u Q I rx ry h
  obtain ⟨l, k, xs, rfl, rfl, hT, hk, hne, q⟩ := h
  have rx0 := rx
  cases rx
  obtain ⟨t, rfl⟩ := ry
  obtain ⟨its, r, ⟨⟨cls, dd, data, sl⟩, ho, hc, n, hd⟩, hs⟩ := I.tuple hT
  simp only at hc hd
  subst hc hd
  have hle : its.length = xs.length := r.length.symm
  have c0 : (decide (k < -(2 ^ 63)) || decide (k ≥ 2 ^ 63)) = false := by
    rw [decide_eq_false (by omega), decide_eq_false (by omega)] <;> rfl
  have c1 : (its.toArray.isEmpty || k == 1) = true := by
    rcases hne with e | e
    · subst e
      have : its = [] := List.eq_nil_of_length_eq_zero hle
      subst this
      rfl
    · subst e
      simp
  refine wpAny_binaryOp_repeat_ref (T := "tuple") (U := "int") (by decide) ⟨_, ho, rfl⟩ (fun s' => typeIs_int s' k t) noFill_tuple_mul F.fills_int_mul F.slot_int_rmul repeat_tuple F.slot_int_index.lookup
    (call_meets F.slot_int_rmul (typeIs_int s k t) F.entry_int_rmul (F.args_int_rmul_2 _ _) (int_rmul_tuple k t l its.toArray n dd sl)
      ⟨ho, rfl, ⟨_, ho, rfl⟩, call_meets F.slot_tuple_mul ⟨_, ho, rfl⟩ F.entry_tuple_mul (F.args_tuple_mul_2 _ _) (tuple_mulS l its.toArray n dd sl k t c0 c1) ⟨ho, ?_⟩⟩)
  exact ⟨_, _, I, rx0, q⟩
theorem op_mulT0 : OpR X (binaryOp .Mult) (rMulT0 X.K) := by
  intro pins s σ H x y v u Q I rx ry h
  obtain ⟨l, k, xs, rfl, rfl, hT, hk, hne, h1, q⟩ := h
  cases rx
  obtain ⟨t, rfl⟩ := ry
  obtain ⟨its, r, ⟨⟨cls, dd, data, sl⟩, ho, hc, n, hd⟩, hs⟩ := I.tuple hT
  simp only at hc hd
  subst hc hd
  have hle : its.length = xs.length := r.length.symm
  have hn : its ≠ [] := fun e => hne (by
    rw [e] at hle
    exact List.eq_nil_of_length_eq_zero hle.symm)
  have hi : its.toArray.isEmpty = false := by
    cases its with
    | nil => exact absurd rfl hn
    | cons a b => rfl
  have c0 : (decide (k < -(2 ^ 63)) || decide (k ≥ 2 ^ 63)) = false := by
    rw [decide_eq_false (by omega), decide_eq_false (by omega)] <;> rfl
  have c1 : (its.toArray.isEmpty || k == 1) = false := by
    rw [hi, Bool.false_or]
    exact beq_eq_false_iff_ne.mpr (by omega)
  have c2 : (decide (k ≤ 0) || its.toArray.isEmpty) = true := by rw [decide_eq_true h1, Bool.true_or]
  refine wpAny_binaryOp_repeat_ref (T := "tuple") (U := "int") (by decide) ⟨_, ho, rfl⟩ (fun s' => typeIs_int s' k t) noFill_tuple_mul F.fills_int_mul F.slot_int_rmul repeat_tuple F.slot_int_index.lookup
    (call_meets F.slot_int_rmul (typeIs_int s k t) F.entry_int_rmul (F.args_int_rmul_2 _ _) (int_rmul_tuple k t l its.toArray n dd sl)
      ⟨ho, rfl, ⟨_, ho, rfl⟩, call_meets F.slot_tuple_mul ⟨_, ho, rfl⟩ F.entry_tuple_mul (F.args_tuple_mul_2 _ _) (tuple_mul0 l its.toArray n dd sl k t c0 c1 c2) ⟨ho, ?_⟩⟩)
  refine ⟨.ref s.heap.objs.size, _, I.laid (t' := s.toks) (o := .tup []) (fun b ob q => Heap.get?_push_of_some _ q) (Nat.le_refl _) ?_, rfl, q _ (I.hok.fresh (Nat.le_refl _))⟩
  exact ⟨by decide, _, .nil, IsTup.new _ _⟩
end
def rMulT (K : PySem.W.Frag) : L2.R2 := fun x y H Q => rMulT1 K x y H Q ∨ (rMulT0 K x y H Q ∨ rRepT K x y H Q)
theorem op_mulT {X : Cx} : OpR X (binaryOp .Mult) (rMulT X.K) := OpR.or op_mulT1 (OpR.or op_mulT0 op_repT)
/-- tuple * int -/
def oMulT : List D → Option Out
  | [.tup xs, .int k] => if xs = [] ∨ k = 1 then (if -1000 ≤ k ∧ k ≤ 1000 then some (.val (.tup xs)) else none) else if -1000 ≤ k ∧ k ≤ 1000 ∧ xs.length ≤ 1000 ∧ colds xs = true then some (.newT (List.replicate k.toNat xs).flatten) else none
  | _ => none
section
variable {ca : Nat → Addr} {K : PySem.W.Frag} {Hf H Hf1 H1 : Hp} {S S1 : Rg} {X : Cx} {v : V} {d : D}
theorem os_mulT : OpS ca K (rl2 (rMulT K)) oMulT := fun Hf H vs ds o Q hx rd h q => by
  match ds, h with
  | [.tup xs, .int k], h =>
    obtain ⟨v, w, S, S', e1, r1, r2⟩ := rdl2 rd rfl
    subst e1
    have r0 := r1.cold (S' := Em) rfl
    obtain ⟨a, vs, rfl, e2, r3⟩ := rep_tup hx r1
    dsimp only [oMulT] at h
    have hl := r3.length
    split at h
    · rename_i c
      split at h
      · rename_i c2
        cases h
        refine .inl ⟨a, k, vs, rfl, rep_int r2, .inl (.inl e2), by omega, c.imp (fun e => ?_) id, q _ r0⟩
        subst e
        exact List.eq_nil_of_length_eq_zero hl
      · cases h
    · rename_i c
      split at h
      · rename_i c2
        cases h
        have hne : vs ≠ [] := fun e => c (.inl (by subst e; exact List.eq_nil_of_length_eq_zero hl.symm))
        by_cases hk : k ≤ 0
        · refine .inr (.inl ⟨a, k, vs, rfl, rep_int r2, .inl (.inl e2), by omega, hne, hk, fun p hp => ?_⟩)
          have : k.toNat = 0 := by omega
          rw [this] at q
          exact q p [] hp .nil
        · exact .inr (.inr ⟨a, k, vs, rfl, rep_int r2, .inl (.inl e2), hne, by omega, by omega, by omega, fun p hp => q p _ hp (repL_rep r3 c2.2.2.2 _).1⟩)
      · cases h
end
theorem mulT_n {l : List Int} {k : Nat} (hk : k ≤ 1000) (hl : l.length ≤ 1000) : ∃ o, oMulT [.tup (nums l), .int k] = some o ∧ o.d = .tup (nums (List.replicate k l).flatten) := by
  have e0 : (List.replicate k (nums l)).flatten = nums (List.replicate k l).flatten := by
    induction k with
    | zero => rfl
    | succ n ih => rw [List.replicate_succ, List.flatten_cons, List.replicate_succ, List.flatten_cons, nums_app, ih (by omega)]
  by_cases h : l = [] ∨ k = 1
  · refine ⟨.val (.tup (nums l)), ?_, ?_⟩
    · show (if nums l = [] ∨ ((k : Nat) : Int) = 1 then _ else _) = _
      rw [if_pos (h.imp (fun e => by rw [e]; rfl) (by omega)), if_pos (by omega)]
    · show D.tup (nums l) = _
      rcases h with rfl | rfl
      · have : ∀ n, (List.replicate n ([] : List Int)).flatten = [] := fun n => by simp
        rw [this]
      · simp
  · refine ⟨.newT (nums (List.replicate k l).flatten), ?_, rfl⟩
    show (if nums l = [] ∨ ((k : Nat) : Int) = 1 then _ else _) = _
    rw [if_neg (fun q => h (q.imp (fun e => by cases l with | nil => rfl | cons a b => cases e) (by omega))), if_pos ⟨by omega, by omega, by rw [nums_len]; exact hl, nums_colds _⟩, Int.toNat_natCast, e0]
end DL

/-! DL40: equality of data by what it stands for. -/
namespace DL
open PySem (PyData)
/-- a type whose values stand for data -/
class Py (α : Type) where
  py : α → PyData
  dep : Nat
  lay : ∀ a, (py a).canLay0 = true
  depth : ∀ a, (py a).depth ≤ dep
  eqv : ∀ a b, PyData.eqv (py a) (py b) = true ↔ a = b
theorem layA : ∀ {l : List PyData}, (∀ p ∈ l, p.canLay0 = true) → PyData.canLayAll0 l = true
  | [], _ => by rw [PyData.canLayAll0]
  | a :: l, h => by rw [PyData.canLayAll0, h a List.mem_cons_self, layA fun p hp => h p (List.mem_cons_of_mem _ hp)]; rfl
theorem depA {n : Nat} : ∀ {l : List PyData}, (∀ p ∈ l, p.depth ≤ n) → PyData.depthAll l ≤ n
  | [], _ => by rw [PyData.depthAll]; omega
  | a :: l, h => by
    rw [PyData.depthAll]
    have h1 := h a List.mem_cons_self
    have h2 := depA fun p hp => h p (List.mem_cons_of_mem _ hp)
    omega
theorem eqvA {α : Type} [Py α] : ∀ l k : List α, PyData.eqvAll (l.map Py.py) (k.map Py.py) = true ↔ l = k
  | [], [] => by rw [List.map_nil, PyData.eqvAll]; simp
  | [], b :: k => by rw [List.map_nil, List.map_cons, PyData.eqvAll]; simp
  | a :: l, [] => by rw [List.map_nil, List.map_cons, PyData.eqvAll]; simp
  | a :: l, b :: k => by rw [List.map_cons, List.map_cons, PyData.eqvAll, Bool.and_eq_true, Py.eqv, eqvA l k]; simp
instance : Py Int where
  py := .int
  dep := 0
  lay _ := by rw [PyData.canLay0]
  depth _ := by rw [PyData.depth]; omega
  eqv a b := by rw [PyData.eqv]; simp
instance : Py Bool where
  py := .bool
  dep := 0
  lay _ := by rw [PyData.canLay0]
  depth _ := by rw [PyData.depth]; omega
  eqv a b := by rw [PyData.eqv]; simp
instance {α : Type} [Py α] : Py (List α) where
  py l := .list (l.map Py.py)
  dep := Py.dep α + 1
  lay l := by
    rw [PyData.canLay0]
    exact layA fun p hp => by
      obtain ⟨a, _, rfl⟩ := List.mem_map.mp hp
      exact Py.lay a
  depth l := by
    rw [PyData.depth]
    have := depA (l := l.map Py.py) (n := Py.dep α) fun p hp => by
      obtain ⟨a, _, rfl⟩ := List.mem_map.mp hp
      exact Py.depth a
    omega
  eqv l k := by rw [PyData.eqv]; exact eqvA l k
instance {α β : Type} [Py α] [Py β] : Py (α × β) where
  py x := .tuple [Py.py x.1, Py.py x.2]
  dep := max (Py.dep α) (Py.dep β) + 1
  lay x := by
    rw [PyData.canLay0, PyData.canLayAll0, PyData.canLayAll0, PyData.canLayAll0, Py.lay, Py.lay]
    rfl
  depth x := by
    rw [PyData.depth, PyData.depthAll, PyData.depthAll, PyData.depthAll]
    have h1 := Py.depth x.1
    have h2 := Py.depth x.2
    omega
  eqv x y := by
    rw [PyData.eqv, PyData.eqvAll, PyData.eqvAll, PyData.eqvAll, Bool.and_true, Bool.and_eq_true, Py.eqv, Py.eqv]
    exact ⟨fun h => Prod.ext h.1 h.2, fun h => by rw [h]; exact ⟨rfl, rfl⟩⟩
/-- a tuple of likes -/
structure Tp (α : Type) where
  l : List α
  deriving DecidableEq
instance {α : Type} [Py α] : Py (Tp α) where
  py x := .tuple (x.l.map Py.py)
  dep := Py.dep α + 1
  lay x := by
    rw [PyData.canLay0]
    exact layA fun p hp => by
      obtain ⟨a, _, rfl⟩ := List.mem_map.mp hp
      exact Py.lay a
  depth x := by
    rw [PyData.depth]
    have := depA (l := x.l.map Py.py) (n := Py.dep α) fun p hp => by
      obtain ⟨a, _, rfl⟩ := List.mem_map.mp hp
      exact Py.depth a
    omega
  eqv x y := by
    rw [PyData.eqv, eqvA]
    obtain ⟨a⟩ := x
    obtain ⟨b⟩ := y
    simp
theorem py_shaped {α : Type} [Py α] (hd : Py.dep α ≤ 64) (a : α) : PySem.SeqAt.shaped (Py.py a) = true := by
  unfold PySem.SeqAt.shaped
  rw [Py.lay, decide_eq_true (Nat.le_trans (Py.depth a) hd)]
  rfl
theorem py_eqv {α : Type} [Py α] [DecidableEq α] (a b : α) : PyData.eqv (Py.py a) (Py.py b) = decide (a = b) := by
  by_cases h : a = b
  · rw [decide_eq_true h, Py.eqv]; exact h
  · rw [decide_eq_false h]
    exact Bool.eq_false_iff.mpr fun q => h ((Py.eqv a b).mp q)
theorem pE {α : Type} [Py α] [DecidableEq α] {x y : D} {a b : α} (hx : toPy x = Py.py a) (hy : toPy y = Py.py b) (hd : Py.dep α ≤ 64 := by decide) : f2 pEq [x, y] = some (.val (.bl (decide (a = b)))) := by
  refine eq_of ?_
  unfold pEq
  rw [hx, hy, py_shaped hd, py_shaped hd, py_eqv]
  rfl
theorem pN {α : Type} [Py α] [DecidableEq α] {x y : D} {a b : α} (hx : toPy x = Py.py a) (hy : toPy y = Py.py b) (hd : Py.dep α ≤ 64 := by decide) : f2 pNe [x, y] = some (.val (.bl (!decide (a = b)))) := by
  refine ne_of ?_
  unfold pNe
  rw [hx, hy, py_shaped hd, py_shaped hd, py_eqv]
  rfl
theorem toPyL_map : ∀ (ds : List D), toPyL ds = ds.map toPy
  | [] => by rw [toPyL]; rfl
  | d :: ds => by rw [toPyL, toPyL_map ds]; rfl
theorem py_int {i : Int} : toPy (.int i) = Py.py i := by rw [toPy]; rfl
theorem py_bool {i : Bool} : toPy (.bl i) = Py.py i := by rw [toPy]; rfl
/-- a list of encodings -/
theorem py_lst {α : Type} [Py α] {o : Bool} {enc : α → D} (h : ∀ a, toPy (enc a) = Py.py a) (l : List α) : toPy (.lst o (l.map enc)) = Py.py l := by
  rw [toPy, toPyL_map, List.map_map]
  exact congrArg PyData.list (List.map_congr_left fun a _ => h a)
theorem py_tup {α : Type} [Py α] {enc : α → D} (h : ∀ a, toPy (enc a) = Py.py a) (l : List α) : toPy (.tup (l.map enc)) = Py.py (⟨l⟩ : Tp α) := by
  rw [toPy, toPyL_map, List.map_map]
  exact congrArg PyData.tuple (List.map_congr_left fun a _ => h a)
theorem py_pair {α β : Type} [Py α] [Py β] {x y : D} {a : α} {b : β} (h : toPy x = Py.py a) (h2 : toPy y = Py.py b) : toPy (.tup [x, y]) = Py.py (a, b) := by
  rw [toPy, toPyL_map, List.map_cons, List.map_cons, List.map_nil, h, h2]
  rfl
theorem py_nums {o : Bool} (l : List Int) : toPy (.lst o (nums l)) = Py.py l := py_lst (fun _ => py_int) l
theorem py_tnums (l : List Int) : toPy (.tup (nums l)) = Py.py (⟨l⟩ : Tp Int) := py_tup (fun _ => py_int) l
theorem py_rows {o p : Bool} (l : List (List Int)) : toPy (.lst o (l.map fun r => D.lst p (nums r))) = Py.py l := py_lst (fun a => py_nums a) l
/-! walks of a list or a tuple -/
section
open PySem L2 PyProof.Rows
def iOr (a b : TI) : TI := fun σ H R => a σ H R ∨ b σ H R
theorem pi_or {X : Cx} {tg e : Expr} {a b : TI} (h1 : PI X tg e a) (h2 : PI X tg e b) : PI X tg e (iOr a b) :=
  ⟨fun pins s σ H R I h => h.elim (h1.run pins s σ H R I) (h2.run pins s σ H R I)⟩
/-- enumerate of a list or a tuple -/
def iEnA (m : ME) : Sl → Res (List D) := fun st => match m st with
  | .ok (.tup _) _ => iEnT m st
  | _ => iEn m st
/-- a list or a tuple -/
def iEA (m : ME) : Sl → Res (List D) := fun st => match m st with
  | .ok (.tup _) _ => iE m tupItems st
  | _ => iE m lstItems st
variable {ca : Nat → Addr} {X : Cx}
theorem ci_or {tg e : Expr} {a b : TI} {A B C : Sl → Res (List D)} (h1 : CI ca X tg e a A) (h2 : CI ca X tg e b B) (hc : ∀ st, C st = A st ∨ C st = B st) : CI ca X tg e (iOr a b) C :=
  ⟨pi_or h1.1 h2.1, fun Hf H R σ st Q p h => by
    rcases hc st with q | q
    · exact .inl (h1.2 Hf H R σ st Q p (q ▸ h))
    · exact .inr (h2.2 Hf H R σ st Q p (q ▸ h))⟩
theorem iEnA_or (m : ME) (st : Sl) : iEnA m st = iEn m st ∨ iEnA m st = iEnT m st := by
  unfold iEnA
  split
  · exact .inr rfl
  · exact .inl rfl
theorem iEA_or (m : ME) (st : Sl) : iEA m st = iE m lstItems st ∨ iEA m st = iE m tupItems st := by
  unfold iEA
  split
  · exact .inr rfl
  · exact .inl rfl
theorem wEnA {m : ME} {st st1 : Sl} {ds : List D} (h : m st = .ok (.tup ds) st1) (hc : colds ds = true) : iEnA m st = .ok (enumD 0 ds) st1 := by
  unfold iEnA
  rw [h]
  show iEnT m st = _
  unfold iEnT
  rw [h]
  exact if_pos hc
theorem wEA {m : ME} {st st1 : Sl} {ds : List D} (h : m st = .ok (.tup ds) st1) (hc : colds ds = true) : iEA m st = .ok ds st1 := by
  unfold iEA
  rw [h]
  exact wE h rfl hc
theorem wEnL {m : ME} {st st1 : Sl} {o : Bool} {ds : List D} (h : m st = .ok (.lst o ds) st1) (hc : colds ds = true) : iEnA m st = .ok (enumD 0 ds) st1 := by
  unfold iEnA
  rw [h]
  show iEn m st = _
  unfold iEn
  rw [h]
  exact if_pos hc
theorem wEL {m : ME} {st st1 : Sl} {o : Bool} {ds : List D} (h : m st = .ok (.lst o ds) st1) (hc : colds ds = true) : iEA m st = .ok ds st1 := by
  unfold iEA
  rw [h]
  exact wE h rfl hc
end
end DL

/-! DL41: method calls, starred calls, short loops evaluated; lists of lists; steps far apart. -/
namespace DL
open PySem (Str)
theorem xMth {C : Nat} {nm : Str} {f : MF} {m0 : ME} {ms : MA} {st st1 st2 : Sl} {d0 d : D} {ds : List D} {ps : Sl} (h0 : m0 st = .ok d0 st1) (hi : insOf C nm d0 = true) (h : ms st1 = .ok ds st2) (hf : f (d0 :: ds) = .ok d ps) : eMth C nm f m0 ms st = .ok d st2 := by
  unfold eMth
  rw [h0]
  show (if insOf C nm d0 = true then _ else _) = _
  rw [if_pos hi, h]
  show (match f (d0 :: ds) with | .ok d _ => Res.ok d st2 | .exc x _ => .exc x st2 | .fail => .fail) = _
  rw [hf]
theorem mStar_ok {n : Nat} {m : MF} {ds : List D} {d : D} {ps : Sl} (hn : n ≤ ds.length) (hl : ds.length ≤ 16777216) (h : m (ds.take n ++ [.tup (frzL (ds.drop n))]) = .ok d ps) : mStar n m ds = .ok d (ps.take n ++ List.replicate (ds.length - n) none) := by
  unfold mStar
  rw [if_pos ⟨hn, hl⟩, h]
theorem forD_nil {g : MG} {body : MS} {st : Sl} : forD g body [] st = .next st := rfl
theorem forD_cons {g : MG} {body : MS} {d : D} {ds : List D} {st st1 st2 : Sl} {r : SR} (h1 : g d st = .ok () st1) (h2 : body st1 = .next st2) (h3 : forD g body ds st2 = r) : forD g body (d :: ds) st = r := by
  rw [forD, h1]
  show (match body st1 with | .next st2 => _ | .cont st2 => _ | .brk st2 => _ | r => r) = _
  rw [h2]
  exact h3
theorem repr_bl (b : Bool) : oRepr [.bl b] = some (.val (.str (if b then "True" else "False"))) := by cases b <;> rfl
theorem repr_non : oRepr [.non] = some (.val (.str "None")) := rfl
end DL
namespace Nw
open DL
theorem frzL_rows : ∀ (L : List (List Int)), frzL (L.map fun r => D.lst false (nums r)) = L.map fun r => D.lst false (nums r)
  | [] => by rw [List.map_nil, frzL]
  | r :: L => by rw [List.map_cons, frzL, fz_l, frzL_rows L]
theorem colds_rows : ∀ (L : List (List Int)), colds (L.map fun r => D.lst false (nums r)) = true
  | [] => rfl
  | r :: L => by
    show (true && colds (L.map fun r => D.lst false (nums r))) = true
    exact colds_rows L
/-- steps far apart -/
theorem far1 {l : List Int} {s t : Int} (h1 : 1 ≤ s) (h2 : s + 2 ≤ t) (h3 : t < l.length) : stp (stp l s) t = stp (stp l t) s := by
  have a := sN_comm (l := l) (i := (s - 1).toNat) (j := (t - 1).toNat) (by omega) (by omega) (by omega)
  unfold sN at a
  rw [show (((s - 1).toNat : Nat) : Int) + 1 = s by omega, show (((t - 1).toNat : Nat) : Int) + 1 = t by omega] at a
  exact a
theorem far2 : ∀ (a : List Int) {t : Int} (l : List Int), (∀ s ∈ a, 1 ≤ s ∧ s + 2 ≤ t) → t < l.length → runL a (stp l t) = stp (runL a l) t
  | [], _, _, _, _ => rfl
  | s :: a, t, l, h, ht => by
    show runL a (stp (stp l t) s) = stp (runL a (stp l s)) t
    obtain ⟨h1, h2⟩ := h s List.mem_cons_self
    rw [← far1 h1 h2 ht]
    exact far2 a (stp l s) (fun x hx => h x (List.mem_cons_of_mem _ hx)) (by rw [stp_len]; exact ht)
theorem far : ∀ (b a l : List Int), (∀ s ∈ a, ∀ t ∈ b, 1 ≤ s ∧ s + 2 ≤ t) → (∀ t ∈ b, t < l.length) → runL a (runL b l) = runL b (runL a l)
  | [], _, _, _, _ => rfl
  | t :: b, a, l, h, hl => by
    show runL a (runL b (stp l t)) = runL b (stp (runL a l) t)
    rw [far b a (stp l t) (fun s hs x hx => h s hs x (List.mem_cons_of_mem _ hx)) (fun x hx => by rw [stp_len]; exact hl x (List.mem_cons_of_mem _ hx)), far2 a l (fun s hs => h s hs t List.mem_cons_self) (hl t List.mem_cons_self)]
theorem rep_run (a : List Int) : ∀ (k : Nat) (l : List Int), runL (List.replicate k a).flatten (runL a l) = runL a (runL (List.replicate k a).flatten l)
  | 0, _ => rfl
  | k + 1, l => by
    rw [List.replicate_succ, List.flatten_cons, runL_app, runL_app, rep_run a k]
theorem rep_comm (a : List Int) (j : Nat) : ∀ (k : Nat) (l : List Int), runL (List.replicate j a).flatten (runL (List.replicate k a).flatten l) = runL (List.replicate k a).flatten (runL (List.replicate j a).flatten l)
  | 0, _ => rfl
  | k + 1, l => by
    rw [List.replicate_succ, List.flatten_cons, runL_app, runL_app, rep_comm a j k, rep_run]
theorem okS_rep {w : Int} {a : List Int} (h : okS w a) (k : Nat) : okS w (List.replicate k a).flatten := fun s hs => by
  obtain ⟨l, hl, hs⟩ := List.mem_flatten.mp hs
  rw [(List.mem_replicate.mp hl).2] at hs
  exact h s hs
theorem len_rep (a : List Int) : ∀ k : Nat, (List.replicate k a).flatten.length = k * a.length
  | 0 => by simp
  | k + 1 => by rw [List.replicate_succ, List.flatten_cons, List.length_append, len_rep a k, Nat.succ_mul]; omega
theorem okS_app {w : Int} {x y : List Int} (hx : okS w x) (hy : okS w y) : okS w (x ++ y) := fun s hs => (List.mem_append.mp hs).elim (hx s) (hy s)
end Nw

/-! DL42: xs.extend(tuple). -/
namespace DL
open PySem PySem.Spec PyProof.Rows L2
open AutoSeq1 (wpAny_loadPart')
theorem extT (l : Addr) (items : Array Value) (n : Nat) (b : Addr) (items2 : Array Value) (n2 : Nat) (dd : Option Addr) (sl : Array (Option Value)) (hs0 : ¬(!items.isEmpty && Builtin.List.listTooLong (items.size + items2.size)) = true) (hs1 : items.size ≤ sizeLine) (hs2 : items.size + items2.size ≤ sizeLine + 1) :
    Meets (Builtin.«list.extend» ⟨[.ref l, .ref b], []⟩) (fun _ R s => s.heap.get? l = some { cls := .type "list", dict := none, data := .seq items n, slots := #[] } ∧ s.heap.get? b = some { cls := .type "tuple", dict := dd, data := .seq items2 n2, slots := sl } ∧ R (.ok (.ret Value.none)) { s with heap := s.heap.update l (Obj.mapSeq fun x => x ++ items2), toks := s.toks }) :=
  .of_wp fun prog w A R s h => by
    obtain ⟨hp, g, d, tk, os⟩ := s
    obtain ⟨hl, hb, h⟩ := h
    have f1 := AutoSeq1.idx_int
    have f2 := AutoSeq1.sub_tuple_tuple
    have f3 := AutoSeq1.sub_list_list
    have f4 := AutoSeq1.sub_tuple_list
    have f5 := AutoSeq1.sub_list_tuple
    have hz' : (items ++ items2).size ≤ sizeLine + 1 := by rw [Array.size_append]; exact hs2
    wp_walk using (wpAny_updateSeq hl rfl (hz := hs1) (_hz' := hz')), wpAny_loadPart' hl, wpAny_loadPart' hb
    exact ⟨_, rfl, h⟩
def rExtendT (K : PySem.W.Frag) : V → List V → Hp → VK → Prop := fun x vs H Q => ∃ l b xs zs, x = .ref l ∧ vs = [.ref b] ∧ H l = some (.lst xs) ∧ SqT K H b zs ∧ xs.length + zs.length ≤ sizeLine ∧ Q .non (upd H l (.lst (xs ++ zs)))
theorem mt_extendT {X : Cx} : MtM X "list.extend" (rExtendT X.K) := by
  intro pins s σ H x vs v us Q I rx rv h
  obtain ⟨l, b, xs, zs, rfl, rfl, hH, hB, hz, q⟩ := h
  cases rx
  obtain ⟨u, rfl, ru⟩ := rv.one
  cases ru
  obtain ⟨z, its, n, r, hl, e⟩ := I.lstM hH
  obtain ⟨its2, r2, ⟨⟨cls, dd, data, sl⟩, ho, hc, n2, hd⟩, hs⟩ := I.tuple hB
  simp only at hc hd
  subst hc hd
  have hl2 : its2.length = zs.length := r2.length.symm
  have hl1 : its.length = xs.length := r.length.symm
  have hsz : its.toArray.size + its2.toArray.size ≤ sizeLine := by rw [List.size_toArray, List.size_toArray]; omega
  have hlong : ¬ (!its.toArray.isEmpty && Builtin.List.listTooLong (its.toArray.size + its2.toArray.size)) = true := by
    rw [notLongL hsz, Bool.and_false]
    exact Bool.false_ne_true
  refine call_meets F.slot_list_extend ⟨_, e, rfl⟩ F.entry_list_extend (F.args_list_extend_2 _ _)
    (extT l its.toArray n b its2.toArray n2 dd sl hlong (by rw [List.size_toArray]; omega) (by omega)) ⟨e, ho, ?_⟩
  refine ⟨.non, _, I.lset (its' := its ++ its2) hH e (by simp) (r.append r2) ?_, rfl, q⟩
  rw [List.length_append]
  omega
def ext2T : Option D → D → Option (List D)
  | some (.lst true xs), .tup ys => if colds ys && decide (xs.length + ys.length ≤ 16777216) then some (xs ++ ys) else none
  | _, _ => none
theorem ext2T_some {o : Option D} {d : D} {zs : List D} (h : ext2T o d = some zs) : ∃ xs ys, o = some (.lst true xs) ∧ d = .tup ys ∧ colds ys = true ∧ xs.length + ys.length ≤ 16777216 ∧ zs = xs ++ ys := by
  unfold ext2T at h
  split at h
  · split at h
    · rename_i c
      rw [Bool.and_eq_true, decide_eq_true_eq] at c
      cases h
      exact ⟨_, _, rfl, rfl, c.1, c.2, rfl⟩
    · cases h
  · cases h
/-- xs.extend(tuple) -/
def eExtT (i : Nat) (m : ME) : ME := fun st => match getS st i with
  | some d0 => if isLst d0 then (m st).bind fun d st1 => (match ext2T (getS st1 i) d with
    | some zs => .ok .non (st1.set i (some (.lst true zs)))
    | none => .fail) else .fail
  | none => .fail
section
variable {ca : Nat → Addr} {K : PySem.W.Frag} {Hf H Hf1 H1 Hf2 H2 : Hp} {S S1 S2 P P1 P2 : Rg} {R R1 R2 : Nat → Rg} {σ : L2.St} {st : Sl} {X : Cx}
theorem ce_extT {o e : Expr} {i : Nat} {m : ME} {apos cpos : Pos} (ho : PE X o (tVar i)) (he : CE ca X e m)
    (hbase : attributeBase o "extend" X.env (eval o X.env) = eval o X.env := by rfl)
    (hfew : ((backTo cpos (starEach [e] X.env)).all (fun x => !x.1) &&
        (backToKw cpos (keywordEach [] X.env)).all (fun x => x.1.isSome)
      && decide ([e].length + ([] : List Keyword).length + (if ([] : List Keyword).isEmpty then 0 else 1) < 30)) = true := by rfl)
    (hline : (apos.endLine == cpos.line) = true := by rfl) (hs : starEach [e] X.env = (false, eval e X.env) :: starEach [] X.env := by rfl) :
    CE ca X (.Call (.Attribute o "extend" apos) [e] [] cpos) (eExtT i m) := fun Hf H R σ st Q p h => by
  refine we_of (pe_bm PySem.F.plainAttrs_list PySem.F.slot_list_extend PySem.F.type_list_extend mt_extendT ho (pa_cons (we_pe X e) pa_nil hs) hbase hfew hline hs rfl) ?_
  unfold eExtT at h
  cases g : getS st i with
  | none => rw [g] at h; exact h.elim
  | some d0 =>
    rw [g] at h
    dsimp only at h
    by_cases hl : isLst d0 = true
    · rw [if_pos hl] at h
      obtain ⟨x, ex, rx⟩ := p.at_ i d0 g
      refine ⟨x, ex, rep_isLst p.w.ex rx hl, he Hf H R σ st _ p ?_⟩
      cases em : m st with
      | fail => rw [em] at h; exact h
      | exc x0 st1 => rw [em] at h; exact h
      | ok d st1 =>
        rw [em] at h
        have h0 : Post ca X Hf H (jn Em R) σ (match ext2T (getS st1 i) d with
          | some zs => .ok .non (st1.set i (some (.lst true zs)))
          | none => .fail) Q := h
        clear h
        intro Hf1 H1 P1 R1 v t1 p1
        cases g1 : ext2T (getS st1 i) d with
        | none => rw [g1] at h0; exact h0.elim
        | some zs =>
          rw [g1] at h0
          obtain ⟨xs, ys, g2, rfl, hz1, hz2, rfl⟩ := ext2T_some g1
          obtain ⟨a, vs, e1, ra, e2, r2⟩ := p1.drop.ownList g2
          rw [ex] at e1
          cases e1
          obtain ⟨b, ws, rfl, e4, r4⟩ := rep_tup p1.w.ex p1.pend
          refine ⟨a, b, vs, ws, rfl, rfl, e2, .inl (.inl e4), by rw [r2.length, r4.length, ← sz_eq]; exact hz2, ?_⟩
          have rN : RepL ca X.K Hf1 H1 (fun b => R1 i b ∧ b ≠ a) (vs ++ ws) (xs ++ ys) := repL_app' (S1 := fun b => R1 i b ∧ b ≠ a) (S2 := Em) r2 (repL_cold r4 hz1) (fun _ q => q) (fun _ q => q.elim) fun _ _ q => q
          obtain ⟨p2, t2⟩ := p1.drop.write g2 ex ra rN
          exact h0 Hf1 _ Em R1 .non ((less0 t1).trans t2) (p2.put .non)
    · rw [if_neg hl] at h; exact h.elim
end
theorem xExtT {i : Nat} {m : ME} {st st1 st' : Sl} {a : D} {xs ys : List Int} (h0 : getS st i = some a) (hl : isLst a = true) (h : m st = .ok (.tup (nums ys)) st1) (h2 : getS st1 i = some (.lst true (nums xs))) (hn : xs.length + ys.length ≤ 16777216) (hs : st1.set i (some (.lst true (nums (xs ++ ys)))) = st') : eExtT i m st = .ok .non st' := by
  unfold eExtT
  rw [h0]
  dsimp only
  rw [if_pos hl, h]
  dsimp only [Res.bind]
  rw [h2]
  have e : ext2T (some (.lst true (nums xs))) (.tup (nums ys)) = some (nums (xs ++ ys)) := by
    unfold ext2T
    dsimp only
    rw [nums_colds, nums_len, nums_len, decide_eq_true hn, nums_app]
    rfl
  rw [e, ← hs]
end DL

/-! DL43: enumerate(list, k). -/
namespace DL
open PySem L2 PyProof.Rows
open Sem (wp)
/-- the list at a, each item in a new pair with its number from k on -/
def IteK (K : PySem.W.Frag) (k : Nat) (a : Addr) : It where
  go := fun i H => ∃ ys y, SqL K H a ys ∧ ys[i]? = some y
  yld := fun i H v H' => ∃ T x, v = .ref T ∧ H T = none ∧ H' = upd H T (.tup [.int ((k + i : Nat) : Int), x]) ∧ ∀ ys, SqL K H a ys → ys[i]? = some x
  stop := fun i H => ∃ ys : List V, SqL K H a ys ∧ ys.length ≤ i
structure EkAt (k : Nat) (a e it : Addr) (i : Nat) (h : Heap) : Prop where
  en : ∃ old, IsEnum h e it ((k + i : Nat) : Int) old
  iter : h.IsListIter it a i
  n1 : e ≠ it
  n2 : e ≠ a
  n3 : a ≠ it
section
variable {pr : Program} {wo : World} {Ar : Around} {Ex' : Value → Shared → Prop} {st : Shared}
theorem ek_end {e it t : Addr} {i : Nat} {c : Int} {xs : Array Value} {old : Value} {Q : Option Value → Shared → Prop} (hh : Ar.handled = none) (he : IsEnum st.heap e it c old) (hi : st.heap.IsListIter it t i)
    (ht : st.heap.IsList t xs) (hx : xs[i]? = none) (hq : ∀ h', Heap.ExtBut it st.heap h' → Q none { st with heap := h' }) : wpAny (model pr wo) Ar (pyNext (.ref e)) Q Ex' st := by
  have ty : st.TypeIs (.ref e) "enumerate" := ⟨_, he, rfl⟩
  unfold pyNext
  refine wpAny_bind (wpAny_attempt
      ?_)
  refine wpAny_callSpecial?_slot (name := Str.ofString "__next__") ty F.slot_enumerate_next ?_
  refine wpAny_call_entry F.slot_enumerate_next ty F.entry_enumerate_next ?_ (F.args_enumerate_next_1 _)
  refine wpAny_bind (m := field (.ref e) 2) ?_
  refine wpAny_field he rfl (x := .ref it) rfl (wpAny_bind ?_)
  refine wpAny_nextOf_list_end hh hi ht hx fun h' x ext ⟨o, ho, hc⟩ => ?_
  refine wpAny_bind ?_
  exact wpAny_isInstance (T := "StopIteration") (b := true)
    ⟨o, ho, hc⟩ isSubtype_stop (wpAny_pure (hq _ ext))
end
theorem turn_enumK {P : Program} {w : World} {K : PySem.W.Frag} {elts : List Expr} {kk : Nat} {tpos : Pos} (k : Nat) (a e it : Addr) : Turn P w K (.Tuple elts kk tpos) (IteK K k a) [e, it] e (EkAt k a e it) where
  mem := List.mem_cons_self
  obj := by
    intro i h z b hb
    obtain ⟨old, he⟩ := z.en
    obtain ⟨o, ho, _, hd⟩ := z.iter
    rcases two_mem hb with rfl | rfl
    · exact ⟨_, he, fun _ q => nomatch q⟩
    · refine ⟨o, ho, fun v q => ?_⟩
      rw [hd] at q
      cases q
  keep := by
    intro i h h' z kp
    obtain ⟨old, he⟩ := z.en
    exact ⟨⟨old, kp e (List.mem_cons_self) _ he⟩, z.iter.at fun o q => kp it (by simp) o q, z.n1, z.n2, z.n3⟩
  item := by
    intro X e1 e2 e3 calm i pins s σ H E I fresh z go
    subst e1 e2 e3
    obtain ⟨old, he⟩ := z.en
    obtain ⟨ys, y, hq, hy⟩ := go
    obtain ⟨us, rel, isL, _⟩ := I.list hq
    obtain ⟨u, hu, ru⟩ := rel.get hy
    have isL' : s.heap.IsList a us.toArray := isL.isList
    have below : ∀ b ∈ [e, it], b < s.heap.objs.size := fun b hb => by
      rcases two_mem hb with rfl | rfl
      · exact Heap.lt_size he
      · obtain ⟨_, q, _⟩ := z.iter
        exact Heap.lt_size q
    have ilt : i < us.toArray.size := by simpa using (List.getElem?_eq_some_iff.mp hu).1
    have draws := Draws.list (prog := X.prog) (w := X.w) (A := X.A.in1) (I.ok.hd calm) it a z.n3 us.toArray
    refine wpAny_pyNext_enum_itemC draws he ⟨z.iter, isL'⟩ ilt z.n1 (by simp [z.n1, z.n2]) fun xv h1 tk at_i out st1 newT size kept => ?_
    obtain rfl : u = xv := by
      have q : us.toArray[i]? = some u := by simpa using hu
      exact Option.some.inj (q.symm.trans at_i)
    refine ⟨_, rfl, ?_⟩
    refine wpAny_letOwnedTupleGo_enum (s := { s with heap := h1, toks := tk + 1 }) out fun h2 en2 same => ?_
    have eN : s.heap.objs.size ≠ e := Nat.ne_of_gt (below e List.mem_cons_self)
    have T2 : h2.get? s.heap.objs.size = some { cls := .type "tuple", data := .seq #[.int ((k + i : Nat) : Int) tk, u] } := (same.2 _ eN).trans newT
    have pair : Vals [V.int ((k + i : Nat) : Int), y] [.int ((k + i : Nat) : Int) tk, u] := .cons ⟨_, rfl⟩ (.cons ru .nil)
    have ok : ObjOk X.prog X.w (upd H s.heap.objs.size (.tup [.int ((k + i : Nat) : Int), y])) h2 s.heap.objs.size
        (.tup [.int ((k + i : Nat) : Int), y]) := ⟨show 2 ≤ sizeLine from by decide, _, pair, ⟨_, T2, rfl, _, rfl⟩⟩
    have stays : ∀ b o, b ∉ [e, it] → s.heap.get? b = some o → h2.get? b = some o := fun b o nb q => by
      have b1 : b ≠ e := fun h => nb (by simp [h])
      have b2 : b ≠ it := fun h => nb (by simp [h])
      exact (same.2 b b1).trans (kept b o b1 b2 q)
    have J := I.turnedNew (t' := tk + 1) (ch := [e, it]) stays fresh (Nat.le_refl _) ok
    refine ⟨.ref s.heap.objs.size, _, J, rfl, ⟨_, y, rfl, I.hok.fresh (Nat.le_refl _), rfl, ?_⟩, ⟨⟨u, ?_⟩, ?_, z.n1, z.n2, z.n3⟩, ?_⟩
    · intro ws hws
      rw [I.list_inj hws hq]
      exact hy
    · rw [show ((k + (i + 1) : Nat) : Int) = ((k + i : Nat) : Int) + 1 by omega]
      exact en2
    · exact st1.1.at fun o q => (same.2 it z.n1.symm).trans q
    · intro b hb
      rw [upd_ne (Nat.ne_of_lt (below b hb))]
      exact (fresh b hb).1
  done := by
    intro X e1 e2 e3 calm i pins s σ H E I fresh z stop
    subst e1 e2 e3
    obtain ⟨old, he⟩ := z.en
    obtain ⟨ys, hq, le⟩ := stop
    obtain ⟨us, rel, isL, _⟩ := I.list hq
    have isL' : s.heap.IsList a us.toArray := isL.isList
    have len := rel.length
    have none_at : us.toArray[i]? = none := by
      simp
      omega
    have ft := fresh it (by simp)
    refine ek_end (I.ok.hd calm) he z.iter isL' none_at fun h' ext => ⟨rfl, ?_⟩
    exact I.turned (t' := s.toks) (fun b o nb q => ext b o nb q) ft.1 ft.2.1 ft.2.2.2.1 ft.2.2.2.2.1 ft.2.2.2.2.2
  self := by
    intro A i s Q E z h
    obtain ⟨_, he⟩ := z.en
    exact wpAny_pyIter_enum he h
def iEnumK (K : PySem.W.Frag) (ta : TA) : TI := fun σ H R => ta σ H fun vs H1 => ∃ (a : Addr) (ys : List V) (k : Nat), vs = [.ref a, .int (k : Int)] ∧ k < 1000000 ∧ SqL K H1 a ys ∧ R (IteK K k a) H1
theorem pi_enumK {X : Cx} {e e2 : Expr} {ta : TA} {p pos tpos : Pos} {elts : List Expr} {kk : Nat} (hg : Gl X "enumerate") (hm : X.mg "enumerate" = none) (ha : PA X [e, e2] ta)
    (hs : starEach [e, e2] X.env = (false, eval e X.env) :: starEach [e2] X.env := by rfl) (hpl : (backTo pos (starEach [e2] X.env)).any (·.1) = false := by rfl) :
    PI X (.Tuple elts kk tpos) (.Call (.Name "enumerate" p) [e, e2] [] pos) (iEnumK X.K ta) := by
  constructor
  intro pins s σ H R I h
  refine Call_ (ld_blt I hg hm boot_enumerate ?_)
  refine PyProof.Rows.callWith_type1 (thn (ha.run pos pins s σ H _ I h) ?_) hs hpl
  rintro us s1 ⟨vs, H1, I1, rel, a, ys, k, rfl, hk, hq, goal⟩
  cases rel with
  | cons r rr => cases rr with
    | cons r' rr =>
      cases rr
      cases r
      obtain ⟨t, rfl⟩ := r'
      obtain ⟨its, _, isL, _⟩ := I1.list hq
      have isL' : s1.heap.IsList a its.toArray := isL.isList
      have alt : a < s1.heap.objs.size := by
        obtain ⟨o, ho, _⟩ := isL'
        exact Heap.lt_size ho
      refine enum_begins (begins_list a its.toArray) isL' (by omega) (by omega) fun h' en itr hsz grown => wpAny_pyIter_enum en ?_
      have I2 := I1.kept (t' := s1.toks) grown
      refine ⟨s1.heap.objs.size + 1, [s1.heap.objs.size + 1, s1.heap.objs.size], _, _, H1, rfl, I2, turn_enumK k a (s1.heap.objs.size + 1) s1.heap.objs.size,
        ⟨⟨.none, en⟩, ⟨_, itr, rfl, rfl⟩, Nat.succ_ne_self _, Nat.ne_of_gt (Nat.lt_succ_of_lt alt), Nat.ne_of_lt alt⟩, ?_, goal⟩
      intro b hb
      have up : s1.heap.objs.size ≤ b := by
        rcases two_mem hb with rfl | rfl
        · exact Nat.le_succ _
        · exact Nat.le_refl _
      exact I1.fpOk up (I1.hok.fresh up)
section
variable {ca : Nat → Addr} {K : PySem.W.Frag} {Hf H : Hp} {vs : List V} {ds : List D} {X : Cx}
theorem itd_enumK {k : Nat} {a : Addr} (h : SqL K Hf a vs) (r : RepL ca K Hf H Em vs ds) : ItD ca K (IteK K k a) Hf (enumD k ds) := by
  intro Hf' H' x1 x2
  have x3 : Ex Hf H' := fun a o e => x2 a o (x1 a o e)
  refine ⟨fun i hi => ?_, ⟨vs, sqL_ex x3 h, by rw [r.length, enumD_length]; exact Nat.le_refl _⟩, fun i d x H2 e y => ?_⟩
  · have : i < vs.length := by rw [r.length]; rw [enumD_length] at hi; exact hi
    exact ⟨vs, vs[i], sqL_ex x3 h, by simp [this]⟩
  · obtain ⟨T, xv, rfl, hT, rfl, y⟩ := y
    obtain ⟨d', e1, rfl⟩ := enumD_get e
    obtain ⟨v', T', e2, r2, z⟩ := repL_at r e1
    have := y vs (sqL_ex x3 h)
    rw [e2] at this
    have e3 : v' = xv := Option.some.inj this
    subst e3
    have hT' : Hf' T = none := by
      cases q : Hf' T with
      | none => rfl
      | some o => rw [x2 T o q] at hT; cases hT
    refine ⟨rfl, upd Hf' T (.tup [.int ((k + i : Nat) : Int), v']), fun b o e => upd_keep hT' b o e, fun b o e => upd_keep hT b o e, fun b o e => ?_, fun b o e => ?_, ?_⟩
    · by_cases q : b = T
      · subst q; rw [upd_same] at e ⊢; exact e
      · rw [upd_ne q] at e ⊢; exact x2 b o e
    · by_cases q : b = T
      · subst q; exact .inr hT
      · rw [upd_ne q] at e; exact .inl e
    · have k2 := (r2.mono z).keep (Hf' := upd Hf' T (.tup [.int ((k + i : Nat) : Int), v'])) (H' := upd H' T (.tup [.int ((k + i : Nat) : Int), v'])) (fun b o e => upd_keep hT' b o (x1 b o e)) fun _ q => q.elim
      exact .tup upd_same (.cons (S1 := Em) (S2 := Em) .int (RepL.one k2) (fun _ q => q) (fun _ q => q) fun _ q _ => q)
/-- enumerate(list, k) -/
def iEnK (ms : MA) : Sl → Res (List D) := fun st => (ms st).bind fun ds st1 => match ds with
  | [d, .int k] => (match lstItems d with
    | some xs => if colds xs = true ∧ 0 ≤ k ∧ k < 1000000 then .ok (enumD k.toNat xs) st1 else .fail
    | none => .fail)
  | _ => .fail
theorem ci_enumK {a b : Expr} {ms : MA} {p pos tpos : Pos} {elts : List Expr} {kk : Nat} (hg : Gl X "enumerate") (hm : X.mg "enumerate" = none) (ha : CL ca X [a, b] ms) (hst : NoStar [a, b] := by exact ⟨fun _ => rfl, fun _ => rfl, trivial⟩) (hpl : (backTo pos (starEach [b] X.env)).any (·.1) = false := by rfl) :
    CI ca X (.Tuple elts kk tpos) (.Call (.Name "enumerate" p) [a, b] [] pos) (iEnumK X.K (Wa X [a, b])) (iEnK ms) :=
  ⟨pi_enumK hg hm (wa_pa X [a, b]) (hst.1 _) hpl, fun Hf H R σ st Q p h => by
    refine wa_wl (fun e' r' q => noStar_suf hst e' r' q _) (ha Hf H R σ st _ p ?_)
    unfold iEnK at h
    cases r : ms st with
    | fail => rw [r] at h; exact h
    | exc x st => rw [r] at h; exact h
    | ok ds st1 =>
      rw [r] at h
      intro Hf1 H1 P R1 vs t1 p1
      dsimp only [Res.bind] at h
      match ds, h with
      | [d, .int k], h =>
        dsimp only at h
        cases e1 : lstItems d with
        | none => rw [e1] at h; exact h.elim
        | some xs =>
          rw [e1] at h
          dsimp only at h
          by_cases hc : colds xs = true ∧ 0 ≤ k ∧ k < 1000000
          · rw [if_pos hc] at h
            obtain ⟨Hf', x1, x2, p', t'⟩ := p1.standP
            cases p1.pend with
            | cons q1 q2 c1 c2 c3 => cases q2 with
              | cons q3 q4 c4 c5 c6 =>
                cases q4
                obtain ⟨a1, u1, rfl, s1, r1⟩ := rep_std q1 e1 hc.1 x1 fun b z => x2 b (c1 b z)
                obtain ⟨n, hn⟩ : ∃ n : Nat, k = (n : Int) := ⟨k.toNat, by omega⟩
                subst hn
                rw [Int.toNat_natCast] at h
                exact ⟨a1, u1, n, by rw [rep_int q3], by omega, sqL_ex p'.w.ex s1, h Hf' H1 R1 _ (t1.trans t') p' (itd_enumK s1 r1)⟩
          · rw [if_neg hc] at h; exact h.elim⟩
end
theorem wEnK {ms : MA} {st st1 : Sl} {o : Bool} {ds : List D} {k : Nat} (h : ms st = .ok [.lst o ds, .int (k : Int)] st1) (hc : colds ds = true) (hk : k < 1000000) : iEnK ms st = .ok (enumD k ds) st1 := by
  unfold iEnK
  rw [h]
  show (if colds ds = true ∧ 0 ≤ ((k : Nat) : Int) ∧ ((k : Nat) : Int) < 1000000 then Res.ok (enumD ((k : Nat) : Int).toNat ds) st1 else .fail) = _
  rw [if_pos ⟨hc, by omega, by omega⟩, Int.toNat_natCast]
theorem wZ {ms : MA} {st st1 : Sl} {o p : Bool} {ds es : List D} (h : ms st = .ok [.lst o ds, .lst p es] st1) (hc : colds ds = true) (hc2 : colds es = true) : iZ ms st = .ok (zipD ds es) st1 := by
  unfold iZ
  rw [h]
  show (if (colds ds && colds es) = true then _ else _) = _
  rw [hc, hc2]
  rfl
end DL

/-! DL44: how many small numbers stand in front; one list in front of another; steps left out. -/
namespace Nw
/-- how many of the first p numbers are at most t -/
def cp (t : Int) (l : List Int) (p : Nat) : Nat := ((l.take p).filter fun x => decide (x ≤ t)).length
def sm (t x : Int) : Nat := if x ≤ t then 1 else 0
theorem cp_nil (t : Int) (p : Nat) : cp t [] p = 0 := by unfold cp; rw [List.take_nil]; rfl
theorem cp_0 (t : Int) (l : List Int) : cp t l 0 = 0 := rfl
theorem cp_cons (t x : Int) (l : List Int) (p : Nat) : cp t (x :: l) (p + 1) = sm t x + cp t l p := by
  unfold cp sm
  rw [List.take_succ_cons]
  by_cases h : x ≤ t
  · rw [List.filter_cons_of_pos (by simpa using h), if_pos h, List.length_cons]; omega
  · rw [List.filter_cons_of_neg (by simpa using h), if_neg h]; omega
theorem cp_app (t : Int) : ∀ (a b : List Int) (p : Nat), cp t (a ++ b) (a.length + p) = cp t a a.length + cp t b p
  | [], b, p => by rw [List.nil_append, List.length_nil, Nat.zero_add, cp_0, Nat.zero_add]
  | x :: a, b, p => by
    rw [List.cons_append, List.length_cons, show a.length + 1 + p = (a.length + p) + 1 by omega, cp_cons, cp_app t a b p, cp_cons]
    omega
theorem cp_low (t : Int) : ∀ (a b : List Int) (p : Nat), p ≤ a.length → cp t (a ++ b) p = cp t a p
  | _, _, 0, _ => rfl
  | [], _, p + 1, h => by simp at h
  | x :: a, b, p + 1, h => by
    rw [List.cons_append, cp_cons, cp_cons, cp_low t a b p (by simpa using h)]
/-- the counts around a pair -/
theorem cp_mid (t : Int) (a r : List Int) (x y : Int) (p : Nat) : cp t (a ++ x :: y :: r) p =
    if p ≤ a.length then cp t a p else if p = a.length + 1 then cp t a a.length + sm t x else cp t a a.length + sm t x + sm t y + cp t r (p - a.length - 2) := by
  by_cases h : p ≤ a.length
  · rw [if_pos h, cp_low t _ _ _ h]
  · rw [if_neg h]
    by_cases h2 : p = a.length + 1
    · rw [if_pos h2, h2, cp_app, show (1 : Nat) = 0 + 1 from rfl, cp_cons, cp_0]; omega
    · rw [if_neg h2]
      obtain ⟨k, rfl⟩ : ∃ k, p = a.length + (k + 1 + 1) := ⟨p - a.length - 2, by omega⟩
      rw [cp_app, cp_cons, cp_cons, show a.length + (k + 1 + 1) - a.length - 2 = k by omega]
      omega
theorem sm_le (t x : Int) : sm t x ≤ 1 := by unfold sm; split <;> omega
theorem sm_min (t x y : Int) : sm t (min x y) = min (sm t x + sm t y) 1 := by
  unfold sm
  by_cases h1 : x ≤ t <;> by_cases h2 : y ≤ t <;> simp [h1, h2] <;> omega
theorem sm_max (t x y : Int) : sm t (max x y) = sm t x + sm t y - 1 := by
  unfold sm
  by_cases h1 : x ≤ t <;> by_cases h2 : y ≤ t <;> simp [h1, h2] <;> omega
/-- a list splits at a step -/
theorem at_step {l : List Int} {s : Int} (h1 : 1 ≤ s) (h2 : s < l.length) : ∃ a x y r, l = a ++ x :: y :: r ∧ a.length + 1 = s.toNat ∧ hit l s = decide (y < x) ∧ xch l s = a ++ y :: x :: r := by
  obtain ⟨a, r, e, ha⟩ := split2 (l := l) (i := (s - 1).toNat) (by omega)
  refine ⟨a, _, _, r, e, by omega, ?_, ?_⟩
  · unfold hit
    rw [show (s - 1).toNat + 1 = s.toNat by omega]
  · have := xch_split (p := a) (r := r) (a := l.getD (s - 1).toNat 0) (b := l.getD ((s - 1).toNat + 1) 0) h1 (by omega)
    rw [← e] at this
    exact this
theorem stp_eq {l : List Int} {s : Int} (h1 : 1 ≤ s) (h2 : s < l.length) : ∃ a x y r, l = a ++ x :: y :: r ∧ a.length + 1 = s.toNat ∧ stp l s = a ++ min x y :: max x y :: r := by
  obtain ⟨a, x, y, r, e, ha, hh, hx⟩ := at_step h1 h2
  refine ⟨a, x, y, r, e, ha, ?_⟩
  unfold stp
  by_cases h : y < x
  · rw [hh, decide_eq_true h, if_pos rfl, hx, Int.min_eq_right (by omega), Int.max_eq_left (by omega)]
  · rw [hh, decide_eq_false h, if_neg (by decide), e, Int.min_eq_left (by omega), Int.max_eq_right (by omega)]
/-- what a step does to the counts -/
theorem cp_stp {l : List Int} {s : Int} (h1 : 1 ≤ s) (h2 : s < l.length) (t : Int) (p : Nat) :
    cp t (stp l s) p = if p = s.toNat then min (cp t l (s.toNat + 1)) (cp t l (s.toNat - 1) + 1) else cp t l p := by
  obtain ⟨a, x, y, r, e, ha, hs⟩ := stp_eq h1 h2
  rw [hs, e, ← ha]
  have m1 := sm_min t x y
  have m2 := sm_max t x y
  have m3 := sm_le t x
  have m4 := sm_le t y
  simp only [cp_mid, Nat.add_sub_cancel, Nat.le_refl, if_true]
  rw [if_neg (show ¬ a.length + 1 + 1 ≤ a.length by omega), if_neg (show ¬ a.length + 1 + 1 = a.length + 1 by omega), show a.length + 1 + 1 - a.length - 2 = 0 by omega, cp_0]
  by_cases c1 : p ≤ a.length
  · rw [if_pos c1, if_neg (by omega), if_pos c1]
  · rw [if_neg c1]
    by_cases c2 : p = a.length + 1
    · rw [if_pos c2, if_pos c2]; omega
    · rw [if_neg c2, if_neg c2, if_neg c1, if_neg c2]; omega
/-- l holds at every place at least as many small numbers in front as m -/
def dom (l m : List Int) : Prop := ∀ t p, cp t m p ≤ cp t l p
theorem dom_refl (l : List Int) : dom l l := fun _ _ => Nat.le_refl _
theorem dom_trans {l m k : List Int} (h1 : dom l m) (h2 : dom m k) : dom l k := fun t p => Nat.le_trans (h2 t p) (h1 t p)
theorem dom_stp {l m : List Int} {s : Int} (h1 : 1 ≤ s) (h2 : s < l.length) (h3 : s < m.length) (h : dom l m) : dom (stp l s) (stp m s) := fun t p => by
  rw [cp_stp h1 h2, cp_stp h1 h3]
  split
  · have a := h t (s.toNat + 1)
    have b := h t (s.toNat - 1)
    omega
  · exact h t p
theorem cp_mono (t : Int) (l : List Int) (p : Nat) : cp t l p ≤ cp t l (p + 1) ∧ cp t l (p + 1) ≤ cp t l p + 1 := by
  induction l generalizing p with
  | nil => rw [cp_nil, cp_nil]; omega
  | cons x l ih =>
    cases p with
    | zero => rw [cp_0, cp_cons, cp_0]; have := sm_le t x; omega
    | succ p => rw [cp_cons, cp_cons]; have := ih p; omega
theorem dom_up {l : List Int} {s : Int} (h1 : 1 ≤ s) (h2 : s < l.length) : dom (stp l s) l := fun t p => by
  rw [cp_stp h1 h2]
  split
  · rename_i e
    subst e
    have a := cp_mono t l s.toNat
    have b := cp_mono t l (s.toNat - 1)
    rw [show s.toNat - 1 + 1 = s.toNat by omega] at b
    omega
  · exact Nat.le_refl _
theorem dom_run : ∀ (ss : List Int) {l m : List Int}, okS l.length ss → l.length = m.length → dom l m → dom (runL ss l) (runL ss m)
  | [], _, _, _, _, h => h
  | s :: ss, l, m, hs, hl, h => by
    have a := hs s List.mem_cons_self
    exact dom_run ss (l := stp l s) (m := stp m s) (by rw [stp_len]; exact fun x hx => hs x (List.mem_cons_of_mem _ hx)) (by rw [stp_len, stp_len, hl]) (dom_stp a.1 (by omega) (by omega) h)
/-- steps left out -/
theorem dom_sub {M N : List Int} (h : M.Sublist N) : ∀ {l : List Int}, okS l.length N → dom (runL N l) (runL M l) := by
  induction h with
  | slnil => exact fun _ => dom_refl _
  | @cons M N s _ ih =>
    intro l hs
    have a := hs s List.mem_cons_self
    have hs' : okS l.length N := fun x hx => hs x (List.mem_cons_of_mem _ hx)
    exact dom_trans (dom_run N (l := stp l s) (m := l) (by rw [stp_len]; exact hs') (stp_len _ _) (dom_up a.1 (by omega))) (ih hs')
  | @cons_cons M N s _ ih =>
    intro l hs
    exact ih (l := stp l s) (by rw [stp_len]; exact fun x hx => hs x (List.mem_cons_of_mem _ hx))
/-- a descending pair's counts -/
theorem cp_back {a r : List Int} {x y : Int} (h : x ≤ y) (t : Int) (p : Nat) :
    cp t (a ++ y :: x :: r) p = if p = a.length + 1 then max (cp t (a ++ x :: y :: r) a.length) (cp t (a ++ x :: y :: r) (a.length + 2) - 1) else cp t (a ++ x :: y :: r) p := by
  have m3 : sm t y ≤ sm t x := by unfold sm; split <;> split <;> omega
  have m4 := sm_le t x
  simp only [cp_mid, Nat.le_refl, if_true]
  rw [if_neg (show ¬ a.length + 2 ≤ a.length by omega), if_neg (show ¬ a.length + 2 = a.length + 1 by omega), show a.length + 2 - a.length - 2 = 0 by omega, cp_0]
  by_cases c2 : p = a.length + 1
  · subst c2
    rw [if_neg (show ¬ a.length + 1 ≤ a.length by omega), if_pos rfl, if_pos rfl]
    omega
  · by_cases c1 : p ≤ a.length
    · rw [if_pos c1, if_pos c1, if_neg c2]
    · rw [if_neg c1, if_neg c1, if_neg c2, if_neg c2, if_neg c2]
      omega
theorem dom_base : ∀ (w : Nat) (m : List Int), List.Perm m (desc w) → dom (desc w) m → m = desc w
  | 0, m, hp, _ => List.Perm.eq_nil hp
  | w + 1, [], hp, _ => by have := hp.length_eq; simp [desc_len] at this
  | w + 1, x :: m, hp, h => by
    have h1 := h w 1
    rw [desc, show (1 : Nat) = 0 + 1 from rfl, cp_cons, cp_cons, cp_0, cp_0] at h1
    have hx : ¬ x ≤ (w : Int) := fun q => by
      unfold sm at h1
      rw [if_pos q, if_neg (by omega)] at h1
      omega
    have hm : x ∈ desc (w + 1) := hp.subset List.mem_cons_self
    have hxe : x = ((w + 1 : Nat) : Int) := by
      have := (desc_mem (w + 1) x hm).2
      omega
    subst hxe
    have hp' : List.Perm m (desc w) := by rw [desc] at hp; exact (List.perm_cons _).mp hp
    rw [desc, dom_base w m hp' fun t p => by
      have := h t (p + 1)
      rw [desc, cp_cons, cp_cons] at this
      omega]
where
  desc_mem : ∀ (n : Nat) (x : Int), x ∈ desc n → 1 ≤ x ∧ x ≤ (n : Int)
  | 0, x, h => by cases h
  | n + 1, x, h => by
    rw [desc] at h
    rcases List.mem_cons.mp h with rfl | h
    · omega
    · have := desc_mem n x h
      omega
theorem desc_nodup : ∀ n, (desc n).Nodup
  | 0 => List.nodup_nil
  | n + 1 => by
    rw [desc]
    exact List.nodup_cons.mpr ⟨fun h => by have := (dom_base.desc_mem n _ h).2; omega, desc_nodup n⟩
theorem xch_perm {a r : List Int} (x y : Int) : List.Perm (a ++ y :: x :: r) (a ++ x :: y :: r) := List.Perm.append_left a (List.Perm.swap x y r)
/-- what stands at least as far in front comes of steps left out -/
theorem lift {w : Nat} (N : List Int) : okS w N → ∀ m : List Int, List.Perm m (desc w) → dom (runL N (desc w)) m → ∃ M : List Int, M.Sublist N ∧ runL M (desc w) = m := by
  obtain ⟨R, rfl⟩ : ∃ R : List Int, N = R.reverse := ⟨N.reverse, by simp⟩
  induction R with
  | nil => exact fun _ m hp h => ⟨[], List.nil_sublist _, (dom_base w m hp h).symm⟩
  | cons s R ih =>
    intro hs m hp h
    rw [List.reverse_cons] at hs h ⊢
    have hR : okS w R.reverse := fun x hx => hs x (List.mem_append_left _ hx)
    have a := hs s (List.mem_append_right _ List.mem_cons_self)
    rw [runL_snoc] at h
    have hl : (runL R.reverse (desc w)).length = w := by rw [runL_len, desc_len]
    have hml : m.length = w := by rw [hp.length_eq, desc_len]
    generalize hP : runL R.reverse (desc w) = P at *
    by_cases hh : hit P s = true
    · obtain ⟨a1, x1, y1, r1, e1, l1, q1, z1⟩ := at_step (l := P) a.1 (by omega)
      obtain ⟨a2, x2, y2, r2, e2, l2, q2, z2⟩ := at_step (l := m) a.1 (by omega)
      have lt1 : y1 < x1 := by rw [q1] at hh; simpa using hh
      have hst : stp P s = a1 ++ y1 :: x1 :: r1 := by unfold stp; rw [if_pos hh, z1]
      have hne : x2 ≠ y2 := fun q => by
        have := (hp.nodup_iff).mpr (desc_nodup w)
        rw [e2, q, List.nodup_append] at this
        have := this.2.1
        rw [List.nodup_cons] at this
        exact this.1 List.mem_cons_self
      have back : ∀ t p, cp t P p = if p = a1.length + 1 then max (cp t (stp P s) a1.length) (cp t (stp P s) (a1.length + 2) - 1) else cp t (stp P s) p := fun t p => by
        rw [hst, e1]
        exact cp_back (by omega) t p
      by_cases h2 : x2 < y2
      · have bk2 : ∀ t p, cp t (xch m s) p = if p = a2.length + 1 then max (cp t m a2.length) (cp t m (a2.length + 2) - 1) else cp t m p := fun t p => by
          rw [z2, e2]
          exact cp_back (by omega) t p
        have d : dom P (xch m s) := fun t p => by
          rw [back, bk2, show a2.length = a1.length by omega]
          have u1 := h t a1.length
          have u2 := h t (a1.length + 2)
          have u3 := h t p
          split
          · omega
          · exact u3
        have pm : List.Perm (xch m s) (desc w) := by rw [z2]; rw [e2] at hp; exact (xch_perm x2 y2).trans hp
        obtain ⟨M, k1, k2⟩ := ih hR (xch m s) pm d
        refine ⟨M ++ [s], List.Sublist.append k1 (List.Sublist.refl _), ?_⟩
        rw [runL_snoc, k2]
        obtain ⟨a3, x3, y3, r3, e3, l3, q3, z3⟩ := at_step (l := xch m s) a.1 (by rw [pm.length_eq, desc_len]; omega)
        have e4 : a3 ++ x3 :: y3 :: r3 = a2 ++ y2 :: x2 :: r2 := by rw [← e3, z2]
        obtain ⟨f1, f2⟩ := List.append_inj e4 (by omega)
        injection f2 with f3 f4
        injection f4 with f5 f6
        unfold stp
        rw [q3, f3, f5, decide_eq_true h2, if_pos rfl, z3, f1, f3, f5, f6, e2]
      · have d : dom P m := fun t p => by
          rw [back]
          have u1 := h t a1.length
          have u2 := h t (a1.length + 2)
          have u3 := h t p
          split
          · rename_i e
            subst e
            have v : cp t m (a1.length + 1) = max (cp t (a2 ++ y2 :: x2 :: r2) a2.length) (cp t (a2 ++ y2 :: x2 :: r2) (a2.length + 2) - 1) := by
              have := cp_back (a := a2) (r := r2) (x := y2) (y := x2) (by omega) t (a2.length + 1)
              rw [if_pos rfl, ← e2, show a2.length = a1.length by omega] at this
              rw [show a2.length = a1.length by omega]
              exact this
            have v1 : cp t (a2 ++ y2 :: x2 :: r2) a2.length = cp t m a1.length := by
              have := cp_back (a := a2) (r := r2) (x := y2) (y := x2) (by omega) t a2.length
              rw [if_neg (by omega), ← e2] at this
              rw [← this, show a2.length = a1.length by omega]
            have v2 : cp t (a2 ++ y2 :: x2 :: r2) (a2.length + 2) = cp t m (a1.length + 2) := by
              have := cp_back (a := a2) (r := r2) (x := y2) (y := x2) (by omega) t (a2.length + 2)
              rw [if_neg (by omega), ← e2] at this
              rw [← this, show a2.length = a1.length by omega]
            rw [v, v1, v2]
            omega
          · exact u3
        obtain ⟨M, k1, k2⟩ := ih hR m hp d
        exact ⟨M, k1.trans (List.sublist_append_left _ _), k2⟩
    · have e : stp P s = P := by unfold stp; rw [if_neg hh]
      rw [e] at h
      obtain ⟨M, k1, k2⟩ := ih hR m hp h
      exact ⟨M, k1.trans (List.sublist_append_left _ _), k2⟩
end Nw

/-! DL45: loops that look for something and return at once. -/
namespace DL
/-- every item passes, or the first that does not ends the def -/
theorem forD_seek {g : MG} {body : MS} (J : Sl → Prop) (ok : D → Prop) (R : D → Prop) : ∀ (ds : List D) (st : Sl), J st →
    (∀ d ∈ ds, ∀ st, J st → ∃ st1, g d st = .ok () st1 ∧ ((ok d ∧ ∃ st2, body st1 = .next st2 ∧ J st2) ∨ (¬ ok d ∧ ∃ v st2, body st1 = .ret v st2 ∧ R v))) →
    ((∀ d ∈ ds, ok d) ∧ ∃ st', forD g body ds st = .next st' ∧ J st') ∨ ((∃ d ∈ ds, ¬ ok d) ∧ ∃ v st', forD g body ds st = .ret v st' ∧ R v)
  | [], st, h, _ => .inl ⟨fun _ h => (by cases h), st, rfl, h⟩
  | d :: ds, st, h, hs => by
    obtain ⟨st1, e1, e2⟩ := hs d List.mem_cons_self st h
    rcases e2 with ⟨o, st2, e2, j⟩ | ⟨o, v, st2, e2, r⟩
    · have step : forD g body (d :: ds) st = forD g body ds st2 := by
        rw [forD, e1]
        show (match body st1 with | .next st2 => _ | .cont st2 => _ | .brk st2 => _ | r => r) = _
        rw [e2]
      rcases forD_seek J ok R ds st2 j fun d' h' => hs d' (List.mem_cons_of_mem _ h') with ⟨a, st', b, c⟩ | ⟨⟨d', a1, a2⟩, v, st', b, c⟩
      · exact .inl ⟨fun x hx => (List.mem_cons.mp hx).elim (fun q => q ▸ o) (a x), st', step.trans b, c⟩
      · exact .inr ⟨⟨d', List.mem_cons_of_mem _ a1, a2⟩, v, st', step.trans b, c⟩
    · refine .inr ⟨⟨d, List.mem_cons_self, o⟩, v, st2, ?_, r⟩
      rw [forD, e1]
      show (match body st1 with | .next st2 => _ | .cont st2 => _ | .brk st2 => _ | r => r) = _
      rw [e2]
theorem rangeD_mem {a : Int} {n : Nat} {d : D} (h : d ∈ rangeD a n) : ∃ i : Nat, i < n ∧ d = .int (a + i) := by
  obtain ⟨i, e⟩ := List.getElem?_of_mem h
  obtain ⟨h1, h2⟩ := rangeD_get e
  exact ⟨i, h1, h2⟩
theorem rangeD_at {a : Int} {n i : Nat} (h : i < n) : D.int (a + i) ∈ rangeD a n := by
  have : i < (rangeD a n).length := by rw [rangeD_len]; exact h
  have e := List.getElem?_eq_getElem this
  obtain ⟨_, q⟩ := rangeD_get e
  rw [← q]
  exact List.getElem_mem _
theorem map1_sum (l : List Int) : (l.map fun _ => (1 : Int)).sum = l.length := by
  induction l with
  | nil => rfl
  | cons a l ih => rw [List.map_cons, List.sum_cons, ih, List.length_cons]; omega
theorem wR2 {a b : ME} {st st1 st2 : Sl} {i j : Int} {n : Nat} (h1 : a st = .ok (.int i) st1) (h2 : b st1 = .ok (.int j) st2) (hi : small62 i = true) (hj : small62 j = true) (hn : (j - i).toNat = n) : iR2 a b st = .ok (rangeD i n) st2 := by
  unfold iR2
  rw [h1]
  show (b st1).bind _ = _
  rw [h2]
  show (if (small62 i && small62 j) = true then Res.ok (rangeD i (j - i).toNat) st2 else .fail) = _
  rw [hi, hj, hn]
  rfl
end DL

/-! DL46: a tuple target in a comprehension. -/
namespace DL
open PySem L2 PyProof.Rows
theorem cg_tupB {ca : Nat → Addr} {X : Cx} {scope : Scope} {s : Shared} {H : Hp} {C : Addr} {cl : List (Str × Addr)} {fp : List Addr} {L : List Nat} {es : List Expr} {k : Nat} {pos : Pos} {t : TGs} {gs : List MG} {n : Nat} (hc : (bk X scope s H C cl fp).calm = true) (h : CGs ca (bk X scope s H C cl fp) L es t gs) (hl : gs.length = n)
    (hn : (assignEach es (bk X scope s H C cl fp).env).length = n := by rfl) (hst : (assignEach es (bk X scope s H C cl fp).env).findIdx? (·.1) = none := by rfl) : CG ca (bk X scope s H C cl fp) L (.Tuple es k pos) (gTup X.K n t) (gT gs) := cg_tup hc h hl hn hst
end DL

/-! DL47: the text of nested data of numbers, truth values, None. -/
namespace DL
open PySem (Str PyData)
mutual
/-- no texts, no dicts, numbers of at most 25 digits -/
def sml : PyData → Bool
  | .none => true
  | .bool _ => true
  | .int i => decide (i.natAbs < 10 ^ 25)
  | .str _ => false
  | .list xs => smlA xs
  | .tuple xs => smlA xs
  | .dict _ => false
def smlA : List PyData → Bool
  | [] => true
  | x :: xs => sml x && smlA xs
end
def cpsOk (x : Str) : Bool := x.cps.all (· < 0x110000)
theorem cps_app {x y : Str} (h : cpsOk x = true) (h2 : cpsOk y = true) : cpsOk (x ++ y) = true := by
  unfold cpsOk at *
  show (x.cps ++ y.cps).all _ = true
  rw [Array.all_append, h, h2]
  rfl
theorem cps_str (s : String) : cpsOk (Str.ofString s) = true := by
  unfold cpsOk
  rw [Str.ofString_eq_toList]
  simp only [List.all_toArray, List.all_map, List.all_eq_true, Function.comp, decide_eq_true_eq]
  intro c _
  have := c.valid
  show c.val.toNat < 0x110000
  rcases this with h | h
  · have : c.val.toNat < 0xd800 := h
    omega
  · exact h.2
theorem cps_from : ∀ (ts : List Str) (k : Nat) (acc : Str), cpsOk acc = true → (∀ t ∈ ts, cpsOk t = true) → cpsOk (PySem.textFrom k acc ts) = true
  | [], _, _, h, _ => h
  | t :: ts, k, acc, h, hs => cps_from ts (k + 1) _ (cps_app (cps_app h (cps_str _)) (hs t List.mem_cons_self)) fun u hu => hs u (List.mem_cons_of_mem _ hu)
theorem cps_list {ts : List Str} (hs : ∀ t ∈ ts, cpsOk t = true) : cpsOk (PySem.listText ts) = true := cps_app (cps_from ts 0 _ (cps_str _) hs) (cps_str _)
theorem cps_join {sep : Str} (h : cpsOk sep = true) : ∀ {ts : List Str}, (∀ t ∈ ts, cpsOk t = true) → cpsOk (Str.join sep ts) = true
  | [], _ => cps_str ""
  | [x], hs => hs x List.mem_cons_self
  | x :: y :: r, hs => cps_app (cps_app (hs x List.mem_cons_self) h) (cps_join h fun t ht => hs t (List.mem_cons_of_mem _ ht))
theorem cps_tup {ts : List Str} (hs : ∀ t ∈ ts, cpsOk t = true) : cpsOk (PySem.tupleText ts) = true := cps_app (cps_app (cps_str _) (cps_join (cps_str _) hs)) (cps_str _)
mutual
theorem sml_cps : ∀ p : PyData, sml p = true → cpsOk p.shown = true
  | .none, _ => cps_str "None"
  | .bool b, _ => by cases b <;> exact cps_str _
  | .int i, _ => cps_str (toString i)
  | .str _, h => by rw [sml] at h; cases h
  | .list xs, h => by rw [sml] at h; rw [PyData.shown]; exact cps_list (smlA_cps xs h)
  | .tuple xs, h => by rw [sml] at h; rw [PyData.shown]; exact cps_tup (smlA_cps xs h)
  | .dict _, h => by rw [sml] at h; cases h
theorem smlA_cps : ∀ xs : List PyData, smlA xs = true → ∀ t ∈ PyData.shownAll xs, cpsOk t = true
  | [], _, t, ht => by rw [PyData.shownAll] at ht; cases ht
  | x :: xs, h, t, ht => by
    rw [smlA, Bool.and_eq_true] at h
    rw [PyData.shownAll] at ht
    rcases List.mem_cons.mp ht with rfl | ht
    · exact sml_cps x h.1
    · exact smlA_cps xs h.2 t ht
end
theorem log_small {n : Nat} (h : n < 10 ^ 25) : n.log2 < 84 := by
  by_cases h0 : n = 0
  · subst h0; decide
  · exact (Nat.log2_lt h0).mpr (Nat.lt_of_lt_of_le h (by decide))
theorem int_len {i : Int} (h : i.natAbs < 10 ^ 25) : (PyData.shown (.int i)).length ≤ 26 := by
  have e := PySem.int_text_length_le10 (k := 25) (by decide) h
  show (Str.ofString (toString i)).length ≤ 26
  rw [PySem.ofString_length]; exact e
mutual
theorem sml_all : ∀ p : PyData, sml p = true → p.canLay0 = true ∧ p.showable = true ∧ p.leavesShort 26 = true
  | .none, _ => ⟨rfl, rfl, rfl⟩
  | .bool _, _ => ⟨rfl, rfl, rfl⟩
  | .int i, h => by
    rw [sml, decide_eq_true_eq] at h
    refine ⟨rfl, ?_, ?_⟩
    · rw [PyData.showable, decide_eq_true_eq]
      have := log_small h
      omega
    · rw [PyData.leavesShort, decide_eq_true_eq]
      exact int_len h
  | .str _, h => by rw [sml] at h; cases h
  | .list xs, h => by rw [sml] at h; rw [PyData.canLay0, PyData.showable, PyData.leavesShort]; exact smlA_all xs h
  | .tuple xs, h => by rw [sml] at h; rw [PyData.canLay0, PyData.showable, PyData.leavesShort]; exact smlA_all xs h
  | .dict _, h => by rw [sml] at h; cases h
theorem smlA_all : ∀ xs : List PyData, smlA xs = true → PyData.canLayAll0 xs = true ∧ PyData.showableAll xs = true ∧ PyData.leavesShortAll 26 xs = true
  | [], _ => ⟨rfl, rfl, rfl⟩
  | x :: xs, h => by
    rw [smlA, Bool.and_eq_true] at h
    obtain ⟨a, b, c⟩ := sml_all x h.1
    obtain ⟨a2, b2, c2⟩ := smlA_all xs h.2
    rw [PyData.canLayAll0, PyData.showableAll, PyData.leavesShortAll, a, b, c, a2, b2, c2]
    exact ⟨rfl, rfl, rfl⟩
end
/-- data whose text is told: how heavy, how deep -/
structure Rp (p : PyData) : Prop where
  s : sml p = true
  w : p.weight ≤ 500000
  d : p.depth ≤ 60
theorem Rp.ok {p : PyData} (h : Rp p) : rpOk p = true := by
  obtain ⟨a, b, c⟩ := sml_all p h.s
  have l := PyData.shown_le 26 (by decide) p c
  have w := h.w
  have l2 : p.shown.length ≤ 16777216 := by omega
  unfold rpOk
  rw [a, b, PyData.hasDict_of_canLay p a, decide_eq_true (Nat.le_trans h.d (by decide)), decide_eq_true l2]
  rfl
theorem Rp.repr {x : D} {p : PyData} (h : Rp p) (e : toPy x = p) : oRepr [x] = some (.val (.str p.shown)) := by
  subst e
  show (if _ then _ else _) = _
  rw [if_pos h.ok]
theorem Rp.shaped {p : PyData} (h : Rp p) : PySem.SeqAt.shaped (toPy (.str p.shown)) = true := by
  rw [toPy]
  unfold PySem.SeqAt.shaped
  rw [PyData.canLay0, PyData.depth]
  have := sml_cps p h.s
  unfold cpsOk at this
  rw [show PyData.strOk p.shown = true from this]
  rfl
theorem Rp.ne {p : PyData} (h : Rp p) : f2 pNe [.str p.shown, .str p.shown] = some (.val (.bl false)) := by
  refine ne_of ?_
  unfold pNe
  rw [h.shaped, toPy, PyData.eqv]
  simp
theorem Rp.eq {p : PyData} (h : Rp p) : f2 pEq [.str p.shown, .str p.shown] = some (.val (.bl true)) := by
  refine eq_of ?_
  unfold pEq
  rw [h.shaped, toPy, PyData.eqv]
  simp
/-! lists of numbers and lists of such lists -/
theorem smlA_map {α : Type} {f : α → PyData} : ∀ {l : List α}, (∀ a ∈ l, sml (f a) = true) → smlA (l.map f) = true
  | [], _ => rfl
  | a :: l, h => by rw [List.map_cons, smlA, h a List.mem_cons_self, smlA_map fun b hb => h b (List.mem_cons_of_mem _ hb)]; rfl
theorem wA_map {α : Type} {f : α → PyData} {c : Nat} : ∀ {l : List α}, (∀ a ∈ l, (f a).weight ≤ c) → PyData.weightAll (l.map f) ≤ (c + 1) * l.length
  | [], _ => by rw [List.map_nil, PyData.weightAll]; omega
  | a :: l, h => by
    rw [List.map_cons, PyData.weightAll, List.length_cons, Nat.mul_succ]
    have h1 := h a List.mem_cons_self
    have h2 := wA_map fun b hb => h b (List.mem_cons_of_mem _ hb)
    omega
theorem w_int {i : Int} (h : i.natAbs < 10 ^ 25) : (PyData.int i).weight ≤ 84 := by
  rw [PyData.weight]
  have := log_small h
  split <;> omega
theorem rp_int {i : Int} (h : i.natAbs < 10 ^ 25) : Rp (Py.py i) := ⟨by show sml (.int i) = true; rw [sml]; exact decide_eq_true h, Nat.le_trans (w_int h) (by decide), by show (PyData.int i).depth ≤ 60; rw [PyData.depth]; omega⟩
theorem rp_nums {l : List Int} (h : ∀ x ∈ l, x.natAbs < 10 ^ 25) (hl : l.length ≤ 5000) : Rp (Py.py l) := by
  refine ⟨?_, ?_, ?_⟩
  · show sml (.list (l.map .int)) = true
    rw [sml]
    exact smlA_map fun a ha => by rw [sml]; exact decide_eq_true (h a ha)
  · show (PyData.list (l.map .int)).weight ≤ 500000
    rw [PyData.weight]
    have := wA_map (f := PyData.int) (c := 84) (l := l) fun a ha => w_int (h a ha)
    omega
  · exact Nat.le_trans (Py.depth l) (by decide)
theorem rp_tup {l : List Int} (h : ∀ x ∈ l, x.natAbs < 10 ^ 25) (hl : l.length ≤ 5000) : Rp (Py.py (⟨l⟩ : Tp Int)) := by
  refine ⟨?_, ?_, ?_⟩
  · show sml (.tuple (l.map .int)) = true
    rw [sml]
    exact smlA_map fun a ha => by rw [sml]; exact decide_eq_true (h a ha)
  · show (PyData.tuple (l.map .int)).weight ≤ 500000
    rw [PyData.weight]
    have := wA_map (f := PyData.int) (c := 84) (l := l) fun a ha => w_int (h a ha)
    omega
  · exact Nat.le_trans (Py.depth (⟨l⟩ : Tp Int)) (by decide)
theorem rp_rows {L : List (List Int)} {n : Nat} (h : ∀ l ∈ L, l.length ≤ n ∧ ∀ x ∈ l, x.natAbs < 10 ^ 25) (hl : (85 * n + 1) * L.length ≤ 500000) : Rp (Py.py L) := by
  refine ⟨?_, ?_, ?_⟩
  · show sml (.list (L.map fun l => .list (l.map .int))) = true
    rw [sml]
    exact smlA_map fun l hl => by rw [sml]; exact smlA_map fun a ha => by rw [sml]; exact decide_eq_true ((h l hl).2 a ha)
  · show (PyData.list (L.map fun l => .list (l.map .int))).weight ≤ 500000
    rw [PyData.weight]
    have := wA_map (f := fun l : List Int => PyData.list (l.map .int)) (c := 85 * n) (l := L) fun l hl => by
      rw [PyData.weight]
      have h1 := wA_map (f := PyData.int) (c := 84) (l := l) fun a ha => w_int ((h l hl).2 a ha)
      have h2 := (h l hl).1
      have : 85 * l.length ≤ 85 * n := Nat.mul_le_mul_left _ h2
      omega
    omega
  · exact Nat.le_trans (Py.depth L) (by decide)
theorem rp_none : Rp .none := ⟨rfl, by rw [PyData.weight]; omega, by rw [PyData.depth]; omega⟩
theorem rp_bool {b : Bool} : Rp (Py.py b) := ⟨by show sml (.bool b) = true; rw [sml], by show (PyData.bool b).weight ≤ _; rw [PyData.weight]; omega, by show (PyData.bool b).depth ≤ _; rw [PyData.depth]; omega⟩
end DL

set_option maxHeartbeats 4000000
/-! DL48: try with several clauses; a caught exception is tracked from its clause on. -/
namespace DL
open PySem PySem.Spec PyProof.Rows L2
section
variable {X : Cx} {pins : List (Addr × Obj)} {σ : L2.St} {H : Hp} {sI s s' : Shared} {B : Heap} {a : Addr} {cls : Value} {d : Option Addr}
abbrev HeldX (h : Heap) (a : Addr) (cls : Value) (d : Option Addr) : Prop := ∃ (o : Obj) (vs : Array Value), h.get? a = some o ∧ Zc cls d o ∧ o.data = .fields vs
theorem xcO_ok {P : Program} {w : World} {h : Heap} (e : HeldX h a cls d) : ObjOk P w H h a (XcO a cls d) := by
  obtain ⟨o, vs, e1, e2, e3⟩ := e
  exact ⟨⟨o, vs, e1, e2, e3⟩, ⟨o, e1⟩, fun h1 h2 ⟨o', us, p, q, r⟩ k => ⟨o', us, k _ p, q, r⟩⟩
theorem xcO_own {x : Addr} : XcO a cls d ≠ .own x := fun z => by
  have z' : HO.ext _ = HO.own x := z
  cases z'
theorem xcO_tup {xs : List V} : XcO a cls d ≠ .tup xs := fun z => by
  have z' : HO.ext _ = HO.tup xs := z
  cases z'
/-- on the ground again, the exception's object tracked -/
theorem landedX (I : Inv X pins σ H sI) (nb : ∀ (c : Addr) (ob : Obj), sI.heap.get? c = some ob → c ∉ frs X.stack → B.get? c = some ob) (st : B.StaysIn s'.heap) (up : sI.heap.UpToSlots s'.heap)
    (eos : s'.os = sI.os) (ag : AllBare s'.gens) (na : H a = none) (nB : B.get? a = none) (nF : a ∉ frs X.stack) (hx : HeldX s'.heap a cls d) : Inv X pins σ (upd H a (XcO a cls d)) s' := by
  have nI : ∀ {b : Addr} {o : Obj}, sI.heap.get? b = some o → b ≠ a := fun {b o} e z => by
    rw [z] at e
    have q := nb a o e nF
    rw [nB] at q
    cases q
  have slots : ∀ (c : Addr), c ∈ frs X.stack → ∀ (ob : Obj), sI.heap.get? c = some ob → ∃ sl, s'.heap.get? c = some { ob with slots := sl } := fun c hc ob e => by
    obtain ⟨_, o', e', hd⟩ := I.stack.mem hc
    rw [e] at e'
    cases e'
    exact up c ob e hd
  have U : Un (frs X.stack) [] H (upd H a (XcO a cls d)) sI.heap s'.heap := {
    keep := fun c ob e _ hc _ => st c ob (nb c ob e hc)
    slot := fun c ob e _ hc _ => slots c hc ob e
    free := fun c ob e n _ => by rw [upd_ne (nI e)]; exact n
    there := fun c ob e _ => by
      by_cases hc : c ∈ frs X.stack
      · obtain ⟨sl, q⟩ := slots c hc ob e
        exact ⟨_, q⟩
      · exact ⟨ob, st c ob (nb c ob e hc)⟩
    tups := fun c xs e => by rw [upd_ne (ne_of_none e na)]; exact e
    frzs := fun c o xs e => by rw [upd_ne (ne_of_none e na)]; exact e
    tbls := fun c ps e => ⟨#[], by rw [upd_ne (ne_of_none e na), e]; simp⟩ }
  have K1 : HOk X.prog X.w (upd H a (XcO a cls d)) s'.heap := fun c o e => by
    by_cases hc : c = a
    · subst hc
      rw [upd_same] at e
      cases e
      exact xcO_ok hx
    · rw [upd_ne hc] at e
      exact ((I.inGround nb).kept st c o e).stay (fun _ _ _ q => q) (fun c' q => by rw [upd_ne (ne_of_none q na)]; exact q) (fun c' xs q => by rw [upd_ne (ne_of_none q na)]; exact q)
  have J := I.call (ch := []) (h' := s'.heap) (g' := s'.gens) (t' := s'.toks) (d' := s'.drawn) U K1 ag (fun _ z => nomatch z)
  obtain ⟨h5, g5, d5, t5, o5⟩ := s'
  obtain rfl : o5 = sI.os := eos
  exact J
/-- into an except suite, and out of it -/
theorem toSuite (I : Inv X pins σ H s) (a : Addr) : Inv (X.suite a (X.pn ++ pins)) [] σ H s where
  ok := I.ok.suite _ _
  os := I.os
  bare := I.bare
  base := I.base
  loc := I.loc
  cell := I.cell
  free := I.free
  freeC := I.freeC
  pin := fun q hq => I.pin q (by rw [List.append_nil] at hq; exact hq)
  hok := I.hok
  len := I.len
theorem ofSuite {pn' : List (Addr × Obj)} (I : Inv (X.suite a (X.pn ++ pins)) pn' σ H s) (ok : X.Ok) : Inv X pins σ H s where
  ok := ok
  os := I.os
  bare := I.bare
  base := I.base
  loc := I.loc
  cell := I.cell
  free := I.free
  freeC := I.freeC
  pin := fun q hq => I.pin q (List.mem_append_left _ hq)
  hok := I.hok
  len := I.len
end

/-- an end behind a clause that names the exception at the slot i -/
def endC (o : Option Nat) (D : Ends) : Ends :=
  match o with
  | none => D
  | some i => { nx := fun σ' H' => D.nx (σ'.set i none) H', rt := D.rt, bk := fun σ' H' => D.bk (σ'.set i none) H', ct := fun σ' H' => D.ct (σ'.set i none) H' }
def putC (o : Option Nat) (a : Addr) (σ : L2.St) : L2.St :=
  match o with
  | none => σ
  | some i => σ.set i (some (.ref a))
abbrev Cls1 := Value × Option Nat × (Addr → TS)
/-- what the clauses wish -/
def wishC (K : PySem.W.Frag) (Wo : WX) (D : Ends) : List Cls1 → WX
  | [] => Wo
  | (c, o, ts) :: r => fun cls d σ H => ∃ b, PySem.W.exmOne K cls c = some b ∧
      (b = true → ∀ a, H a = none → ts a (endC o D) (putC o a σ) (upd H a (XcO a cls d))) ∧ (b = false → wishC K Wo D r cls d σ H)
inductive HdC (X : Cx) : List ExceptHandler → List Cls1 → Prop
  | nil : HdC X [] []
  | plain {x : Str} {c : Value} {ts : Addr → TS} {b0 : Stmt} {body : List Stmt} {p1 p2 : Pos} {hds : List ExceptHandler} {l : List Cls1} (hc : Names X x c)
      (hb : ∀ a pn, PSs (X.suite a pn) (b0 :: body) (ts a)) (r : HdC X hds l) : HdC X (.ExceptHandler (some (.Name x p1)) none (b0 :: body) p2 :: hds) ((c, none, ts) :: l)
  | named {x n : Str} {i : Nat} {c : Value} {ts : Addr → TS} {b0 : Stmt} {body : List Stmt} {p1 p2 : Pos} {hds : List ExceptHandler} {l : List Cls1} (hc : Names X x c)
      (hi : X.N[i]? = some n) (hl : X.env.kindOf n = some .local)
      (hb : ∀ a pn, PSs (X.suite a pn) (b0 :: body) (ts a)) (r : HdC X hds l) : HdC X (.ExceptHandler (some (.Name x p1)) (some n) (b0 :: body) p2 :: hds) ((c, some i, ts) :: l)
section
variable {X : Cx} {body : List Stmt} {hd : ExceptHandler} {hds : List ExceptHandler} {l : List Cls1} {pos : Pos} {tb : WX → TS} {Wo : WX}
theorem ps_tryC (hs : X.stack = X.env :: X.outer) (hf : X.env.frame = some X.env.locals) (hN : X.N.Nodup) (tk : Takes X Wo)
    (hb : ∀ W pn xe, Takes (X.tr pn xe) W → PassesOwn (model X.prog X.w) X.A X.env xe → PSs (X.tr pn xe) body (tb W))
    (hh : HdC X (hd :: hds) l) : PS X (.Try body (hd :: hds) [] [] pos) (fun D σ H => tb (wishC X.K Wo D l) D σ H) := by
  refine ⟨fun pins s σ H D I h => ?_⟩
  have ok := I.ok
  have hfr : X.A.frames = some (X.env :: X.outer) := ok.frames.trans (by rw [hs])
  refine wpAny_Try_except ?_
  let after : Value → Shared → Prop := fun e s₁ => wpAny (model X.prog X.w) X.A (noteFrame e X.env)
    (fun _ s₂ => wpAny (model X.prog X.w) X.A (setFlight e none)
      (fun _ s₃ => wpAny (model X.prog X.w) X.A (handleBy e X.env (hd :: hds)) (SP X pins D) X.xe s₃) X.xe s₂) X.xe s₁
  have hcatch : Takes (X.tr (X.pn ++ pins) after) (wishC X.K Wo D l) := by
    intro u s1 xx
    obtain ⟨a, B, sI, pins1, σ1, H1, cls, d, rfl, I1, nb, up, sky, na, eos, ag, w⟩ := xx
    have J : Inv X pins σ1 H1 sI := I1.ofTry ok
    rw [show Cx.stack (X.tr (X.pn ++ pins) after) = X.env :: X.outer from hs] at sky
    show wpAny (model X.prog X.w) X.A (noteFrame (.ref a) X.env) _ _ _
    refine Sky.land Zc.steady hfr hf sky fun h3 fl3 up3 => ?_
    have nfr : a ∉ frs X.stack := fun hm => by
      obtain ⟨oe, vs, he, _, hd3⟩ := fl3.there
      obtain ⟨_, o', e', hnf⟩ := fl3.2.2.1.mem (by rw [← hs]; exact hm)
      rw [he] at e'
      cases e'
      exact hnf _ hd3
    have J3 : Inv X pins σ1 H1 { s1 with heap := h3 } := J.landed nb fl3.1 (up.trans up3) eos ag
    -- the exception goes on
    have onward : Wo cls d σ1 H1 → wpAny (model X.prog X.w) X.A (handleBy (.ref a) X.env []) (SP X pins D) X.xe { s1 with heap := h3 } := fun w => by
      refine wpAny_handleBy_nil ?_
      obtain ⟨k1, k2, k3, oe, vs, T, oT, ts', he, hz, hdd, h1, hr⟩ := id fl3
      unfold PySem.passOn
      refine wpAny_bind (wpAny_field he hdd h1 ?_)
      rw [if_neg (by simp : ¬ ((Value.ref T == Value.none) = true))]
      have fin : wpAny (model X.prog X.w) X.A (setFlight (.ref a) X.env.frame)
          (fun _ s4 => wpAny (model X.prog X.w) X.A (throw (.ref a) : Sem Flow) (SP X pins D) X.xe s4) X.xe { s1 with heap := h3 } := by
        rw [hf]
        refine HandSPX.setFlight_upZ fl3 fun h4 hh4 up4 => wpAny_throw (tk _ _ ?_)
        refine ⟨a, B, sI, pins, σ1, H1, cls, d, rfl, J, nb, (up.trans up3).trans up4, ?_, na, eos, ag, w⟩
        exact .inr (.inr (by rw [hs]; exact hh4))
      first
        | exact wpAny_bind (wpAny_pure (wpAny_bind fin))
        | exact wpAny_bind fin
    -- a clause's class is asked
    have LT : cls = cls → PySem.W.Looks (model X.prog X.w) h3 (typeOf (.ref a)) cls := fun _ => by
      obtain ⟨oe, vs, he, hz, _⟩ := fl3.there
      exact fun A Q E s k q => wpAny_typeOf_ref (k _ _ he) (by rw [hz.1]; exact q)
    have asks : ∀ {x : Str} {p1 : Pos} {c : Value} {b : Bool} {Q : Value → Shared → Prop} {E : Value → Shared → Prop}, Names X x c → Q c { s1 with heap := h3 } →
        wpAny (model X.prog X.w) (X.A.mark (some (.ref a))) (eval (.Name x p1) X.env) Q E { s1 with heap := h3 } := fun {x p1 c b Q E} hc q => by
      obtain ⟨hg, hdbg, hm | ⟨hm, hv, hnn⟩⟩ := hc
      · exact ld_glob (toSuite J3 a) hg hm q hdbg
      · exact ld_blt (toSuite J3 a) hg hm hv q hnn hdbg
    -- a clause's suite
    have lands : ∀ {Q : Unit → Shared → Prop}, (∀ h4, Inv (X.suite a (X.pn ++ pins)) [] σ1 (upd H1 a (XcO a cls d)) { s1 with heap := h4 } → Q () { s1 with heap := h4 }) →
        wpAny (model X.prog X.w) X.A (setFlight (.ref a) none) Q X.xe { s1 with heap := h3 } ∨ True := fun _ => .inr trivial
    have S4 : ∀ {h4 : Heap}, HandSPX.FlyingZ B (X.env :: X.outer) a (Zc cls d) h4 → h3.UpToSlots h4 → Inv (X.suite a (X.pn ++ pins)) [] σ1 (upd H1 a (XcO a cls d)) { s1 with heap := h4 } := fun {h4} fl4 up4 =>
      toSuite (landedX (s' := { s1 with heap := h4 }) J nb fl4.1 ((up.trans up3).trans up4) eos ag na fl4.2.1 nfr fl4.there) a
    have go : ∀ {hs' : List ExceptHandler} {l' : List Cls1}, HdC X hs' l' → wishC X.K Wo D l' cls d σ1 H1 →
        wpAny (model X.prog X.w) X.A (handleBy (.ref a) X.env hs') (SP X pins D) X.xe { s1 with heap := h3 } := by
      intro hs' l' hk
      induction hk with
      | nil => exact onward
      | @plain x c ts b0 suite p1 p2 hds2 l2 hc hsu r ih =>
        rintro ⟨b, hb1, hyes, hno⟩
        refine wpAny_handleBy_cons (codeAny_handlers_test ?_) (by intro q; cases q)
        refine asks (b := b) hc ((PySem.W.exm_one (M := model X.prog X.w) J3.kIn (LT rfl) hb1).here ?_)
        cases b with
        | false => exact ih (hno rfl)
        | true =>
          refine codeAny_handlers_suite ?_
          refine HandSPX.lands_againZ fl3 fun h4 fl4 up4 => ?_
          refine wpAny_mono ((hsu a (X.pn ++ pins)).run [] _ _ _ _ (S4 fl4 up4) (hyes rfl a na)) (fun f s6 hsp => ?_) (fun _ _ z => False.elim z)
          cases f with
          | ret u =>
            obtain ⟨v6, σ6, H6, S6, r6, q6⟩ := hsp
            exact ⟨v6, σ6, H6, ofSuite S6 ok, r6, q6⟩
          | next =>
            obtain ⟨σ6, H6, S6, q6⟩ := hsp
            exact ⟨σ6, H6, ofSuite S6 ok, q6⟩
          | brk =>
            obtain ⟨σ6, H6, S6, q6⟩ := hsp
            exact ⟨σ6, H6, ofSuite S6 ok, q6⟩
          | cont =>
            obtain ⟨σ6, H6, S6, q6⟩ := hsp
            exact ⟨σ6, H6, ofSuite S6 ok, q6⟩
      | @named x n i c ts b0 suite p1 p2 hds2 l2 hc hi hl hsu r ih =>
        rintro ⟨b, hb1, hyes, hno⟩
        refine wpAny_handleBy_cons (codeAny_handlers_test ?_) (by intro q; cases q)
        refine asks (b := b) hc ((PySem.W.exm_one (M := model X.prog X.w) J3.kIn (LT rfl) hb1).here ?_)
        cases b with
        | false => exact ih (hno rfl)
        | true =>
          refine codeAny_handlers_suite_as ?_
          refine HandSPX.lands_againZ fl3 fun h4 fl4 up4 => ?_
          refine store_ok (X := X.suite a (X.pn ++ pins)) (v := .ref a) (S4 fl4 up4) hN hi (.inl hl) rfl (fun s5 S5 => ?_) (.inr hl)
          refine wpAny_mono ((hsu a (X.pn ++ pins)).run [] s5 _ _ _ S5 (hyes rfl a na)) (fun f s6 hsp => ?_) (fun _ _ z => False.elim z)
          have leave : ∀ {σ6 : L2.St} {H6 : Hp} {Q : Shared → Prop}, Inv (X.suite a (X.pn ++ pins)) [] σ6 H6 s6 → (∀ s7, Inv X pins (σ6.set i none) H6 s7 → Q s7) →
              wpAny (model X.prog X.w) X.A (do bindName X.env n .none; unbindBehindTheSuite X.env n p2) (fun _ s7 => Q s7) X.xe s6 :=
            fun {σ6 H6 Q} S6 hq => gone_ok (ofSuite S6 ok) hN hi hl hq
          cases f with
          | ret u =>
            obtain ⟨v6, σ6, H6, S6, r6, q6⟩ := hsp
            exact leave S6 fun s7 J7 => ⟨v6, _, H6, J7, r6, q6⟩
          | next =>
            obtain ⟨σ6, H6, S6, q6⟩ := hsp
            exact leave S6 fun s7 J7 => ⟨_, H6, J7, q6⟩
          | brk =>
            obtain ⟨σ6, H6, S6, q6⟩ := hsp
            exact leave S6 fun s7 J7 => ⟨_, H6, J7, q6⟩
          | cont =>
            obtain ⟨σ6, H6, S6, q6⟩ := hsp
            exact leave S6 fun s7 J7 => ⟨_, H6, J7, q6⟩
    exact go hh w
  refine wpAny_mono ((hb (wishC X.K Wo D l) (X.pn ++ pins) after hcatch PassesOwn.looking).run [] s σ H D (I.toTry _) h) (fun f s1 hsp => ?_) (fun e s1 he => he)
  cases f with
  | next =>
    obtain ⟨σ', H', J', q⟩ := hsp
    exact wpAny_execs_nil ⟨σ', H', J'.ofTry ok, q⟩
  | ret u =>
    obtain ⟨v, σ', H', J', r, q⟩ := hsp
    exact ⟨v, σ', H', J'.ofTry ok, r, q⟩
  | brk =>
    obtain ⟨σ', H', J', q⟩ := hsp
    exact ⟨σ', H', J'.ofTry ok, q⟩
  | cont =>
    obtain ⟨σ', H', J', q⟩ := hsp
    exact ⟨σ', H', J'.ofTry ok, q⟩
end
end DL

set_option maxHeartbeats 4000000
/-! DL49: exceptions of own classes: made, raised, caught. -/
namespace DL
open PySem PySem.Spec PyProof.Rows L2

/-! ### __init__ of an own exception class -/
section
variable {X : Cx} {p1 p2 pos : Pos}
/-- B.__init__(self, ..), B an own class that has ValueError's -/
theorem pe_netinit {cb : Addr} {mc : Value} {ta : TA} {e : Expr} {es : List Expr} {pl : Sem Bool} (hg : Gl X "NetworkError") (hm : X.mg "NetworkError" = some (.ref cb)) (r : ClX.CRead X.K cb mc)
    (vV : PySem.W.findCls X.K (.ref cb) mc "__init__" = some (.val (.builtin "ValueError.__init__"))) (ha : PA X (e :: es) ta)
    (hc : eval (.Call (.Attribute (.Name "NetworkError" p1) "__init__" p2) (e :: es) [] pos) X.env = (do
      let o ← eval (.Name "NetworkError" p1) X.env
      standAt p2.atName
      let (g, first) ← holding [o] (getMethod o "__init__" pl)
      callWith pos g first (backTo pos (starEach (e :: es) X.env)) (backToKw pos (keywordEach [] X.env))) := by rfl)
    (he : starEach (e :: es) X.env = (false, eval e X.env) :: starEach es X.env := by rfl) (hpl : (backTo pos (starEach es X.env)).any (·.1) = false := by rfl) :
    PE X (.Call (.Attribute (.Name "NetworkError" p1) "__init__" p2) (e :: es) [] pos) (tVeI X.K ta) := ⟨fun pins s σ H Q I h => by
  refine PySem.W.methodCall_KW (pl := pl) (ld_glob I hg hm ?_ (by decide)) hc
  refine PySem.W.method_cls I.kIn r.ga (PySem.W.cls_value I.kIn r.rd vV (by decide +kernel) ?_)
  show wpAny _ _ (callWith pos (Value.builtin "ValueError.__init__") [] (backTo pos (starEach (e :: es) X.env)) []) _ _ _
  refine PyProof.Rows.callWith_method1 (thn (ha.run pos pins _ σ H _ (I.tok _) h) fun us s1 hh => ?_) he hpl
  obtain ⟨vs, H1, I1, r1, a, C, ws, ev, hl, T, ea, q⟩ := hh
  subst ev
  cases r1 with
  | @cons _ u0 _ ur ra rw' =>
    obtain rfl : u0 = Value.ref a := ra
    have hlen : ur.length ≤ sizeLine := by
      rw [sizeLine_eq, ← Paired.length rw']
      omega
    exact oinit_ok T I1 ea hlen fun s' J => ⟨.non, H1, J, rfl, q⟩⟩
end
/-- what such an __init__ does: the fields fs, in order -/
def exSp (C : Addr) (fs : List Str) : Sp := fun vs H Q _ => ∃ a us, vs = .ref a :: us ∧ us.length = fs.length ∧ H a = some (exo a C none) ∧
  ∀ dx, H dx = none → dx ≠ a → Q .non (upd (upd H dx (exd dx (fs.zip us).reverse)) a (exo a C (some dx)))
section
variable {P : Program} {w : World} {K : PySem.W.Frag} {mg : Str → Option Value} {base : Heap}
/-- one field -/
theorem exI1_ok {qual : Str} {st : Stmt} {fa C cb : Addr} {fd : FuncData} {v f : Str} {m : Str} {j k : Nat} {mc : Value} {q1 q2 q3 q4 q5 q6 q7 q8 q9 q10 : Pos}
    (F : Fun K "__init__" qual st fa fd) (S : FnScope ["self", v] ["self", v] (defScope st))
    (hb : defBody st = [.Expr (.Call (.Attribute (.Name "NetworkError" q1) "__init__" q2) [.Name "self" q3, .Constant (.str m) j q4] [] q5) q6, .Assign [.Attribute (.Name "self" q7) f q8] (.Name v q9) q10])
    (T : OexC K C) (hno : PySem.W.findIn K (.ref C) f = some none) (hm : mg "NetworkError" = some (.ref cb)) (r : ClX.CRead K cb mc)
    (vV : PySem.W.findCls K (.ref cb) mc "__init__" = some (.val (.builtin "ValueError.__init__")))
    (hg : ∀ cdv A outer s H E, Gl (cxOf (L2.CX P w) P w K mg base ["self", v] qual (defScope st) fa cdv A outer s H E) "NetworkError")
    (hform : ∀ cdv A outer s H E, ∃ pl, MForm (cxOf (L2.CX P w) P w K mg base ["self", v] qual (defScope st) fa cdv A outer s H E) (.Name "NetworkError" q1) "__init__" [.Name "self" q3, .Constant (.str m) j q4] q2 q5 pl)
    (v0 : Vis (defScope st) "self") (v1 : Vis (defScope st) v) (d1 : (v == ("__debug__" : Str)) = false) (c1 : (v == ("__classdict__" : Str)) = false) :
    FnOk P w K mg base (L2.CX P w) (k + 1) fa fd ["self", v] (exSp C [f]) := by
  refine F.okX S (fun vs H Q E ⟨a, us, e, el, _⟩ => by rw [e]; simp [el]) fun cdv A outer s H vs Q E hr h => ?_
  rw [hb]
  obtain ⟨pl, hfm⟩ := hform cdv A outer s H E
  refine ⟨_, pss_cons (ps_expr (pe_netinit (pl := pl) (hg cdv A outer s H E) hm r vV (pa_cons (pv 0 rfl v0) (pa_cons pe_str pa_nil)) hfm rfl rfl)) (pss_one (ps_ost (pv 0 rfl v0) (pv 1 rfl v1 d1 c1))), ?_⟩
  obtain ⟨a, us, rfl, el, ea, q⟩ := h
  match us, el with
  | [y], _ =>
    refine ⟨.ref a, rfl, a, C, [.str m], rfl, by simp, T, ea, ?_⟩
    refine ⟨y, rfl, .ref a, rfl, a, C, rfl, T, hno, .inl ⟨ea, fun dx h1 h2 => q dx h1 h2⟩⟩
/-- two fields -/
theorem exI2_ok {qual : Str} {st : Stmt} {fa C cb : Addr} {fd : FuncData} {v u f g : Str} {m : Str} {j k : Nat} {mc : Value} {q1 q2 q3 q4 q5 q6 q7 q8 q9 q10 q11 q12 q13 q14 : Pos}
    (F : Fun K "__init__" qual st fa fd) (S : FnScope ["self", v, u] ["self", v, u] (defScope st))
    (hb : defBody st = [.Expr (.Call (.Attribute (.Name "NetworkError" q1) "__init__" q2) [.Name "self" q3, .Constant (.str m) j q4] [] q5) q6, .Assign [.Attribute (.Name "self" q7) f q8] (.Name v q9) q10, .Assign [.Attribute (.Name "self" q11) g q12] (.Name u q13) q14])
    (T : OexC K C) (hno : PySem.W.findIn K (.ref C) f = some none) (hno2 : PySem.W.findIn K (.ref C) g = some none) (hm : mg "NetworkError" = some (.ref cb)) (r : ClX.CRead K cb mc)
    (vV : PySem.W.findCls K (.ref cb) mc "__init__" = some (.val (.builtin "ValueError.__init__")))
    (hg : ∀ cdv A outer s H E, Gl (cxOf (L2.CX P w) P w K mg base ["self", v, u] qual (defScope st) fa cdv A outer s H E) "NetworkError")
    (hform : ∀ cdv A outer s H E, ∃ pl, MForm (cxOf (L2.CX P w) P w K mg base ["self", v, u] qual (defScope st) fa cdv A outer s H E) (.Name "NetworkError" q1) "__init__" [.Name "self" q3, .Constant (.str m) j q4] q2 q5 pl)
    (v0 : Vis (defScope st) "self") (v1 : Vis (defScope st) v) (v2 : Vis (defScope st) u) (d1 : (v == ("__debug__" : Str)) = false) (c1 : (v == ("__classdict__" : Str)) = false) (d2 : (u == ("__debug__" : Str)) = false) (c2 : (u == ("__classdict__" : Str)) = false) :
    FnOk P w K mg base (L2.CX P w) (k + 1) fa fd ["self", v, u] (exSp C [f, g]) := by
  refine F.okX S (fun vs H Q E ⟨a, us, e, el, _⟩ => by rw [e]; simp [el]) fun cdv A outer s H vs Q E hr h => ?_
  rw [hb]
  obtain ⟨pl, hfm⟩ := hform cdv A outer s H E
  refine ⟨_, pss_cons (ps_expr (pe_netinit (pl := pl) (hg cdv A outer s H E) hm r vV (pa_cons (pv 0 rfl v0) (pa_cons pe_str pa_nil)) hfm rfl rfl)) (pss_cons (ps_ost (pv 0 rfl v0) (pv 1 rfl v1 d1 c1)) (pss_one (ps_ost (pv 0 rfl v0) (pv 2 rfl v2 d2 c2)))), ?_⟩
  obtain ⟨a, us, rfl, el, ea, q⟩ := h
  match us, el with
  | [y, z], _ =>
    refine ⟨.ref a, rfl, a, C, [.str m], rfl, by simp, T, ea, ?_⟩
    refine ⟨y, rfl, .ref a, rfl, a, C, rfl, T, hno, .inl ⟨ea, fun dx h1 h2 => ?_⟩⟩
    refine ⟨z, rfl, .ref a, rfl, a, C, rfl, T, hno2, .inr ⟨dx, [(f, y)], upd_same, by rw [upd_ne h2]; exact upd_same, by simp, ?_⟩⟩
    have e : upd (upd (upd H dx (exd dx [(f, y)])) a (exo a C (some dx))) dx (exd dx [(g, z), (f, y)]) = upd (upd H dx (exd dx [(g, z), (f, y)])) a (exo a C (some dx)) := by
      funext b
      by_cases hb1 : b = dx
      · subst hb1
        rw [upd_same, upd_ne h2, upd_same]
      · rw [upd_ne hb1]
        by_cases hb2 : b = a
        · subst hb2
          rw [upd_same, upd_same]
        · rw [upd_ne hb2, upd_ne hb2, upd_ne hb1, upd_ne hb1]
    show Q .non (upd (upd (upd H dx (exd dx [(f, y)])) a (exo a C (some dx))) dx (exd dx [(g, z), (f, y)]))
    rw [e]
    exact q dx h1 h2
end

/-! ### raise -/
/-- raise C(..): the fields by their names -/
def sRaise (C : Nat) (fs : List Str) (ms : MA) : MS := fun st => match ms st with
  | .ok ds st1 => if ds.length = fs.length then .exc ⟨C, (fs.zip (frzL ds)).reverse⟩ st1 else .fail
  | .exc x st1 => .exc x st1
  | .fail => .fail
section
variable {ca : Nat → Addr} {Hf H Hf1 H1 Hf2 H2 : Hp} {S P P1 P2 : Rg} {R R1 R2 : Nat → Rg} {σ : L2.St} {st : Sl} {v : V} {d : D} {vs : List V} {ds : List D} {X : Cx} {L : List Nat}
theorem zip_keys {α : Type} : ∀ (fs : List Str) (us : List α), us.length = fs.length → (fs.zip us).map (·.1) = fs
  | [], [], _ => rfl
  | [], _ :: _, h => by cases h
  | _ :: _, [], h => by cases h
  | f :: fs, u :: us, h => by simp [zip_keys fs us (by simpa using h)]
theorem zip_vals {α : Type} : ∀ (fs : List Str) (us : List α), us.length = fs.length → (fs.zip us).map (·.2) = us
  | [], [], _ => rfl
  | [], _ :: _, h => by cases h
  | _ :: _, [], h => by cases h
  | f :: fs, u :: us, h => by simp [zip_vals fs us (by simpa using h)]
theorem cs_raise {k C : Nat} {fI : Addr} {fd : FuncData} {ps fs : List Str} {x : Str} {p pos pos' : Pos} {e : Expr} {es : List Expr} {ms : MA} (hc : X.calm = true) (T : OexC X.K (ca C))
    (iC : PySem.W.findIn X.K (.ref (ca C)) "__init__" = some (some (.ref fI))) (tI : PySem.W.typeIn X.K (.ref fI) = some (.type "function")) (F1 : FnOk X.prog X.w X.K X.mg X.base (L2.CX X.prog X.w) k fI fd ps (exSp (ca C) fs)) (hr : Room (k + 1) X.A)
    (hb : Binds X.K fd ps []) (hg : Gl X x) (hm : X.mg x = some (.ref (ca C))) (hf : fs.length ≤ 900) (ha : CL ca X (e :: es) ms) (hst : NoStar (e :: es)) (hdb : (x == ("__debug__" : Str)) = false := by decide)
    (he : starEach (e :: es) X.env = (false, eval e X.env) :: starEach es X.env := by rfl) (hpl : (backTo pos (starEach es X.env)).any (·.1) = false := by rfl) :
    CS ca X L (.Raise (some (.Call (.Name x p) (e :: es) [] pos)) none pos') (sRaise C fs ms) := fun Hf H R σ st E pr hq => by
  refine ws_of (ps_raise hc (takes_wX X) (pmk_oex (dvs := []) (ds := []) T iC tI F1 hr hb .nil (passes_call (takes_wX X) fun _ _ _ _ z => z.elim) hg hm (wa_pa X (e :: es)) hdb he hpl)) ?_
  show Wa X (e :: es) σ H _
  refine wa_wl (fun e r hs => noStar_suf hst e r hs X.env) (ha Hf H R σ st _ pr ?_)
  unfold sRaise at hq
  cases em : ms st with
  | fail => rw [em] at hq; exact hq.elim
  | exc y st1 => rw [em] at hq; exact fun Hf' H' R' cls dd t p => hq Hf' H' R' σ cls dd t p Lk.refl
  | ok ds st1 =>
    rw [em] at hq
    dsimp only at hq
    by_cases hl : ds.length = fs.length
    · rw [if_pos hl] at hq
      intro Hf1 H1 P1 R1 vs t1 p1
      have hvl : vs.length = fs.length := p1.pend.length.trans hl
      refine ⟨by omega, fun a na => ?_⟩
      refine ⟨a, vs, by rw [List.append_nil], hvl, upd_same, fun dx hdx hne => ?_⟩
      rw [upd_ne hne] at hdx
      refine ⟨rfl, dx, (fs.zip vs).reverse, upd_same, by rw [upd_ne hne]; exact upd_same, hdx, ?_⟩
      have eH : upd (L2.del (upd (upd (upd H1 a (exo a (ca C) none)) dx (exd dx (fs.zip vs).reverse)) a (exo a (ca C) (some dx))) a) dx (.xd (fs.zip vs).reverse) = upd H1 dx (.xd (fs.zip vs).reverse) := by
        funext b
        by_cases hb1 : b = dx
        · subst hb1
          rw [upd_same, upd_same]
        · rw [upd_ne hb1, upd_ne hb1]
          by_cases hb2 : b = a
          · subst hb2
            rw [L2.del_same, na]
          · rw [L2.del_ne hb2, upd_ne hb2, upd_ne hb1, upd_ne hb2]
      rw [eH]
      obtain ⟨Hf2, x2, k2, p2, t2⟩ := p1.standP
      have r2 : RepL ca X.K Hf2 H1 Em vs (frzL ds) := RepL.frz x2 p1.pend k2
      have p3 := p2.stand (o := .xd (fs.zip vs).reverse) hdx
      have n0 : Hf2 dx = none := (wl_new (o := .xd []) p2.w hdx).2
      refine hq (upd Hf2 dx (.xd (fs.zip vs).reverse)) (upd H1 dx (.xd (fs.zip vs).reverse)) R1 σ (.ref (ca C)) (some dx) (t1.trans (t2.trans ?_)) (p3.imp fun _ => ?_) Lk.refl
      · refine ⟨fun b o q => upd_keep n0 b o q, fun b o q _ => upd_keep hdx b o q, fun b q => .inl q, fun b o q => ?_⟩
        by_cases hb1 : b = dx
        · subst hb1
          exact .inr (.inr hdx)
        · rw [upd_ne hb1] at q
          exact .inl q
      · refine ⟨rfl, dx, (fs.zip vs).reverse, rfl, upd_same, upd_same, ?_, ?_⟩
        · show List.map (·.1) (fs.zip vs).reverse = List.map (·.1) (fs.zip (frzL ds)).reverse
          rw [List.map_reverse, List.map_reverse, zip_keys fs vs hvl, zip_keys fs (frzL ds) (by rw [frzL_length]; exact hl)]
        · show RepL ca X.K _ _ Em (List.map (·.2) (fs.zip vs).reverse) (List.map (·.2) (fs.zip (frzL ds)).reverse)
          rw [List.map_reverse, List.map_reverse, zip_vals fs vs hvl, zip_vals fs (frzL ds) (by rw [frzL_length]; exact hl)]
          exact repL_rev (RepL.keep (fun b o q => upd_keep n0 b o q) r2 fun _ q => q.elim)
    · rw [if_neg hl] at hq
      exact hq.elim
end
end DL

set_option maxHeartbeats 4000000
/-! DL50: try by data; what is asked of a caught exception. -/
namespace DL
open PySem PySem.Spec PyProof.Rows L2
/-- a clause: the classes it takes, its name's slot, its suite -/
structure Cl where
  t : Nat → Option Bool
  o : Option Nat
  m : MS
def goneS : Option Nat → SR → SR
  | none, .next st => .next st
  | none, .brk st => .brk st
  | none, .cont st => .cont st
  | none, .ret d st => .ret d st
  | some i, .next st => .next (st.set i none)
  | some i, .brk st => .brk (st.set i none)
  | some i, .cont st => .cont (st.set i none)
  | some i, .ret d st => .ret d (st.set i none)
  | _, _ => .fail
def hdsM : List Cl → Xc → Sl → SR
  | [], x, st => .exc x st
  | ⟨t, o, m⟩ :: r, x, st => match t x.C with
    | some true => goneS o (m (match o with | some i => st.set i (some (.xc x.C x.fs)) | none => st))
    | some false => hdsM r x st
    | none => .fail
def sTry (mb : MS) (hs : List Cl) : MS := fun st => match mb st with
  | .exc x st1 => hdsM hs x st1
  | .next st1 => .next st1
  | .ret d st1 => .ret d st1
  | .brk st1 => .brk st1
  | .cont st1 => .cont st1
  | .fail => .fail
section
variable {ca : Nat → Addr} {K : PySem.W.Frag} {Hf H Hf1 H1 Hf2 H2 : Hp} {S P P1 P2 : Rg} {R R1 R2 : Nat → Rg} {pp : Prop} {σ : L2.St} {st : Sl} {v : V} {d : D} {vs : List V} {ds : List D} {X : Cx} {L : List Nat}
theorem PR.gone (i : Nat) (p : PR ca K Hf H P pp R σ st) : PR ca K Hf H P pp R (σ.set i none) (st.set i none) where
  pend := p.pend
  len := by rw [List.length_set, List.length_set]; exact p.len
  at_ := fun j d e => by
    rcases set_get e with ⟨_, q⟩ | ⟨q1, q2⟩
    · cases q
    · obtain ⟨v, e2, r⟩ := p.at_ j d q2
      exact ⟨v, by rw [List.getElem?_set_ne q1]; exact e2, r⟩
  dj := p.dj
  dp := p.dp
  w := p.w
theorem tr_up {a : Addr} {o : HO} (n0 : Hf a = none) (hn : H a = none) : Tr S Hf H S (upd Hf a o) (upd H a o) := by
  refine ⟨fun b u q => upd_keep n0 b u q, fun b u q _ => upd_keep hn b u q, fun b q => .inl q, fun b u q => ?_⟩
  by_cases hb : b = a
  · subst hb
    exact .inr (.inr hn)
  · rw [upd_ne hb] at q
    exact .inl q
inductive CHs (ca : Nat → Addr) (X : Cx) (L : List Nat) : List ExceptHandler → List Cl → List Cls1 → Prop
  | nil : CHs ca X L [] [] []
  | plain {x : Str} {c : Value} {t : Nat → Option Bool} {m : MS} {b0 : Stmt} {body : List Stmt} {p1 p2 : Pos} {hds : List ExceptHandler} {l : List Cl} {l' : List Cls1} (hc : Names X x c)
      (ht : ∀ C b, t C = some b → PySem.W.exmOne X.K (.ref (ca C)) c = some b) (hb : ∀ a pn, CSs ca (X.suite a pn) L (b0 :: body) m) (r : CHs ca X L hds l l') :
      CHs ca X L (.ExceptHandler (some (.Name x p1)) none (b0 :: body) p2 :: hds) (⟨t, none, m⟩ :: l) ((c, none, fun a D σ H => ∀ pn, Wss (X.suite a pn) (b0 :: body) D σ H) :: l')
  | named {x n : Str} {i : Nat} {c : Value} {t : Nat → Option Bool} {m : MS} {b0 : Stmt} {body : List Stmt} {p1 p2 : Pos} {hds : List ExceptHandler} {l : List Cl} {l' : List Cls1} (hc : Names X x c)
      (hi : X.N[i]? = some n) (hl : X.env.kindOf n = some .local) (hL : i ∉ L)
      (ht : ∀ C b, t C = some b → PySem.W.exmOne X.K (.ref (ca C)) c = some b) (hb : ∀ a pn, CSs ca (X.suite a pn) L (b0 :: body) m) (r : CHs ca X L hds l l') :
      CHs ca X L (.ExceptHandler (some (.Name x p1)) (some n) (b0 :: body) p2 :: hds) (⟨t, some i, m⟩ :: l) ((c, some i, fun a D σ H => ∀ pn, Wss (X.suite a pn) (b0 :: body) D σ H) :: l')
theorem CHs.hd {hds : List ExceptHandler} {l : List Cl} {l' : List Cls1} (h : CHs ca X L hds l l') : HdC X hds l' := by
  induction h with
  | nil => exact .nil
  | plain hc ht hb r ih => exact .plain hc (fun a pn => ⟨fun pins s σ H D I h => h pn pins s I⟩) ih
  | named hc hi hl hL ht hb r ih => exact .named hc hi hl (fun a pn => ⟨fun pins s σ H D I h => h pn pins s I⟩) ih
/-- the exception is tracked -/
theorem PR.held {x : Xc} {cls : Value} {dd : Option Addr} {a : Addr} (p : PR ca K Hf H Em (XcR ca K Hf H cls dd x) R σ st) (na : H a = none) :
    PR ca K (upd Hf a (XcO a cls dd)) (upd H a (XcO a cls dd)) Em (Rep ca K (upd Hf a (XcO a cls dd)) (upd H a (XcO a cls dd)) Em (.ref a) (.xc x.C x.fs)) R σ st ∧ Tr (jn Em R) Hf H (jn Em R) (upd Hf a (XcO a cls dd)) (upd H a (XcO a cls dd)) := by
  obtain ⟨ec, b, fs, ed, e1, e2, kk, r⟩ := p.pend
  have p0 : PR ca K Hf H Em True R σ st := p.imp fun _ => trivial
  have n0 : Hf a = none := (wl_new (o := .xd []) p0.w na).2
  refine ⟨(p0.stand na).put ?_, tr_up n0 na⟩
  subst ec ed
  exact .xc upd_same (upd_keep n0 _ _ e2) kk (r.keep (fun b o q => upd_keep n0 b o q) fun _ q => q.elim)
theorem wish_of {E : Ends} {x : Xc} {cls : Value} {dd : Option Addr} : ∀ {hds : List ExceptHandler} {l : List Cl} {l' : List Cls1}, CHs ca X L hds l l' →
    PR ca X.K Hf H Em (XcR ca X.K Hf H cls dd x) R σ st → PostS ca X L Hf H (jn Em R) σ (hdsM l x st) E → wishC X.K (wX X) E l' cls dd σ H := by
  intro hds l l' h
  induction h with
  | nil => exact fun p q => q Hf H R σ cls dd (Tr.refl fun _ q => q) p Lk.refl
  | @plain y c t m b0 body p1 p2 hds l l' hc ht hb r ih =>
    intro p q
    unfold hdsM at q
    dsimp only at q
    cases et : t x.C with
    | none => rw [et] at q; exact q.elim
    | some b =>
      rw [et] at q
      refine ⟨b, by rw [p.pend.1]; exact ht _ _ et, fun e => ?_, fun e => ?_⟩
      · subst e
        intro a na pn
        obtain ⟨p1, t1⟩ := p.held na
        refine hb a pn _ _ R σ st E (p1.imp fun _ => trivial) ?_
        dsimp only at q
        cases em : m st with
        | next st2 =>
          rw [em] at q
          exact fun Hf2 H2 R2 σ2 t2 p2 k2 => q Hf2 H2 R2 σ2 (t1.trans t2) p2 k2
        | brk st2 =>
          rw [em] at q
          exact fun Hf2 H2 R2 σ2 t2 p2 k2 => q Hf2 H2 R2 σ2 (t1.trans t2) p2 k2
        | cont st2 =>
          rw [em] at q
          exact fun Hf2 H2 R2 σ2 t2 p2 k2 => q Hf2 H2 R2 σ2 (t1.trans t2) p2 k2
        | ret d2 st2 =>
          rw [em] at q
          exact fun Hf2 H2 P2 R2 σ2 v2 t2 p2 k2 => q Hf2 H2 P2 R2 σ2 v2 (t1.trans t2) p2 k2
        | exc y2 st2 => rw [em] at q; exact q.elim
        | fail => rw [em] at q; exact q.elim
      · subst e
        exact ih p q
  | @named y n i c t m b0 body p1 p2 hds l l' hc hi hl hL ht hb r ih =>
    intro p q
    unfold hdsM at q
    dsimp only at q
    cases et : t x.C with
    | none => rw [et] at q; exact q.elim
    | some b =>
      rw [et] at q
      refine ⟨b, by rw [p.pend.1]; exact ht _ _ et, fun e => ?_, fun e => ?_⟩
      · subst e
        intro a na pn
        obtain ⟨p1, t1⟩ := p.held na
        refine hb a pn _ _ _ (σ.set i (some (.ref a))) (st.set i (some (.xc x.C x.fs))) (endC (some i) E) (p1.store i) ?_
        have t1' := t1.trans (store_tr i)
        have k1 : Lk L σ (σ.set i (some (.ref a))) := Lk.set hL
        dsimp only at q
        cases em : m (st.set i (some (.xc x.C x.fs))) with
        | next st2 =>
          rw [em] at q
          exact fun Hf2 H2 R2 σ2 t2 p2 k2 => q Hf2 H2 R2 (σ2.set i none) (t1'.trans t2) (p2.gone i) (k1.trans (k2.trans (Lk.set hL)))
        | brk st2 =>
          rw [em] at q
          exact fun Hf2 H2 R2 σ2 t2 p2 k2 => q Hf2 H2 R2 (σ2.set i none) (t1'.trans t2) (p2.gone i) (k1.trans (k2.trans (Lk.set hL)))
        | cont st2 =>
          rw [em] at q
          exact fun Hf2 H2 R2 σ2 t2 p2 k2 => q Hf2 H2 R2 (σ2.set i none) (t1'.trans t2) (p2.gone i) (k1.trans (k2.trans (Lk.set hL)))
        | ret d2 st2 =>
          rw [em] at q
          exact fun Hf2 H2 P2 R2 σ2 v2 t2 p2 k2 => q Hf2 H2 P2 R2 (σ2.set i none) v2 (t1'.trans t2) (p2.gone i) (k1.trans (k2.trans (Lk.set hL)))
        | exc y2 st2 => rw [em] at q; exact q.elim
        | fail => rw [em] at q; exact q.elim
      · subst e
        exact ih p q
theorem cs_try {body : List Stmt} {hd : ExceptHandler} {hds : List ExceptHandler} {l : List Cl} {l' : List Cls1} {pos : Pos} {mb : MS} (hs : X.stack = X.env :: X.outer) (hf : X.env.frame = some X.env.locals) (hN : X.N.Nodup)
    (hb : ∀ (pn : List (Addr × Obj)) (xe : Value → Shared → Prop), PassesOwn (model X.prog X.w) X.A X.env xe → CSs ca (X.tr pn xe) L body mb) (hh : CHs ca X L (hd :: hds) l l') :
    CS ca X L (.Try body (hd :: hds) [] [] pos) (sTry mb l) := fun Hf H R σ st E p hq => by
  refine ws_of (ps_tryC (tb := fun W D σ H => ∀ pn xe, Takes (X.tr pn xe) W → PassesOwn (model X.prog X.w) X.A X.env xe → Wss (X.tr pn xe) body D σ H) hs hf hN (takes_wX X) (fun W pn xe tk po => ⟨fun pins s σ H D I h => h pn xe tk po pins s I⟩) hh.hd) ?_
  intro pn xe tk po
  refine hb pn xe po Hf H R σ st E p ?_
  unfold sTry at hq
  cases em : mb st with
  | next st2 => rw [em] at hq; exact hq
  | brk st2 => rw [em] at hq; exact hq
  | cont st2 => rw [em] at hq; exact hq
  | ret d2 st2 => rw [em] at hq; exact hq
  | fail => rw [em] at hq; exact hq
  | exc x st2 =>
    rw [em] at hq
    intro Hf1 H1 R1 σ1 cls dd t1 p1 k1
    exact wX_of tk (wish_of hh p1 (PostS.from t1 k1 hq))

/-! ### e.f, isinstance(e, C), of a tracked exception -/
def oXf (ok : Nat → Bool) (f : Str) : List D → Option Out
  | [.xc C fs] => if ok C then (match fs.lookup f with | some d => if cold d then some (.val d) else none | none => none) else none
  | _ => none
def rXf (K : PySem.W.Frag) (f : Str) : V → Hp → VK → Prop := fun x H Q => ∃ (a C dd : Addr) (fs : List (Str × V)) (v : V), x = .ref a ∧ H a = some (XcO a (.ref C) (some dd)) ∧ H dd = some (.xd fs) ∧ XfC K C ∧
  PySem.W.findIn K (.ref C) f = some none ∧ fs.lookup f = some v ∧ Q v H
theorem pe_xfT {e : Expr} {te : TE} {f : Str} {pos : Pos} (he : PE X e te) (hb : attributeBase e f X.env (eval e X.env) = eval e X.env := by rfl) : PE X (.Attribute e f pos) (fun σ H Q => te σ H fun x H1 => rXf X.K f x H1 Q) := ⟨fun pins s σ H Q I h => by
  refine attr_of hb (thn (he.run pins s σ H _ I h) fun u s1 hh => ?_)
  obtain ⟨x, H1, I1, rx, a, C, dd, fs, v, ex, ea, ed, T, hno, l, q⟩ := hh
  subst ex
  obtain rfl : u = Value.ref a := rx
  have hh : ObjOk X.prog X.w H1 s1.heap a (XcO a (.ref C) (some dd)) := I1.hok a _ ea
  obtain ⟨⟨oe, vs, ha, hz, hd⟩, _⟩ := hh
  have hx : ObjOk X.prog X.w H1 s1.heap dd (.xd fs) := I1.hok dd _ ed
  obtain ⟨mA, hns, hr⟩ := hx
  obtain ⟨od, ho, hl⟩ := lookIn_ns hns
  obtain ⟨u, hu, ru⟩ := RelO.some_of (v := v) (o := mA f) (by rw [← l]; exact hr f)
  have J : PySem.W.InstAt s1.heap a oe C (some od) := by
    refine ⟨ha, hz.1, ?_, by rw [hz.2]; exact ho⟩
    unfold PySem.W.notCls
    rw [hd] <;> rfl
  exact HandSPX.exc_get I1.kIn J T.ga T.gg T.exC (PySem.W.findObj_own T.hdC hno rfl (by rw [hl, hu])) (handed_of ru) ⟨v, H1, I1.tok _, ru, q⟩⟩
theorem rep_xc {C : Nat} {gs : List (Str × D)} (hx : Ex Hf H) (r : Rep ca K Hf H S v (.xc C gs)) : ∃ a dd fs, v = .ref a ∧ H a = some (XcO a (.ref (ca C)) (some dd)) ∧ H dd = some (.xd fs) ∧ fs.map (·.1) = gs.map (·.1) ∧ RepL ca K Hf H Em (fs.map (·.2)) (gs.map (·.2)) := by
  cases r with
  | xc e e2 k r => exact ⟨_, _, _, rfl, hx _ _ e, hx _ _ e2, k, r⟩
theorem os_xf {ok : Nat → Bool} {f : Str} (hX : ∀ C, ok C = true → XfC K (ca C) ∧ PySem.W.findIn K (.ref (ca C)) f = some none) : OpS ca K (rl1 (rXf K f)) (oXf ok f) := fun Hf H vs ds o Q hx rd h q => by
  match ds, h with
  | [.xc C gs], hh =>
    dsimp only [oXf] at hh
    by_cases hC : ok C = true
    · rw [if_pos hC] at hh
      cases el : gs.lookup f with
      | none => rw [el] at hh; cases hh
      | some dd =>
        rw [el] at hh
        dsimp only at hh
        by_cases hc : cold dd = true
        · rw [if_pos hc] at hh
          cases hh
          obtain ⟨v, S, e1, r1⟩ := rdl1 rd rfl
          subst e1
          obtain ⟨a, dx, fs, rfl, e2, e3, k, r⟩ := rep_xc hx r1
          obtain ⟨j, v', h1, h2, h3⟩ := lookup_keys (j := 0) k el
          obtain ⟨v2, T2, e4, r2, _⟩ := repL_at r h3
          rw [h2] at e4
          cases e4
          have hd : hot dd = false := by unfold cold at hc; simpa using hc
          exact ⟨a, ca C, dx, fs, v', rfl, e2, e3, (hX C hC).1, (hX C hC).2, h1, q v' (r2.cold hd)⟩
        · rw [if_neg hc] at hh; cases hh
    · rw [if_neg hC] at hh; cases hh
theorem ce_xf {ok : Nat → Bool} {e : Expr} {oe : Opd} {f : Str} {pos : Pos} (hX : ∀ C, ok C = true → XfC X.K (ca C) ∧ PySem.W.findIn X.K (.ref (ca C)) f = some none) (he : CO ca X e oe) (hb : attributeBase e f X.env (eval e X.env) = eval e X.env := by rfl) : CE ca X (.Attribute e f pos) (eOp (oXf ok f) [oe]) :=
  ce_op (es := [e]) (rl := rl1 (rXf X.K f)) (fun σ H Q h => we_of (pe_xfT (we_pe X e) hb) h) (.cons he .nil) (os_xf hX)
/-- what the class says, for isinstance of its instances -/
structure XiC (K : PySem.W.Frag) (D : Addr) : Prop where
  hc : (PySem.W.clsIn K D).isSome = true
  hg : PySem.W.findIn K (.ref D) "__getattribute__" = some (some (.builtin "BaseException.__getattribute__"))
  hk : PySem.W.findIn K (.ref D) "__getattr__" = some none
  hs : PySem.W.subIn K (.ref D) (.type "BaseException") = some true
  ha : PySem.W.findIn K (.ref D) "__class__" = some (some (.builtin "object.__class__"))
  hn : PySem.W.specialIn K (.builtin "object.__class__") "__get__" = some (some (.builtin "getset_descriptor.__get__"))
  ht : PySem.W.takesIn K (.builtin "object.__class__") = some true
  hm : PySem.W.mroIn K D (.type "object") = some true
def rIsX (K : PySem.W.Frag) : List V → Hp → VK → Prop := fun xs H Q => ∃ (a D dd : Addr) (fs : List (Str × V)) (c : V) (cv : Value) (b : Bool), xs = [.ref a, c] ∧ H a = some (XcO a (.ref D) (some dd)) ∧ H dd = some (.xd fs) ∧ XiC K D ∧
  (∀ u, RelV c u → u = cv) ∧ PySem.W.kitOne K (.ref D) cv = some b ∧ Q (.bl b) H
theorem call_isX : CallR X (.builtin "isinstance") (rIsX X.K) := by
  intro pins s σ H xs us Q I r h
  obtain ⟨a, D, dd, fs, c, cv, b, rfl, ea, ed, C, hcv, e, q⟩ := h
  cases r with
  | cons rx rr =>
    cases rr with
    | cons rt rr =>
      cases rr
      cases rx
      have ec := hcv _ rt
      subst ec
      have hh : ObjOk X.prog X.w H s.heap a (XcO a (.ref D) (some dd)) := I.hok a _ ea
      obtain ⟨⟨oe, vs, ha, hz, hd⟩, _⟩ := hh
      have hx : ObjOk X.prog X.w H s.heap dd (.xd fs) := I.hok dd _ ed
      obtain ⟨mA, hns, hr⟩ := hx
      obtain ⟨od, ho, hl⟩ := lookIn_ns hns
      have J : PySem.W.InstAt s.heap a oe D (some od) := by
        refine ⟨ha, hz.1, ?_, by rw [hz.2]; exact ho⟩
        unfold PySem.W.notCls
        rw [hd] <;> rfl
      exact PySem.W.kia_one (PySem.W.kitx_exc C.hc C.hg C.hk C.hs C.ha C.hn C.ht C.hm) I.kIn J e (fun z => nomatch z) fun tk => ⟨.bl b, H, I.kept (t' := tk) fun _ _ z => z, rfl, q⟩
/-- t: the answers by the exception's class; of C a class of the text, or of T a built-in one -/
def oIsiX (t : Nat → Option Bool) (C2 : Nat) : List D → Option Out
  | [.xc C _, .cls C'] => if C' = C2 then (t C).map fun b => .val (.bl b) else none
  | _ => none
def oIsiXT (t : Nat → Option Bool) (T2 : String) : List D → Option Out
  | [.xc C _, .ty T'] => if T' = T2 then (t C).map fun b => .val (.bl b) else none
  | _ => none
theorem os_isiX {t : Nat → Option Bool} {C2 : Nat} (hX : ∀ C b, t C = some b → XiC K (ca C) ∧ PySem.W.kitOne K (.ref (ca C)) (.ref (ca C2)) = some b) : OpS ca K (rIsX K) (oIsiX t C2) := fun Hf H vs ds o Q hx rd h q => by
  match ds, h with
  | [.xc C gs, .cls C'], hh =>
    dsimp only [oIsiX] at hh
    by_cases hC : C' = C2
    · rw [if_pos hC] at hh
      subst hC
      cases et : t C with
      | none => rw [et] at hh; cases hh
      | some b =>
        rw [et] at hh
        cases hh
        obtain ⟨v, w, S, S', e1, r1, r2⟩ := rdl2 rd rfl
        subst e1
        cases r2
        obtain ⟨a, dd, fs, rfl, e2, e3, _, _⟩ := rep_xc hx r1
        obtain ⟨h1, h2⟩ := hX C b et
        exact ⟨a, ca C, dd, fs, .ref (ca C'), .ref (ca C'), b, rfl, e2, e3, h1, fun u r => r, h2, q _ .bl⟩
    · rw [if_neg hC] at hh; cases hh
theorem os_isiXT {t : Nat → Option Bool} {T : String} (hX : ∀ C b, t C = some b → XiC K (ca C) ∧ PySem.W.kitOne K (.ref (ca C)) (.type T) = some b) : OpS ca K (rIsX K) (oIsiXT t T) := fun Hf H vs ds o Q hx rd h q => by
  match ds, h with
  | [.xc C gs, .ty C'], hh =>
    dsimp only [oIsiXT] at hh
    by_cases hC : C' = T
    · rw [if_pos hC] at hh
      subst hC
      cases et : t C with
      | none => rw [et] at hh; cases hh
      | some b =>
        rw [et] at hh
        cases hh
        obtain ⟨v, w, S, S', e1, r1, r2⟩ := rdl2 rd rfl
        subst e1
        cases r2
        obtain ⟨a, dd, fs, rfl, e2, e3, _, _⟩ := rep_xc hx r1
        obtain ⟨h1, h2⟩ := hX C b et
        exact ⟨a, ca C, dd, fs, .ty C', .type C', b, rfl, e2, e3, h1, fun u r => r, h2, q _ .bl⟩
    · rw [if_neg hC] at hh; cases hh
end
end DL

/-! DL51: facts of exception classes, names of the text's constants. -/
namespace DL
open PySem PySem.Spec PyProof.Rows L2
def hdB : Stmt → Nat → List Stmt
  | .Try _ hs _ _ _, j => match hs[j]? with
    | some (.ExceptHandler _ _ b _) => b
    | none => []
  | _, _ => []
section
variable {K : PySem.W.Frag} {C D : Addr} {b : Bool}
theorem kit_ref (h1 : PySem.W.isClsIn K D = true) (h2 : PySem.W.typeIn K (.ref D) = some (.type "type")) (h3 : PySem.W.subIn K (.ref C) (.ref D) = some b) (hne : b = false → (Value.ref C == Value.ref D) = false) :
    PySem.W.kitOne K (.ref C) (.ref D) = some b := by
  have e2 : (PySem.W.clsIn K D).isSome = true := h1
  have e3 : PySem.W.kitCls K (.ref C) (.ref D) = some b := by
    show (if ((PySem.W.clsIn K D).isSome && PySem.W.typeIn K (.ref D) == some (.type "type")) = true then
      PySem.W.subIn K (.ref C) (.ref D) else none) = some b
    rw [e2, h2]
    exact (if_pos (by simp)).trans h3
  show (if (Value.ref C == Value.ref D) = true then some true else PySem.W.kitCls K (.ref C) (.ref D)) = some b
  cases b with
  | true =>
    by_cases h : (Value.ref C == Value.ref D) = true
    · rw [if_pos h]
    · rw [if_neg h, e3]
  | false =>
    rw [hne rfl, e3] <;> rfl
theorem kit_bt {T : String} (hk : PySem.W.kitMeta T = true) (h3 : PySem.W.subIn K (.ref C) (.type T) = some b) : PySem.W.kitOne K (.ref C) (.type T) = some b := by
  show (if (Value.ref C == Value.type T) = true then some true else
    (if PySem.W.kitMeta T = true then PySem.W.subIn K (.ref C) (.type T) else none)) = some b
  rw [if_neg (show ¬ ((Value.ref C == Value.type T) = true) from fun z => by cases z), if_pos hk, h3]
theorem isFn_ty {f : Addr} (h : PySem.W.isFn K (.ref f) = true) : PySem.W.typeIn K (.ref f) = some (.type "function") := eq_of_beq h
end
section
variable {ca : Nat → Addr} {X : Cx} {v : V} {d : D}
/-- a name of the module that stands for a number or a text -/
theorem ce_glob {x : Str} {u : Value} {p : Pos} (hg : Gl X x) (hm : X.mg x = some u) (r : RelV v u) (rd : ∀ Hf H, Rep ca X.K Hf H Em v d) (hd : (x == ("__debug__" : Str)) = false := by decide) : CE ca X (.Name x p) (eC d) := ce_c (pe_glob hg hm r hd) rd
end
end DL

/-! DL52: ascending lists; the descending list decides whether all is sorted. -/
namespace Nw
open DL
def ascB : List Int → Bool
  | x :: y :: r => decide (x ≤ y) && ascB (y :: r)
  | _ => true
theorem ascB_cons {x : Int} {r : List Int} : ascB (x :: r) = true ↔ (∀ y ∈ r, x ≤ y) ∧ ascB r = true := by
  induction r generalizing x with
  | nil => exact ⟨fun _ => ⟨(fun _ h => by cases h), rfl⟩, fun _ => rfl⟩
  | cons y r ih =>
    rw [show ascB (x :: y :: r) = (decide (x ≤ y) && ascB (y :: r)) from rfl, Bool.and_eq_true, decide_eq_true_eq]
    refine ⟨fun ⟨h1, h2⟩ => ⟨fun z hz => ?_, h2⟩, fun ⟨h1, h2⟩ => ⟨h1 y List.mem_cons_self, h2⟩⟩
    rcases List.mem_cons.mp hz with e | hz
    · omega
    · have := (ih.mp h2).1 z hz
      omega
theorem cp_big {t : Int} {l : List Int} (h : ∀ y ∈ l, t < y) (p : Nat) : cp t l p = 0 := by
  induction l generalizing p with
  | nil => exact cp_nil t p
  | cons x l ih =>
    cases p with
    | zero => rfl
    | succ p =>
      have := h x List.mem_cons_self
      rw [cp_cons, ih (fun y hy => h y (List.mem_cons_of_mem _ hy))]
      unfold sm
      rw [if_neg (by omega)]
theorem asc_cp {l : List Int} (h : ascB l = true) (t : Int) (p : Nat) : min p (cp t l l.length) ≤ cp t l p := by
  induction l generalizing p with
  | nil => rw [cp_nil, cp_nil]; omega
  | cons x l ih =>
    obtain ⟨h1, h2⟩ := ascB_cons.mp h
    cases p with
    | zero => omega
    | succ p =>
      rw [List.length_cons, cp_cons, cp_cons]
      by_cases hx : x ≤ t
      · have := ih h2 p
        unfold sm
        rw [if_pos hx]
        omega
      · rw [cp_big (fun y hy => by have := h1 y hy; omega)]
        unfold sm
        rw [if_neg hx]
        omega
theorem not_asc : ∀ {l : List Int}, ascB l = false → ∃ a x y r, l = a ++ x :: y :: r ∧ y < x
  | [], h => by cases h
  | [x], h => by cases h
  | x :: y :: r, h => by
    by_cases hx : x ≤ y
    · unfold ascB at h
      rw [decide_eq_true hx, Bool.true_and] at h
      obtain ⟨a, x', y', r', e, q⟩ := not_asc h
      exact ⟨x :: a, x', y', r', by rw [e]; rfl, q⟩
    · exact ⟨[], x, y, r, rfl, by omega⟩
theorem cp_le (t : Int) (l : List Int) (p : Nat) : cp t l p ≤ p := by
  have : cp t l p ≤ (l.take p).length := List.length_filter_le _ _
  rw [List.length_take] at this
  omega
theorem cp_asc {l : List Int} (h : ∀ t p, min p (cp t l l.length) ≤ cp t l p) : ascB l = true := by
  cases e : ascB l with
  | true => rfl
  | false =>
    exfalso
    obtain ⟨a, x, y, r, rfl, q⟩ := not_asc e
    have h1 := h y (a.length + 1)
    have e1 : cp y (a ++ x :: y :: r) (a.length + 1) = cp y a a.length := by
      rw [cp_app, cp_cons, cp_0]
      unfold sm
      rw [if_neg (by omega)] <;> omega
    have e2 : cp y (a ++ x :: y :: r) (a ++ x :: y :: r).length = cp y a a.length + (sm y x + (sm y y + cp y r r.length)) := by
      rw [List.length_append, cp_app, List.length_cons, List.length_cons, cp_cons, cp_cons]
    have e3 : sm y y = 1 := by unfold sm; rw [if_pos (Int.le_refl _)]
    have := cp_le y a a.length
    omega
theorem cp_tot (t : Int) {l : List Int} {s : Int} (h1 : 1 ≤ s) (h2 : s < l.length) : cp t (stp l s) l.length = cp t l l.length := by
  rw [cp_stp h1 h2, if_neg (by omega)]
theorem cp_run_tot (t : Int) : ∀ (ss : List Int) {l : List Int}, okS l.length ss → cp t (runL ss l) l.length = cp t l l.length
  | [], _, _ => rfl
  | s :: ss, l, h => by
    have a := h s List.mem_cons_self
    have e := cp_run_tot t ss (l := stp l s) (by rw [stp_len]; exact fun x hx => h x (List.mem_cons_of_mem _ hx))
    rw [stp_len] at e
    show cp t (runL ss (stp l s)) l.length = _
    rw [e, cp_tot t a.1 (by omega)]
/-- the same for two bounds, one for each list -/
theorem dom2_run (t u : Int) : ∀ (ss : List Int) {l m : List Int}, okS l.length ss → l.length = m.length → (∀ p, cp u m p ≤ cp t l p) → ∀ p, cp u (runL ss m) p ≤ cp t (runL ss l) p
  | [], _, _, _, _, h => h
  | s :: ss, l, m, hs, hl, h => by
    have a := hs s List.mem_cons_self
    refine dom2_run t u ss (l := stp l s) (m := stp m s) (by rw [stp_len]; exact fun x hx => hs x (List.mem_cons_of_mem _ hx)) (by rw [stp_len, stp_len, hl]) fun p => ?_
    rw [cp_stp a.1 (by omega), cp_stp a.1 (by omega)]
    split
    · have b := h (s.toNat + 1)
      have c := h (s.toNat - 1)
      omega
    · exact h p
theorem cp_desc (k : Nat) : ∀ (w p : Nat), p ≤ w → cp (k : Int) (desc w) p = p - (w - k)
  | 0, p, h => by
    have : p = 0 := by omega
    subst this
    rw [cp_0]; omega
  | w + 1, 0, _ => by rw [cp_0]; omega
  | w + 1, p + 1, h => by
    show cp (k : Int) (((w : Int) + 1) :: desc w) (p + 1) = _
    rw [cp_cons, cp_desc k w p (by omega)]
    unfold sm
    split <;> omega
theorem cp_more (t : Int) (l : List Int) (p : Nat) : ∀ q, cp t l (p + q) ≤ cp t l p + q
  | 0 => Nat.le_refl _
  | q + 1 => by
    have := cp_more t l p q
    have := (cp_mono t l (p + q)).2
    show cp t l (p + q + 1) ≤ _
    omega
theorem cp_over (t : Int) (l : List Int) {p : Nat} (h : l.length ≤ p) : cp t l p = cp t l l.length := by
  unfold cp
  rw [List.take_of_length_le h, List.take_length]
/-- a network that sorts the descending list sorts all -/
theorem sorts_one {w : Nat} {ss l : List Int} (hs : okS w ss) (hl : l.length = w) (h : ascB (runL ss (desc w)) = true) : ascB (runL ss l) = true := by
  have hd : (desc w).length = w := desc_len w
  refine cp_asc fun t p => ?_
  rw [runL_len]
  have ht := cp_run_tot t ss (l := l) (by rw [hl]; exact hs)
  rw [ht]
  obtain ⟨k, hk⟩ : ∃ k, cp t l l.length = k := ⟨_, rfl⟩
  have kw : k ≤ w := by rw [← hk, ← hl]; exact cp_le _ _ _
  rw [hk]
  have start : ∀ p, cp (k : Int) (desc w) p ≤ cp t l p := fun p => by
    by_cases hp : p ≤ w
    · rw [cp_desc k w p hp]
      have := cp_more t l p (w - p)
      rw [show p + (w - p) = l.length by omega, hk] at this
      omega
    · rw [cp_over _ (desc w) (by omega), hd, cp_desc k w w (Nat.le_refl _), cp_over t l (by omega), hk]
      omega
  have run := dom2_run t k ss (l := l) (m := desc w) (by rw [hl]; exact hs) (by rw [hd, hl]) start p
  have a := asc_cp h k p
  rw [runL_len, cp_run_tot k ss (by rw [hd]; exact hs), hd, cp_desc k w w (Nat.le_refl _)] at a
  omega
/-- a step and a map that keeps the order -/
theorem stp_mono {φ : Int → Int} (hφ : ∀ a b, a ≤ b → φ a ≤ φ b) {l : List Int} {s : Int} (h1 : 1 ≤ s) (h2 : s < l.length) : stp (l.map φ) s = (stp l s).map φ := by
  obtain ⟨a, x, y, r, e, ha, hs⟩ := stp_eq h1 h2
  obtain ⟨a', x', y', r', e', ha', hs'⟩ := stp_eq (l := l.map φ) h1 (by rw [List.length_map]; exact h2)
  have e2 : l.map φ = a.map φ ++ φ x :: φ y :: r.map φ := by rw [e]; simp
  have e3 := e'.symm.trans e2
  have hl : a'.length = (a.map φ).length := by rw [List.length_map]; omega
  obtain ⟨q1, q2⟩ := List.append_inj e3 hl
  injection q2 with q3 q4
  injection q4 with q5 q6
  subst q1 q3 q5 q6
  rw [hs', hs]
  have m1 : φ (min x y) = min (φ x) (φ y) := by
    rcases Int.le_total x y with h | h
    · rw [Int.min_eq_left h, Int.min_eq_left (hφ _ _ h)]
    · rw [Int.min_eq_right h, Int.min_eq_right (hφ _ _ h)]
  have m2 : φ (max x y) = max (φ x) (φ y) := by
    rcases Int.le_total x y with h | h
    · rw [Int.max_eq_right h, Int.max_eq_right (hφ _ _ h)]
    · rw [Int.max_eq_left h, Int.max_eq_left (hφ _ _ h)]
  simp [m1, m2]
theorem runL_mono {φ : Int → Int} (hφ : ∀ a b, a ≤ b → φ a ≤ φ b) : ∀ (ss l : List Int), okS l.length ss → runL ss (l.map φ) = (runL ss l).map φ
  | [], _, _ => rfl
  | s :: ss, l, h => by
    have a := h s List.mem_cons_self
    show runL ss (stp (l.map φ) s) = (runL ss (stp l s)).map φ
    rw [stp_mono hφ a.1 (by omega), runL_mono hφ ss (stp l s) (by rw [stp_len]; exact fun x hx => h x (List.mem_cons_of_mem _ hx))]
/-- zeros up to a bound, ones above -/
def cutAt (t : Int) (l : List Int) : List Int := l.map fun x => if x ≤ t then 0 else 1
theorem cut_run (t : Int) (ss l : List Int) (h : okS l.length ss) : runL ss (cutAt t l) = cutAt t (runL ss l) :=
  runL_mono (φ := fun x => if x ≤ t then 0 else 1) (fun a b h => by split <;> split <;> omega) ss l h
def bits (b : List Int) : Prop := ∀ x ∈ b, x = 0 ∨ x = 1
theorem cut_bits (t : Int) (l : List Int) : bits (cutAt t l) := fun x hx => by
  obtain ⟨y, _, rfl⟩ := List.mem_map.mp hx
  split
  · exact .inl rfl
  · exact .inr rfl
theorem cut_len (t : Int) (l : List Int) : (cutAt t l).length = l.length := List.length_map _
/-- a network that sorts all lists of zeros and ones sorts all -/
theorem zeros_ones {w : Nat} {ss l : List Int} (hs : okS w ss) (hl : l.length = w) (h : ∀ b, b.length = w → bits b → ascB (runL ss b) = true) : ascB (runL ss l) = true := by
  cases e : ascB (runL ss l) with
  | true => rfl
  | false =>
    exfalso
    obtain ⟨a, x, y, r, e2, q⟩ := not_asc e
    have h1 := h (cutAt y l) (by rw [cut_len, hl]) (cut_bits y l)
    rw [cut_run y ss l (by rw [hl]; exact hs), e2] at h1
    have key : ∀ a : List Int, ascB (a ++ 1 :: 0 :: cutAt y r) = false := fun a => by
      induction a with
      | nil => rfl
      | cons z a ih =>
        cases ez : ascB (z :: (a ++ 1 :: 0 :: cutAt y r)) with
        | false => exact ez
        | true =>
          have := (ascB_cons.mp ez).2
          rw [ih] at this
          cases this
    have e3 : cutAt y (a ++ x :: y :: r) = cutAt y a ++ 1 :: 0 :: cutAt y r := by
      unfold cutAt
      rw [List.map_append, List.map_cons, List.map_cons, if_neg (by omega), if_pos (Int.le_refl _)]
    rw [e3, key] at h1
    cases h1
theorem sorts_iff {w : Nat} {ss : List Int} (hs : okS w ss) : (∀ b, b.length = w → bits b → ascB (runL ss b) = true) ↔ ascB (runL ss (desc w)) = true :=
  ⟨fun h => zeros_ones hs (desc_len w) h, fun h b hb _ => sorts_one hs hb h⟩
/-! ### numbers as rows of bits -/
def bitRow (w n : Nat) : List Int := (List.range w).map fun (p : Nat) => (((n / 2 ^ p) % 2 : Nat) : Int)
theorem bitRow_len (w n : Nat) : (bitRow w n).length = w := by unfold bitRow; rw [List.length_map, List.length_range]
theorem bitRow_bits (w n : Nat) : bits (bitRow w n) := fun x hx => by
  obtain ⟨y, _, rfl⟩ := List.mem_map.mp hx
  omega
theorem bitRow_succ (w n : Nat) : bitRow (w + 1) n = ((n % 2 : Nat) : Int) :: bitRow w (n / 2) := by
  unfold bitRow
  rw [List.range_succ_eq_map, List.map_cons, List.map_map, Nat.pow_zero, Nat.div_one]
  congr 1
  apply List.map_congr_left
  intro p _
  show (((n / 2 ^ (p + 1)) % 2 : Nat) : Int) = (((n / 2 / 2 ^ p) % 2 : Nat) : Int)
  rw [Nat.div_div_eq_div_mul, Nat.pow_succ, Nat.mul_comm (2 ^ p) 2]
theorem bitRow_all : ∀ (b : List Int), bits b → ∃ n, n < 2 ^ b.length ∧ bitRow b.length n = b
  | [], _ => ⟨0, by decide, rfl⟩
  | x :: b, h => by
    obtain ⟨n, h1, h2⟩ := bitRow_all b fun y hy => h y (List.mem_cons_of_mem _ hy)
    rcases h x List.mem_cons_self with e | e
    · refine ⟨2 * n, by rw [List.length_cons, Nat.pow_succ]; omega, ?_⟩
      rw [List.length_cons, bitRow_succ, show 2 * n % 2 = 0 by omega, show 2 * n / 2 = n by omega, h2, e] <;> rfl
    · refine ⟨2 * n + 1, by rw [List.length_cons, Nat.pow_succ]; omega, ?_⟩
      rw [List.length_cons, bitRow_succ, show (2 * n + 1) % 2 = 1 by omega, show (2 * n + 1) / 2 = n by omega, h2, e] <;> rfl
end Nw

/-! DL53: more evaluation: loops as folds, pairs of neighbours, rows of bits. -/
namespace DL
open PySem (Str)
open Nw
theorem forD_rel {α β : Type} {g : MG} {body : MS} (enc : α → D) (R : β → Sl → Prop) (f : β → α → β) : ∀ (l : List α) (b : β) (st : Sl), R b st →
    (∀ b x st, x ∈ l → R b st → ∃ st1 st2, g (enc x) st = .ok () st1 ∧ body st1 = .next st2 ∧ R (f b x) st2) → ∃ st', forD g body (l.map enc) st = .next st' ∧ R (l.foldl f b) st'
  | [], b, st, h, _ => ⟨st, rfl, h⟩
  | x :: l, b, st, h, step => by
    obtain ⟨s1, s2, e1, e2, h2⟩ := step b x st List.mem_cons_self h
    obtain ⟨st', e, h3⟩ := forD_rel enc R f l (f b x) s2 h2 fun b y st hy => step b y st (List.mem_cons_of_mem _ hy)
    exact ⟨st', forD_cons e1 e2 e, h3⟩
/-- a loop that only keeps an invariant -/
theorem forD_inv {g : MG} {body : MS} (I : Sl → Prop) : ∀ (ds : List D) (st : Sl), I st →
    (∀ d st, d ∈ ds → I st → ∃ st1 st2, g d st = .ok () st1 ∧ body st1 = .next st2 ∧ I st2) → ∃ st', forD g body ds st = .next st' ∧ I st'
  | [], st, h, _ => ⟨st, rfl, h⟩
  | d :: ds, st, h, step => by
    obtain ⟨s1, s2, e1, e2, h2⟩ := step d st List.mem_cons_self h
    obtain ⟨st', e, h3⟩ := forD_inv I ds s2 h2 fun d st hy => step d st (List.mem_cons_of_mem _ hy)
    exact ⟨st', forD_cons e1 e2 e, h3⟩
/-- a comprehension whose source draws: an invariant of the state, each item from the numbers P -/
theorem comp_draw {g : MG} {e : ME} {vs : List Nat} {src : Sl → Res (List D)} (I : Sl → Prop) (P : Int → Prop) {st st1 : Sl} {lo : Int} {n : Nat} (hs : src st = .ok (rangeD lo n) st1) (hn : n ≤ 16777216) (h1 : I (wipeS st1 vs))
    (step : ∀ (i : Nat) (st : Sl), i < n → I st → ∃ s1 s2 r, g (.int (lo + i)) st = .ok () s1 ∧ e s1 = .ok (.int r) s2 ∧ P r ∧ I (wipeS s2 vs)) :
    ∃ ns st', eLc src g tYesM e vs st = .ok (.lst true (nums ns)) st' ∧ I st' ∧ ns.length = n ∧ ∀ r ∈ ns, P r := by
  obtain ⟨acc, st', h, ns, h2, h3, h4, h5⟩ := compD_ok (g := g) (t := tYesM) (e := e) (vs := vs) (fun i st acc => ∃ ns : List Int, I st ∧ ns.length = i ∧ (∀ r ∈ ns, P r) ∧ acc = nums ns) (rangeD lo n) 0 (wipeS st1 vs) []
    ⟨[], h1, rfl, (fun r hr => by cases hr), rfl⟩ (fun i d st acc ei hI => by
      obtain ⟨ns, g1, g2, g3, rfl⟩ := hI
      obtain ⟨hi, rfl⟩ := rangeD_get ei
      obtain ⟨s1, s2, r, q1, q2, q3, q4⟩ := step i st hi g1
      refine ⟨s1, true, s1, q1, rfl, (fun h => by cases h), fun _ => ⟨by rw [nums_len]; omega, .int r, s2, q2, ns ++ [r], q4, by rw [List.length_append, g2]; rfl, fun x hx => ?_, by rw [nums_app]; rfl⟩⟩
      rcases List.mem_append.mp hx with hx | hx
      · exact g3 x hx
      · rw [List.mem_singleton.mp hx]
        exact q3)
  rw [Nat.zero_add, rangeD_len] at h3
  subst h5
  exact ⟨ns, st', eLc_v hs h, h2, h3, h4⟩
theorem zipD_map {α β : Type} (f : α → D) (h : β → D) : ∀ (l : List α) (k : List β), zipD (l.map f) (k.map h) = (l.zip k).map fun p => .tup [f p.1, h p.2]
  | [], k => by rw [List.map_nil, List.zip_nil_left]; rfl
  | x :: l, [] => rfl
  | x :: l, y :: k => by
    rw [List.map_cons, List.map_cons, List.zip_cons_cons, List.map_cons, ← zipD_map f h l k]
    rfl
/-- a comprehension with two names -/
theorem comp_go2 {α : Type} {g : MG} {t : MT} {e : ME} {i j : Nat} {st : Sl} (enc φ : α → D) (p : α → Bool) : ∀ (l : List α) (acc : List D),
    (∀ x ∈ l, ∃ s1 s2, g (enc x) st = .ok () s1 ∧ t s1 = .ok (p x) s2 ∧ (p x = false → wipeS s2 [i, j] = st) ∧ (p x = true → ∃ s3, e s2 = .ok (φ x) s3 ∧ wipeS s3 [i, j] = st)) → acc.length + l.length ≤ 16777216 →
    compD g t e [i, j] (l.map enc) st acc = .ok (acc ++ (l.filter p).map φ) st := fun l acc h hl => by
  obtain ⟨acc', st', e1, h1, h2⟩ := compD_ok (g := g) (t := t) (e := e) (vs := [i, j]) (fun n s a => s = st ∧ a = acc ++ ((l.take n).filter p).map φ) (l.map enc) 0 st acc ⟨rfl, by simp⟩ (fun n d s a en hI => by
    obtain ⟨rfl, rfl⟩ := hI
    rw [List.getElem?_map] at en
    cases ex : l[n]? with
    | none => rw [ex] at en; cases en
    | some x =>
      rw [ex] at en
      cases en
      rw [Nat.zero_add]
      have hx : x ∈ l := List.mem_of_getElem? ex
      have tk : l.take (n + 1) = l.take n ++ [x] := by rw [List.take_succ, ex]; rfl
      obtain ⟨s1, s2, q1, q2, q3, q4⟩ := h x hx
      refine ⟨s1, p x, s2, q1, q2, fun hp => ⟨q3 hp, ?_⟩, fun hp => ?_⟩
      · rw [tk, List.filter_append]
        simp [hp]
      · obtain ⟨s3, q5, q6⟩ := q4 hp
        refine ⟨?_, φ x, s3, q5, q6, ?_⟩
        · have : ((l.take n).filter p).length ≤ (l.take n).length := List.length_filter_le _ _
          rw [List.length_take] at this
          have hn : n < l.length := (List.getElem?_eq_some_iff.mp ex).1
          rw [List.length_append, List.length_map]
          omega
        · rw [tk, List.filter_append]
          simp [hp])
  rw [Nat.zero_add, List.length_map, List.take_length] at h2
  rw [e1, h1, h2]
theorem xLc2n {α : Type} {g : MG} {t : MT} {e : ME} {i j : Nat} {st st1 st2 : Sl} {src : Sl → Res (List D)} (enc φ : α → D) (p : α → Bool) (l : List α) {ds out : List D} (hs : src st = .ok ds st1) (hd : ds = l.map enc) (hl : l.length ≤ 16777216) (hw : wipeS st1 [i, j] = st2)
    (h : ∀ x ∈ l, ∃ s1 s2, g (enc x) st2 = .ok () s1 ∧ t s1 = .ok (p x) s2 ∧ (p x = false → wipeS s2 [i, j] = st2) ∧ (p x = true → ∃ s3, e s2 = .ok (φ x) s3 ∧ wipeS s3 [i, j] = st2)) (ho : (l.filter p).map φ = out) :
    eLc src g t e [i, j] st = .ok (.lst true out) st2 := by
  subst hd ho
  refine eLc_v hs ?_
  rw [hw, comp_go2 enc φ p l [] h (by rw [List.length_nil, Nat.zero_add]; exact hl)]
  rfl
/-! ### ascending -/
theorem zip_asc : ∀ l : List Int, ((l.zip (l.drop 1)).map fun p => decide (p.1 ≤ p.2)).all id = ascB l
  | [] => rfl
  | [x] => rfl
  | x :: y :: r => by
    have ih := zip_asc (y :: r)
    show (decide (x ≤ y) && (((y :: r).zip ((y :: r).drop 1)).map fun p => decide (p.1 ≤ p.2)).all id) = _
    rw [ih]
    rfl
theorem asBls_map {α : Type} (f : α → Bool) : ∀ l : List α, asBls (l.map fun x => .bl (f x)) = some (l.map f)
  | [] => rfl
  | x :: l => by show (asBls (l.map fun x => .bl (f x))).map (f x :: ·) = _; rw [asBls_map f l]; rfl
theorem oAll_map {α : Type} {o : Bool} (f : α → Bool) (l : List α) : oAll [.lst o (l.map fun x => .bl (f x))] = some (.val (.bl ((l.map f).all id))) := by
  show (((lstItems (.lst o (l.map fun x => D.bl (f x)))).bind asBls).map fun bs => Out.val (.bl (bs.all id))) = _
  rw [show lstItems (.lst o (l.map fun x => D.bl (f x))) = some (l.map fun x => D.bl (f x)) from rfl, Option.bind_some, asBls_map]
  rfl
/-- the places where a greater number stands to the left -/
def falls (l : List Int) : List Int := ((List.range (l.length - 1)).map fun (i : Nat) => (1 : Int) + i).filter fun p => decide (l.getD p.toNat 0 < l.getD (p - 1).toNat 0)
theorem falls_asc (l : List Int) : (falls l = []) ↔ ascB l = true := by
  have key : ∀ l : List Int, ascB l = true ↔ ∀ i : Nat, i + 1 < l.length → l.getD i 0 ≤ l.getD (i + 1) 0 := fun l => by
    induction l with
    | nil => exact ⟨fun _ i h => by simp at h, fun _ => rfl⟩
    | cons x r ih =>
      cases r with
      | nil => exact ⟨fun _ i h => by simp at h, fun _ => rfl⟩
      | cons y r =>
        rw [show ascB (x :: y :: r) = (decide (x ≤ y) && ascB (y :: r)) from rfl, Bool.and_eq_true, decide_eq_true_eq, ih]
        constructor
        · intro ⟨h1, h2⟩ i hi
          cases i with
          | zero => exact h1
          | succ i => exact h2 i (by simp only [List.length_cons] at hi ⊢; omega)
        · intro h
          exact ⟨h 0 (by simp), fun i hi => h (i + 1) (by simp only [List.length_cons] at hi ⊢; omega)⟩
  rw [key]
  unfold falls
  rw [List.filter_eq_nil_iff]
  constructor
  · intro h i hi
    have := h (1 + (i : Int)) (List.mem_map.mpr ⟨i, List.mem_range.mpr (by omega), rfl⟩)
    rw [decide_eq_true_eq, show (1 + (i : Int)).toNat = i + 1 by omega, show (1 + (i : Int) - 1).toNat = i by omega] at this
    omega
  · intro h p hp
    obtain ⟨i, hi, rfl⟩ := List.mem_map.mp hp
    rw [List.mem_range] at hi
    have := h i (by omega)
    rw [decide_eq_true_eq, show (1 + (i : Int)).toNat = i + 1 by omega, show (1 + (i : Int) - 1).toNat = i by omega]
    omega
theorem decide_falls (l : List Int) : decide (falls l = []) = ascB l := by
  cases e : ascB l with
  | true => exact decide_eq_true ((falls_asc l).mpr e)
  | false => exact decide_eq_false fun z => by rw [(falls_asc l).mp z] at e; cases e
theorem range1_nums (n : Nat) : rangeD 1 n = nums ((List.range n).map fun (i : Nat) => (1 : Int) + i) := by
  unfold rangeD nums
  rw [List.map_map]
  rfl
end DL

set_option maxHeartbeats 4000000
/-! DL54: a list in a slot is walked where it stands. -/
namespace DL
open PySem PySem.Spec PyProof.Rows L2
/-- for .. in the list of the slot i0: k items are done, n more turns at most -/
def forI (i0 : Nat) (g : MG) (body : MS) : Nat → Nat → Sl → SR
  | 0, _, _ => .fail
  | n + 1, k, st => match getS st i0 with
    | some (.lst _ xs) => match xs[k]? with
      | none => .next st
      | some d => if hot d then .fail else (g d st).toN fun st1 => match body st1 with
        | .next st2 => forI i0 g body n (k + 1) st2
        | .cont st2 => forI i0 g body n (k + 1) st2
        | .brk st2 => .next st2
        | r => r
    | _ => .fail
def lenS (st : Sl) (i : Nat) : Nat := match getS st i with
  | some (.lst _ xs) => xs.length
  | _ => 0
def sForI (i0 : Nat) (g : MG) (body : MS) : MS := fun st => forI i0 g body (lenS st i0 + 1) 0 st
/-- [.. for .. in the list of the slot i0 if ..] -/
def compI (i0 : Nat) (g : MG) (t : MT) (e : ME) (vs : List Nat) : Nat → Nat → Sl → List D → Res (List D)
  | 0, _, _, _ => .fail
  | n + 1, k, st, acc => match getS st i0 with
    | some (.lst _ xs) => match xs[k]? with
      | none => .ok acc st
      | some d => if hot d then .fail else ((g d st).noX).bind fun _ st1 => ((t st1).noX).bind fun c st2 => if c then
          ((e st2).noX).bind fun y st3 => if acc.length < 16777216 then compI i0 g t e vs n (k + 1) (wipeS st3 vs) (acc ++ [y]) else .fail
        else compI i0 g t e vs n (k + 1) (wipeS st2 vs) acc
    | _ => .fail
def eLcI (i0 : Nat) (g : MG) (t : MT) (e : ME) (vs : List Nat) : ME := fun st => (compI i0 g t e vs (lenS st i0 + 1) 0 (wipeS st vs) []).bind fun acc st2 => .ok (.lst true acc) st2
section
variable {ca : Nat → Addr} {K : PySem.W.Frag} {Hf H Hf1 H1 Hf2 H2 : Hp} {S S1 S2 P P1 P2 : Rg} {R R1 R2 : Nat → Rg} {pp qq : Prop} {σ σ' : L2.St} {st st' : Sl} {v : V} {d : D} {vs : List V} {ds : List D} {X : Cx} {L : List Nat}
/-- the list that stands in the slot -/
theorem PR.here {i0 : Nat} {o : Bool} {xs : List D} (p : PR ca K Hf H P pp R σ st) (h : getS st i0 = some (.lst o xs)) : ∃ a vs T, σ[i0]? = some (some (.ref a)) ∧ SqL K H a vs ∧ RepL ca K Hf H T vs xs := by
  obtain ⟨v, e, r⟩ := p.at_ i0 _ h
  obtain ⟨a, vs, T, rfl, e2, r2⟩ := rep_lst p.w.ex r
  exact ⟨a, vs, T, e, .inl (.inl e2), r2⟩
theorem cs_forI {i0 : Nat} {tg iter : Expr} {body : List Stmt} {t : TG} {g : MG} {mb : MS} {pos : Pos} (hv : PE X iter (tVar i0)) (hg : CG ca X (i0 :: L) tg t g) (hb : CSs ca X (i0 :: L) body mb)
    (hp : PassesOwn (model X.prog X.w) X.A X.env X.xe) (hc : X.calm = true) (hs : ∀ x, foldedSetIterable iter X.env x = pure x := by intro _; rfl) : CS ca X L (.For tg iter body [] pos) (sForI i0 g mb) := fun Hf H R σ st E p h => by
  refine ws_of (ps_for hp hc (pi_list hv) hg.1 (wss_pss X body) hs) ?_
  unfold sForI at h
  have nf : forI i0 g mb (lenS st i0 + 1) 0 st ≠ .fail := fun z => by rw [z] at h; exact h
  cases gs : getS st i0 with
  | none => exact (nf (by unfold forI; rw [gs])).elim
  | some d0 =>
    cases d0 with
    | lst o xs =>
      obtain ⟨a, vs, T, eσ, sq, rl⟩ := p.here gs
      have eL : lenS st i0 = xs.length := by unfold lenS; rw [gs]
      refine ⟨.ref a, eσ, a, rfl, ⟨vs, sq⟩, ?_⟩
      refine ⟨fun i m σ' H' => ∃ Hf' R' st', Tr (jn Em R) Hf H (jn Em R') Hf' H' ∧ PR ca X.K Hf' H' Em True R' σ' st' ∧ Lk (i0 :: L) σ σ' ∧ forI i0 g mb m i st' = forI i0 g mb (lenS st i0 + 1) 0 st,
        ⟨xs.length + 1, Hf, R, st, Tr.refl fun _ q => q, p, Lk.refl, by rw [eL]⟩, ?_⟩
      rintro i m σ' H' ⟨Hf', R', st', t', p', k', ef⟩
      have eσ' : σ'[i0]? = some (some (.ref a)) := (k'.2 i0 List.mem_cons_self).trans eσ
      have kL : ∀ {σ1 σ2 : L2.St}, Lk (i0 :: L) σ1 σ2 → Lk L σ1 σ2 := fun k => ⟨k.1, fun j hj => k.2 j (List.mem_cons_of_mem _ hj)⟩
      have nf' : forI i0 g mb m i st' ≠ .fail := by rw [ef]; exact nf
      cases m with
      | zero => exact (nf' rfl).elim
      | succ m =>
        cases gs' : getS st' i0 with
        | none => exact (nf' (by unfold forI; rw [gs'])).elim
        | some d1 =>
          cases d1 with
          | lst o' xs' =>
            obtain ⟨a', vs', T', e2, sq', rl'⟩ := p'.here gs'
            rw [eσ'] at e2
            obtain rfl : a = a' := by cases e2; rfl
            have hl := rl'.length
            rw [forI, gs'] at ef nf'
            dsimp only at ef nf'
            cases ex : xs'[i]? with
            | none =>
              have hi : xs'.length ≤ i := List.getElem?_eq_none_iff.mp ex
              refine .inl ⟨⟨vs', sq', by omega⟩, ?_⟩
              rw [ex] at ef
              rw [← ef] at h
              exact h Hf' H' R' σ' t' p' (kL k')
            | some d =>
              rw [ex] at ef nf'
              dsimp only at ef nf'
              by_cases hd : hot d = true
              · rw [if_pos hd] at nf'; exact (nf' rfl).elim
              rw [if_neg hd] at ef nf'
              have hd' : hot d = false := by simpa using hd
              obtain ⟨w0, T0, ew, rw0, _⟩ := repL_at rl' ex
              refine .inr ⟨⟨vs', w0, sq', ew⟩, fun σ2 H2 => ∃ Hf2 R2 st2, Tr (jn Em R) Hf H (jn Em R2) Hf2 H2 ∧ PR ca X.K Hf2 H2 Em True R2 σ2 st2 ∧ Lk (i0 :: L) σ σ2 ∧ forI i0 g mb m (i + 1) st2 = forI i0 g mb (lenS st i0 + 1) 0 st,
                fun σ2 H2 q => ⟨m, Nat.lt_succ_self m, q⟩, fun x H2 hy => ?_⟩
              obtain ⟨rfl, hy⟩ := hy
              have hx := hy vs' sq'
              rw [ew] at hx
              cases hx
              refine hg.2 Hf' H2 Em R' σ' st' w0 d _ (p'.put (rw0.cold hd')) ?_
              have h3 : PostS ca X L Hf' H2 (jn Em R') σ' ((g d st').toN fun st1 => match mb st1 with
                | .next st2 => forI i0 g mb m (i + 1) st2
                | .cont st2 => forI i0 g mb m (i + 1) st2
                | .brk st2 => .next st2
                | r => r) E := by
                refine PostS.from t' (kL k') ?_
                rw [← ef] at h
                exact h
              cases eg : g d st' with
              | fail => rw [eg] at nf'; exact nf' rfl
              | exc x st2 => rw [eg] at nf'; exact nf' rfl
              | ok y st2 =>
                rw [eg] at h3 ef
                intro Hf3 H3 R3 σ3 t3 p3 k3
                have h4 := PostS.from t3 (kL k3) h3
                refine hb Hf3 H3 R3 σ3 st2 _ p3 ?_
                dsimp only [Res.toN] at h4 ef
                cases eb : mb st2 with
                | next st4 =>
                  rw [eb] at ef
                  exact fun Hf4 H4 R4 σ4 t4 p4 k4 => ⟨Hf4, R4, st4, (t'.trans t3).trans t4, p4, Lk.trans k' (Lk.trans k3 k4), ef⟩
                | cont st4 =>
                  rw [eb] at ef
                  exact fun Hf4 H4 R4 σ4 t4 p4 k4 => ⟨Hf4, R4, st4, (t'.trans t3).trans t4, p4, Lk.trans k' (Lk.trans k3 k4), ef⟩
                | brk st4 =>
                  rw [eb] at h4
                  exact fun Hf4 H4 R4 σ4 t4 p4 k4 => h4 Hf4 H4 R4 σ4 t4 p4 (kL k4)
                | ret d st4 =>
                  rw [eb] at h4
                  exact fun Hf4 H4 P4 R4 σ4 v4 t4 p4 k4 => h4 Hf4 H4 P4 R4 σ4 v4 t4 p4 (kL k4)
                | exc x st4 =>
                  rw [eb] at h4
                  exact fun Hf4 H4 R4 σ4 c4 dd4 t4 p4 k4 => h4 Hf4 H4 R4 σ4 c4 dd4 t4 p4 (kL k4)
                | fail => rw [eb] at h4; exact h4
          | _ => exact (nf' (by unfold forI; rw [gs'])).elim
    | _ => exact (nf (by unfold forI; rw [gs])).elim
theorem wipeS_keep {i0 : Nat} {w : List Nat} {s : Sl} (h : i0 ∉ w) : getS (wipeS s w) i0 = getS s i0 := by
  induction w with
  | nil => rfl
  | cons j w ih =>
    show getS ((wipeS s w).set j none) i0 = _
    rw [getS_set, if_neg (fun e => h (by rw [e]; exact List.mem_cons_self)), ih fun q => h (List.mem_cons_of_mem _ q)]
/-- the reading of a list comprehension, from its parts' meanings in the blocks -/
theorem lc_readI {i0 : Nat} {tg elt iter : Expr} {t : TG} {g : MG} {tt : TT} {mt : MT} {te : TE} {me : ME} {w : List Nat}
    (hv : PE X iter (tVar i0)) (hw : i0 ∉ w)
    (hg : ∀ (Hf H : Hp) (P : Rg) (R : Nat → Rg) (σ : L2.St) (st : Sl) (v : V) (d : D) (Q : L2.St → Hp → Prop), PR ca X.K Hf H P (Rep ca X.K Hf H P v d) R σ st →
      (match g d st with
        | .ok _ st' => ∀ Hf' H' R' σ', Tr (jn P R) Hf H (jn Em R') Hf' H' → PR ca X.K Hf' H' Em True R' σ' st' → Lk (but σ.length w) σ σ' → Q σ' H'
        | _ => False) → t v σ H Q)
    (ht : ∀ (Hf H : Hp) (R : Nat → Rg) (σ : L2.St) (st : Sl) (Q : Bool → Hp → Prop), PR ca X.K Hf H Em True R σ st → (match mt st with
        | .ok k st' => ∀ Hf' H' R', Tr (jn Em R) Hf H (jn Em R') Hf' H' → PR ca X.K Hf' H' Em True R' σ st' → Q k H'
        | _ => False) → tt σ H Q)
    (he : ∀ (Hf H : Hp) (R : Nat → Rg) (σ : L2.St) (st : Sl) (Q : VK), PR ca X.K Hf H Em True R σ st → (match me st with
        | .ok d st' => ∀ Hf' H' P R' v, Tr (jn Em R) Hf H (jn P R') Hf' H' → PR ca X.K Hf' H' P (Rep ca X.K Hf' H' P v d) R' σ st' → Q v H'
        | _ => False) → te σ H Q)
    {Q : VK} (p : PR ca X.K Hf H Em True R σ st) (h : Post ca X Hf H (jn Em R) σ (eLcI i0 g mt me w st) Q) : tLc (iList X.K (tVar i0)) t tt te w σ H Q := by
  unfold eLcI at h
  have nf : compI i0 g mt me w (lenS st i0 + 1) 0 (wipeS st w) [] ≠ .fail := fun z => by rw [z] at h; exact h
  have nw : ∀ {s : Sl}, getS (wipeS s w) i0 = getS s i0 := fun {s} => wipeS_keep hw
  cases gs : getS st i0 with
  | none => exact (nf (by unfold compI; rw [nw, gs])).elim
  | some d0 =>
    cases d0 with
    | lst o xs =>
      obtain ⟨a, vs0', T, eσ, sq, rl⟩ := p.here gs
      have eL : lenS st i0 = xs.length := by unfold lenS; rw [gs]
      refine ⟨.ref a, eσ, a, rfl, ⟨vs0', sq⟩, ?_⟩
      intro Dl hD
      have hD1 : Hf Dl = none := (wl_new (o := .lst []) p.w hD).2
      have h1 : Post ca X Hf H (jn Em R) σ ((compI i0 g mt me w (lenS st i0 + 1) 0 (wipeS st w) []).bind fun acc st2 => .ok (.lst true acc) st2) Q := h
      refine ⟨fun i m H' => ∃ Hf' R' st' A acc, Tr (jn Em R) Hf H (jn (fun b => b = Dl ∨ A b) R') Hf' H' ∧ Acc ca X.K Hf' H' Dl A acc R' (L2.wipe σ w) st' ∧ compI i0 g mt me w m i st' acc = compI i0 g mt me w (lenS st i0 + 1) 0 (wipeS st w) [],
        ⟨lenS st i0 + 1, Hf, R, wipeS st w, Em, [], ?_, ⟨?_⟩, rfl⟩, ?_⟩
      · refine ⟨fun _ _ e => e, fun b o e _ => upd_keep hD b o e, fun b q => ?_, fun _ _ e => .inl e⟩
        rcases q with (q | q) | q
        · subst q; exact .inr hD
        · exact q.elim
        · exact .inl (.inr q)
      · have := (p.wipe w).grow (o := .lst []) hD (P' := fun b => b = Dl ∨ Em b) (qq := ∃ vs, (upd H Dl (.lst [])) Dl = some (.lst vs) ∧ RepL ca X.K Hf (upd H Dl (.lst [])) Em vs [] ∧ ¬ Em Dl) ⟨[], upd_same, .nil, fun q => q⟩ (fun b q => q.elim id fun q => q.elim)
        exact this
      rintro i m H' ⟨Hf', R', st', A, acc, t', ac, ef⟩
      have p' := ac.pr
      have eσ' : (L2.wipe σ w)[i0]? = some (some (.ref a)) := by rw [wipe_get, if_neg hw]; exact eσ
      have hnf : compI i0 g mt me w m i st' acc ≠ .fail := by rw [ef]; exact nf
      cases m with
      | zero => exact (hnf rfl).elim
      | succ m =>
        cases gs' : getS st' i0 with
        | none => exact (hnf (by unfold compI; rw [gs'])).elim
        | some d1 =>
          cases d1 with
          | lst o' xs' =>
            obtain ⟨a', vs', T', e2, sq', rl'⟩ := p'.here gs'
            rw [eσ'] at e2
            obtain rfl : a = a' := by cases e2; rfl
            have hlen := rl'.length
            rw [compI, gs'] at ef hnf
            dsimp only at ef hnf
            cases ex : xs'[i]? with
            | none =>
              have hi : xs'.length ≤ i := List.getElem?_eq_none_iff.mp ex
              refine .inl ⟨⟨vs', sq', by omega⟩, ?_⟩
              rw [ex] at ef
              rw [← ef] at h1
              have h2 : Post ca X Hf H (jn Em R) σ (.ok (.lst true acc) st') Q := h1
              obtain ⟨vs0, eD, rA, nA⟩ := p'.pend
              exact h2 Hf' H' (fun b => b = Dl ∨ A b) R' (.ref Dl) t' ((p'.unwipe).imp fun _ => .lstO (.inl rfl) eD (rA.mono fun b q => ⟨.inr q, fun z => nA (z ▸ q)⟩))
            | some d =>
              rw [ex] at ef hnf
              dsimp only at ef hnf
              by_cases hd : hot d = true
              · rw [if_pos hd] at hnf; exact (hnf rfl).elim
              rw [if_neg hd] at ef hnf
              have hd' : hot d = false := by simpa using hd
              obtain ⟨w0, T0, ew0, rw0, _⟩ := repL_at rl' ex
              refine .inr ⟨⟨vs', w0, sq', ew0⟩, fun H2 => ∃ Hf2 R2 st2 A2 acc2, Tr (jn Em R) Hf H (jn (fun b => b = Dl ∨ A2 b) R2) Hf2 H2 ∧ Acc ca X.K Hf2 H2 Dl A2 acc2 R2 (L2.wipe σ w) st2 ∧ compI i0 g mt me w m (i + 1) st2 acc2 = compI i0 g mt me w (lenS st i0 + 1) 0 (wipeS st w) [],
                fun H2 q => ⟨m, Nat.lt_succ_self m, q⟩, fun x H2 hy => ?_⟩
              obtain ⟨e2', hy⟩ := hy
              rw [e2']
              clear e2'
              have hx := hy vs' sq'
              rw [ew0] at hx
              cases hx
              -- the new list is beside the slots, all the way
              obtain ⟨vs0, eD, rA, nA⟩ := p'.pend
              refine hg Hf' H' Em R' (L2.wipe σ w) st' w0 d _ (p'.drop.put (rw0.cold hd')) ?_
              cases eg : g d st' with
              | fail => rw [eg] at hnf; exact hnf rfl
              | exc x0 st2 => rw [eg] at hnf; exact hnf rfl
              | ok a st2 =>
                rw [eg] at ef hnf
                intro Hf3 H3 R3 σ3 t3 p3 k3
                have ew : L2.wipe σ3 w = L2.wipe σ w := by rw [wipe_lk k3, wipe_wipe]
                refine ⟨ew, ?_⟩
                refine ht Hf3 H3 R3 σ3 st2 _ p3 ?_
                dsimp only [Res.bind, Res.noX] at ef hnf
                cases et : mt st2 with
                | fail => rw [et] at hnf; exact hnf rfl
                | exc x0 st4 => rw [et] at hnf; exact hnf rfl
                | ok k st4 =>
                  rw [et] at ef hnf
                  dsimp only at ef hnf
                  intro Hf4 H4 R4 t4 p4
                  have tA := t3.trans t4
                  have pAcc : PR ca X.K Hf' H' (fun b => b = Dl ∨ A b) True R' (L2.wipe σ w) st' := p'.imp fun _ => trivial
                  cases k with
                  | false =>
                    rw [if_neg (by decide)] at ef hnf
                    obtain ⟨c1, c2, c3, c4, c5⟩ := PR.carry (ppf := fun _ _ => True) pAcc tA p4
                    refine ⟨Hf4, R4, wipeS st4 w, A, acc, (t'.trans c5).less (fun b q => ?_), ⟨?_⟩, ef⟩
                    · rcases q with q | q
                      · exact .inl (.inl q)
                      · exact .inr q
                    · have p5 : PR ca X.K Hf4 H4 (fun b => b = Dl ∨ A b) (∃ vs, H4 Dl = some (.lst vs) ∧ RepL ca X.K Hf4 H4 A vs acc ∧ ¬ A Dl) R4 σ3 st4 :=
                        ⟨⟨vs0, c1 Dl (.inl rfl) _ eD, rA.keep tA.fx (fun b q => c1 b (.inr q)), nA⟩, p4.len, p4.at_, p4.dj, c3, c4.mono fun b q => by
                          rcases q with q | q
                          · exact .inl (.inl q)
                          · exact .inr q⟩
                      have := p5.wipe w
                      rw [ew] at this
                      exact this
                  | true =>
                    show te σ3 H4 _
                    rw [if_pos rfl] at ef hnf
                    refine he Hf4 H4 R4 σ3 st4 _ p4 ?_
                    cases ee : me st4 with
                    | fail => rw [ee] at hnf; exact hnf rfl
                    | exc x0 st5 => rw [ee] at hnf; exact hnf rfl
                    | ok y st5 =>
                      rw [ee] at ef hnf
                      dsimp only at ef hnf
                      intro Hf5 H5 P5 R5 vy t5 p5
                      obtain ⟨c1, c2, c3, c4, c5⟩ := PR.carry (ppf := fun _ _ => True) pAcc (tA.trans t5) p5
                      by_cases hl : acc.length < 16777216
                      · rw [if_pos hl] at ef hnf
                        have eD5 := c1 Dl (.inl rfl) _ eD
                        have rA5 := rA.keep (tA.trans t5).fx (fun b q => c1 b (.inr q))
                        refine ⟨vs0, eD5, by rw [rA.length, ← sz_eq]; exact hl, Hf5, R5, wipeS st5 w, fun b => A b ∨ P5 b, acc ++ [y], ?_, ⟨?_⟩, ef⟩
                        · refine ((t'.trans c5).trans ⟨fun _ _ e => e, fun b o e n => ?_, fun b q => .inl q, fun _ _ e => .inl e⟩).less fun b q => ?_
                          · rw [upd_ne fun z => n (.inl (.inl (.inl z)))]; exact e
                          · rcases q with (q | q | q) | q
                            · exact .inl (.inl (.inl q))
                            · exact .inl (.inl (.inr q))
                            · exact .inl (.inr q)
                            · exact .inr q
                        · have hnD : ∀ b, (A b ∨ P5 b) → b ≠ Dl := fun b q z => by
                            subst z
                            rcases q with q | q
                            · exact nA q
                            · exact c2 b (.inl rfl) q
                          have hk : ∀ b o, b ≠ Dl → H5 b = some o → upd H5 Dl (.lst (vs0 ++ [vy])) b = some o := fun b o n e => by rw [upd_ne n]; exact e
                          have rN := (repL_snoc rA5 p5.pend fun b q1 q2 => c2 b (.inr q1) q2).keep (H' := upd H5 Dl (.lst (vs0 ++ [vy]))) (fun _ _ e => e) fun b q o e => hk b o (hnD b q) e
                          have p6 : PR ca X.K Hf5 (upd H5 Dl (.lst (vs0 ++ [vy]))) (fun b => b = Dl ∨ A b ∨ P5 b) (∃ vs, (upd H5 Dl (.lst (vs0 ++ [vy]))) Dl = some (.lst vs) ∧ RepL ca X.K Hf5 (upd H5 Dl (.lst (vs0 ++ [vy]))) (fun b => A b ∨ P5 b) vs (acc ++ [y]) ∧ ¬ (A Dl ∨ P5 Dl)) R5 σ3 st5 :=
                            ⟨⟨_, upd_same, rN, fun q => hnD Dl q rfl⟩, p5.len, fun k d e => by
                              obtain ⟨v, e1, r⟩ := p5.at_ k d e
                              exact ⟨v, e1, r.keep (fun _ _ e => e) fun b q o e => hk b o (fun z => c3 k b (.inl z) q) e⟩, p5.dj, fun k b q1 q2 => by
                              rcases q1 with q | q | q
                              · exact c3 k b (.inl q) q2
                              · exact c3 k b (.inr q) q2
                              · exact p5.dp k b q q2, ⟨fun b o e => by
                                by_cases z : b = Dl
                                · subst z
                                  have := c4.nf b (.inl (.inl (.inl rfl)))
                                  rw [this] at e; cases e
                                · exact hk b o z (c4.ex b o e), fun b q => by
                                by_cases z : b = Dl
                                · subst z; exact ⟨_, upd_same⟩
                                · obtain ⟨o, e⟩ := c4.dm b (by
                                    rcases q with (q | q | q) | q
                                    · exact .inl (.inl (.inl q))
                                    · exact .inl (.inl (.inr q))
                                    · exact .inl (.inr q)
                                    · exact .inr q)
                                  exact ⟨o, hk b o z e⟩, fun b q => c4.nf b (by
                                    rcases q with (q | q | q) | q
                                    · exact .inl (.inl (.inl q))
                                    · exact .inl (.inl (.inr q))
                                    · exact .inl (.inr q)
                                    · exact .inr q)⟩⟩
                          have := p6.wipe w
                          rw [ew] at this
                          exact this
                      · rw [if_neg hl] at hnf; exact (hnf rfl).elim
          | _ => exact (hnf (by unfold compI; rw [gs'])).elim
    | _ => exact (nf (by unfold compI; rw [nw, gs])).elim
theorem lc_cerI {i0 : Nat} {tg elt iter : Expr} {scope : Scope} {t : TG} {g : MG} {me : ME} {w : List Nat}
    (hv : PE X iter (tVar i0)) (hw : i0 ∉ w) (hg : ∀ n s H C cl fp, CG ca (bk X scope s H C cl fp) (but n w) tg t g) (he : ∀ s H C cl fp, CE ca (bk X scope s H C cl fp) elt me) : CER ca X (tLc (iList X.K (tVar i0)) t tYes (TeB X scope elt) w) (eLcI i0 g tYesM me w) :=
  fun Hf H R σ st Q p h => lc_readI (tg := tg) (iter := iter) (elt := elt) (mt := tYesM) hv hw (fun Hf H P R σ st v d Q p h => (hg σ.length {} H 0 [] []).2 Hf H P R σ st v d Q p h) (fun Hf H R σ st Q p h => h Hf H R (Tr.refl fun _ q => q) p)
    (fun Hf H R σ st Q p h s H0 C cl fp => he s H0 C cl fp Hf H R σ st Q p (by
      cases e : me st with
      | ok d st1 => rw [e] at h; exact h
      | exc x st1 => rw [e] at h; exact h.elim
      | fail => rw [e] at h; exact h)) p h
theorem lc_cerIIf {i0 : Nat} {tg elt iter c : Expr} {scope : Scope} {t : TG} {g : MG} {me : ME} {mt : MT} {w : List Nat}
    (hv : PE X iter (tVar i0)) (hw : i0 ∉ w) (hg : ∀ n s H C cl fp, CG ca (bk X scope s H C cl fp) (but n w) tg t g) (ht : ∀ s H C cl fp, CT ca (bk X scope s H C cl fp) c mt) (he : ∀ s H C cl fp, CE ca (bk X scope s H C cl fp) elt me) : CER ca X (tLc (iList X.K (tVar i0)) t (TtB X scope c) (TeB X scope elt) w) (eLcI i0 g mt me w) :=
  fun Hf H R σ st Q p h => lc_readI (tg := tg) (iter := iter) (elt := elt) (mt := mt) hv hw (fun Hf H P R σ st v d Q p h => (hg σ.length {} H 0 [] []).2 Hf H P R σ st v d Q p h) (fun Hf H R σ st Q p h s H0 C cl fp => ht s H0 C cl fp Hf H R σ st Q p (by
      cases e : mt st with
      | ok d st1 => rw [e] at h; exact h
      | exc x st1 => rw [e] at h; exact h.elim
      | fail => rw [e] at h; exact h))
    (fun Hf H R σ st Q p h s H0 C cl fp => he s H0 C cl fp Hf H R σ st Q p (by
      cases e : me st with
      | ok d st1 => rw [e] at h; exact h
      | exc x st1 => rw [e] at h; exact h.elim
      | fail => rw [e] at h; exact h)) p h
theorem ce_lcI {i0 : Nat} {tg elt iter : Expr} {scope : Scope} {own : List (Str × Nat)} {pos : Pos} {t : TG} {g : MG} {me : ME} (hc : X.calm = true) (hN : X.N.Nodup) (hv : PE X iter (tVar i0)) (hw : i0 ∉ own.map (·.2)) (ok : BlkOk X.N X.env.scope scope own)
    (hg : ∀ n s H C cl fp, CG ca (bk X scope s H C cl fp) (but n (own.map (·.2))) tg t g) (he : ∀ s H C cl fp, CE ca (bk X scope s H C cl fp) elt me) (hs : ∀ x, foldedSetIterable iter X.env x = pure x := by intro _; rfl) :
    CE ca X (.ListComp elt [⟨tg, iter, [], 0⟩] scope pos) (eLcI i0 g tYesM me (own.map (·.2))) :=
  ce_of (pe_lc hc hN (pi_list hv) ok (fun s H C cl fp => (hg 0 s H C cl fp).1) (fun _ _ _ _ _ => pts_nil) pe_teB hs) (lc_cerI hv hw hg he)
theorem ce_lcIIf {i0 : Nat} {tg elt iter c : Expr} {scope : Scope} {own : List (Str × Nat)} {pos : Pos} {t : TG} {g : MG} {me : ME} {mt : MT} (hc : X.calm = true) (hN : X.N.Nodup) (hv : PE X iter (tVar i0)) (hw : i0 ∉ own.map (·.2)) (ok : BlkOk X.N X.env.scope scope own)
    (hg : ∀ n s H C cl fp, CG ca (bk X scope s H C cl fp) (but n (own.map (·.2))) tg t g) (ht : ∀ s H C cl fp, CT ca (bk X scope s H C cl fp) c mt) (he : ∀ s H C cl fp, CE ca (bk X scope s H C cl fp) elt me) (hs : ∀ x, foldedSetIterable iter X.env x = pure x := by intro _; rfl) :
    CE ca X (.ListComp elt [⟨tg, iter, [c], 0⟩] scope pos) (eLcI i0 g mt me (own.map (·.2))) :=
  ce_of (pe_lc hc hN (pi_list hv) ok (fun s H C cl fp => (hg 0 s H C cl fp).1) pt_ttB pe_teB hs) (lc_cerIIf hv hw hg ht he)
theorem cs_setLcI {i : Nat} {y : Str} {py spos : Pos} {i0 : Nat} {tg elt iter : Expr} {scope : Scope} {own : List (Str × Nat)} {pos : Pos} {t : TG} {g : MG} {me : ME} (hc : X.calm = true) (hN : X.N.Nodup) (hy : X.N[i]? = some y) (hyl : X.env.scope.names.lookup y = some .local) (hL : i ∉ L) (hpg : PG X (.Name y py) (gName i))
    (hsw : swapsWith (.ListComp elt [⟨tg, iter, [], 0⟩] scope pos) (some (.Name y py)) spos.line X.env = pure true) (hv : PE X iter (tVar i0)) (hw : i0 ∉ own.map (·.2)) (ok : BlkOk X.N X.env.scope scope own)
    (hg : ∀ n s H C cl fp, CG ca (bk X scope s H C cl fp) (but n (own.map (·.2))) tg t g) (he : ∀ s H C cl fp, CE ca (bk X scope s H C cl fp) elt me) (hs : ∀ x, foldedSetIterable iter X.env x = pure x := by intro _; rfl) :
    CS ca X L (.Assign [.Name y py] (.ListComp elt [⟨tg, iter, [], 0⟩] scope pos) spos) (sAsg (eLcI i0 g tYesM me (own.map (·.2))) (gN i)) :=
  cs_asgR (lc_cerI hv hw hg he) (cg_name hpg hL) (ps_setLc hc hN hy hyl hsw (pi_list hv) ok (fun s H C cl fp => (hg 0 s H C cl fp).1) (fun _ _ _ _ _ => pts_nil) pe_teB hs)
theorem cs_setLcIIf {i : Nat} {y : Str} {py spos : Pos} {i0 : Nat} {tg elt iter c : Expr} {scope : Scope} {own : List (Str × Nat)} {pos : Pos} {t : TG} {g : MG} {me : ME} {mt : MT} (hc : X.calm = true) (hN : X.N.Nodup) (hy : X.N[i]? = some y) (hyl : X.env.scope.names.lookup y = some .local) (hL : i ∉ L) (hpg : PG X (.Name y py) (gName i))
    (hsw : swapsWith (.ListComp elt [⟨tg, iter, [c], 0⟩] scope pos) (some (.Name y py)) spos.line X.env = pure true) (hv : PE X iter (tVar i0)) (hw : i0 ∉ own.map (·.2)) (ok : BlkOk X.N X.env.scope scope own)
    (hg : ∀ n s H C cl fp, CG ca (bk X scope s H C cl fp) (but n (own.map (·.2))) tg t g) (ht : ∀ s H C cl fp, CT ca (bk X scope s H C cl fp) c mt) (he : ∀ s H C cl fp, CE ca (bk X scope s H C cl fp) elt me) (hs : ∀ x, foldedSetIterable iter X.env x = pure x := by intro _; rfl) :
    CS ca X L (.Assign [.Name y py] (.ListComp elt [⟨tg, iter, [c], 0⟩] scope pos) spos) (sAsg (eLcI i0 g mt me (own.map (·.2))) (gN i)) :=
  cs_asgR (lc_cerIIf hv hw hg ht he) (cg_name hpg hL) (ps_setLc hc hN hy hyl hsw (pi_list hv) ok (fun s H C cl fp => (hg 0 s H C cl fp).1) pt_ttB pe_teB hs)

end
end DL

/-! DL55: walks of a list where it stands, evaluated. -/
namespace DL
open PySem (Str)
open Nw
theorem lenS_of {st : Sl} {i : Nat} {o : Bool} {xs : List D} (h : getS st i = some (.lst o xs)) : lenS st i = xs.length := by unfold lenS; rw [h]
theorem forI_go {α β : Type} {i0 : Nat} {g : MG} {body : MS} (enc : α → D) (hc : ∀ x, hot (enc x) = false) (l : List α) (R : β → Sl → Prop) (f : β → α → β) (hR : ∀ b st, R b st → ∃ o, getS st i0 = some (.lst o (l.map enc)))
    (step : ∀ b x st, x ∈ l → R b st → ∃ st1 st2, g (enc x) st = .ok () st1 ∧ body st1 = .next st2 ∧ R (f b x) st2) : ∀ (r : List α) (k : Nat) (b : β) (st : Sl), l.drop k = r → R b st → ∃ st', forI i0 g body (r.length + 1) k st = .next st' ∧ R (r.foldl f b) st'
  | [], k, b, st, hr, h => by
    obtain ⟨o, e⟩ := hR b st h
    have hk : l.length ≤ k := List.drop_eq_nil_iff.mp hr
    refine ⟨st, ?_, h⟩
    rw [forI, e]
    dsimp only
    rw [List.getElem?_eq_none (by rw [List.length_map]; exact hk)]
  | x :: r, k, b, st, hr, h => by
    obtain ⟨o, e⟩ := hR b st h
    have hx : l[k]? = some x := by
      have := congrArg (fun z => z[0]?) hr
      simpa using this
    have hm : x ∈ l := List.mem_of_getElem? hx
    have hr' : l.drop (k + 1) = r := by
      rw [← List.tail_drop, hr]
      rfl
    obtain ⟨s1, s2, e1, e2, h2⟩ := step b x st hm h
    obtain ⟨st', e3, h3⟩ := forI_go enc hc l R f hR step r (k + 1) (f b x) s2 hr' h2
    refine ⟨st', ?_, h3⟩
    rw [List.length_cons, forI, e]
    dsimp only
    rw [List.getElem?_map, hx]
    dsimp only [Option.map_some]
    rw [if_neg (by rw [hc]; decide), e1]
    dsimp only [Res.toN]
    rw [e2]
    exact e3
/-- a loop over the list of a slot -/
theorem zForI {α β : Type} {i0 : Nat} {g : MG} {body : MS} (enc : α → D) (hc : ∀ x, hot (enc x) = false) (l : List α) (R : β → Sl → Prop) (f : β → α → β) (hR : ∀ b st, R b st → ∃ o, getS st i0 = some (.lst o (l.map enc)))
    (step : ∀ b x st, x ∈ l → R b st → ∃ st1 st2, g (enc x) st = .ok () st1 ∧ body st1 = .next st2 ∧ R (f b x) st2) {b : β} {st : Sl} (h : R b st) : ∃ st', sForI i0 g body st = .next st' ∧ R (l.foldl f b) st' := by
  obtain ⟨o, e⟩ := hR b st h
  unfold sForI
  rw [lenS_of e, List.length_map]
  exact forI_go enc hc l R f hR step l 0 b st rfl h
theorem compI_go {α : Type} {i0 i : Nat} {g : MG} {t : MT} {e : ME} {st : Sl} {o : Bool} (enc φ : α → D) (p : α → Bool) (l : List α) (hc : ∀ x, hot (enc x) = false) (h0 : getS st i0 = some (.lst o (l.map enc)))
    (step : ∀ x ∈ l, ∃ s1 s2, g (enc x) st = .ok () s1 ∧ t s1 = .ok (p x) s2 ∧ (p x = false → wipeS s2 [i] = st) ∧ (p x = true → ∃ s3, e s2 = .ok (φ x) s3 ∧ wipeS s3 [i] = st)) :
    ∀ (r : List α) (k : Nat) (acc : List D), l.drop k = r → acc.length + r.length ≤ 16777216 → compI i0 g t e [i] (r.length + 1) k st acc = .ok (acc ++ (r.filter p).map φ) st
  | [], k, acc, hr, _ => by
    have hk : l.length ≤ k := List.drop_eq_nil_iff.mp hr
    rw [compI, h0]
    dsimp only
    rw [List.getElem?_eq_none (by rw [List.length_map]; exact hk), List.filter_nil, List.map_nil, List.append_nil]
  | x :: r, k, acc, hr, hl => by
    have hx : l[k]? = some x := by
      have := congrArg (fun z => z[0]?) hr
      simpa using this
    have hr' : l.drop (k + 1) = r := by
      rw [← List.tail_drop, hr]
      rfl
    obtain ⟨s1, s2, e1, e2, e3, e4⟩ := step x (List.mem_of_getElem? hx)
    rw [List.length_cons] at hl
    rw [List.length_cons, compI, h0]
    dsimp only
    rw [List.getElem?_map, hx]
    dsimp only [Option.map_some]
    rw [if_neg (by rw [hc]; decide), e1]
    dsimp only [Res.noX, Res.bind]
    rw [e2]
    dsimp only
    cases hp : p x with
    | false =>
      rw [if_neg (by decide), e3 hp, compI_go enc φ p l hc h0 step r (k + 1) acc hr' (by omega), List.filter_cons_of_neg (by rw [hp]; decide)]
    | true =>
      obtain ⟨s3, e5, e6⟩ := e4 hp
      rw [if_pos rfl, e5]
      dsimp only
      rw [if_pos (by omega), e6, compI_go enc φ p l hc h0 step r (k + 1) (acc ++ [φ x]) hr' (by rw [List.length_append, List.length_singleton]; omega), List.filter_cons_of_pos hp, List.map_cons, List.append_assoc]
      rfl
/-- a comprehension over the list of a slot; the block's name is the slot i, the others stay -/
theorem xLcI {α : Type} {i0 i : Nat} {g : MG} {t : MT} {e : ME} {st st2 : Sl} {o : Bool} (enc φ : α → D) (p : α → Bool) (l : List α) (hc : ∀ x, hot (enc x) = false) (hi : i ≠ i0) (h0 : getS st i0 = some (.lst o (l.map enc))) (hl : l.length ≤ 16777216) (hw : st.set i none = st2)
    (step : ∀ x ∈ l, ∃ s1, g (enc x) st2 = .ok () s1 ∧ t s1 = .ok (p x) s1 ∧ s1.set i none = st2 ∧ (p x = true → e s1 = .ok (φ x) s1)) {out : List D} (ho : (l.filter p).map φ = out) :
    eLcI i0 g t e [i] st = .ok (.lst true out) st2 := by
  subst ho hw
  have h0' : getS (st.set i none) i0 = some (.lst o (l.map enc)) := by rw [getS_set, if_neg hi, h0]
  have := compI_go (i := i) (t := t) (e := e) (g := g) enc φ p l hc h0' (fun x hx => by
    obtain ⟨s1, e1, e2, e3, e4⟩ := step x hx
    exact ⟨s1, s1, e1, e2, fun _ => e3, fun hp => ⟨s1, e4 hp, e3⟩⟩) l 0 [] rfl (by rw [List.length_nil]; omega)
  unfold eLcI
  rw [lenS_of h0, List.length_map]
  show (compI i0 g t e [i] (l.length + 1) 0 (st.set i none) []).bind _ = _
  rw [this]
  rfl
end DL

/-! DL56: lists that differ are told apart by a bound; a step left out; enumerations. -/
namespace Nw
open DL
theorem mem_stp {l : List Int} {s x : Int} (h1 : 1 ≤ s) (h2 : s < l.length) (h : x ∈ stp l s) : x ∈ l := by
  obtain ⟨a, p, q, r, e, _, hs⟩ := stp_eq h1 h2
  rw [hs] at h
  rw [e]
  simp only [List.mem_append, List.mem_cons] at h ⊢
  rcases h with h | h | h | h
  · exact .inl h
  · rcases Int.le_total p q with z | z
    · rw [Int.min_eq_left z] at h; exact .inr (.inl h)
    · rw [Int.min_eq_right z] at h; exact .inr (.inr (.inl h))
  · rcases Int.le_total p q with z | z
    · rw [Int.max_eq_right z] at h; exact .inr (.inr (.inl h))
    · rw [Int.max_eq_left z] at h; exact .inr (.inl h)
  · exact .inr (.inr (.inr h))
theorem mem_run : ∀ (ss : List Int) {l : List Int} {x : Int}, okS l.length ss → x ∈ runL ss l → x ∈ l
  | [], _, _, _, h => h
  | s :: ss, l, x, hs, h => by
    have a := hs s List.mem_cons_self
    exact mem_stp a.1 (by omega) (mem_run ss (l := stp l s) (by rw [stp_len]; exact fun y hy => hs y (List.mem_cons_of_mem _ hy)) h)
theorem mem_desc : ∀ {n : Nat} {x : Int}, x ∈ desc n → 1 ≤ x ∧ x ≤ n
  | 0, x, h => by cases h
  | n + 1, x, h => by
    rcases List.mem_cons.mp h with h | h
    · omega
    · have := mem_desc h
      omega
/-- equal for all bounds, then equal -/
theorem bounds_eq (w : Int) : ∀ {l k : List Int}, (∀ x ∈ l, 1 ≤ x ∧ x ≤ w) → (∀ x ∈ k, 1 ≤ x ∧ x ≤ w) → l.length = k.length → (∀ c : Int, 1 ≤ c → c < w → (l.map fun x => decide (x ≤ c)) = k.map fun x => decide (x ≤ c)) → l = k
  | [], [], _, _, _, _ => rfl
  | [], _ :: _, _, _, h, _ => by cases h
  | _ :: _, [], _, _, h, _ => by cases h
  | x :: l, y :: k, hl, hk, h, hc => by
    have e : l = k := bounds_eq w (fun z hz => hl z (List.mem_cons_of_mem _ hz)) (fun z hz => hk z (List.mem_cons_of_mem _ hz)) (by simpa using h) fun c h1 h2 => by
      have := hc c h1 h2
      rw [List.map_cons, List.map_cons] at this
      exact (List.cons.inj this).2
    have hx := hl x List.mem_cons_self
    have hy := hk y List.mem_cons_self
    have key : ∀ c : Int, 1 ≤ c → c < w → (x ≤ c ↔ y ≤ c) := fun c h1 h2 => by
      have := hc c h1 h2
      rw [List.map_cons, List.map_cons] at this
      exact decide_eq_decide.mp (List.cons.inj this).1
    have : x = y := by
      by_cases h1 : x < w
      · have a := (key x hx.1 h1).mp (Int.le_refl _)
        by_cases h2 : y < w
        · have b := (key y hy.1 h2).mpr (Int.le_refl _)
          omega
        · omega
      · by_cases h2 : y < w
        · have b := (key y hy.1 h2).mpr (Int.le_refl _)
          omega
        · omega
    rw [e, this]
theorem cut_ne {c : Int} {l k : List Int} (h : (l.map fun x => decide (x ≤ c)) ≠ k.map fun x => decide (x ≤ c)) : cutAt c l ≠ cutAt c k := fun e => h (by
  have f : ∀ m : List Int, (m.map fun x => decide (x ≤ c)) = (cutAt c m).map fun z => decide (z = 0) := fun m => by
    unfold cutAt
    rw [List.map_map]
    apply List.map_congr_left
    intro x _
    show decide (x ≤ c) = decide ((if x ≤ c then (0 : Int) else 1) = 0)
    by_cases hx : x ≤ c
    · rw [if_pos hx, decide_eq_true hx]; rfl
    · rw [if_neg hx, decide_eq_false hx]; rfl
  rw [f, f, e])
theorem cut_desc (c : Nat) : ∀ w : Nat, c ≤ w → cutAt c (desc w) = List.replicate (w - c) 1 ++ List.replicate c 0
  | 0, h => by
    have : c = 0 := by omega
    subst this
    rfl
  | w + 1, h => by
    by_cases hc : c = w + 1
    · subst hc
      have : ∀ v : Nat, v ≤ w + 1 → cutAt ((w + 1 : Nat) : Int) (desc v) = List.replicate v 0 := fun v => by
        induction v with
        | zero => exact fun _ => rfl
        | succ v ih =>
          intro hv
          show (if ((v : Int) + 1) ≤ ((w + 1 : Nat) : Int) then (0 : Int) else 1) :: cutAt ((w + 1 : Nat) : Int) (desc v) = _
          rw [ih (by omega), if_pos (by omega)]
          rfl
      rw [this (w + 1) (Nat.le_refl _), Nat.sub_self]
      rfl
    · show (if ((w : Int) + 1) ≤ (c : Int) then (0 : Int) else 1) :: cutAt c (desc w) = _
      rw [cut_desc c w (by omega), if_neg (by omega), show w + 1 - c = (w - c) + 1 by omega]
      rfl
/-- profiles that differ: some list of zeros and ones tells the networks apart -/
theorem bits_differ {w : Nat} {a b : List Int} (ha : okS w a) (hb : okS w b) (h : runL a (desc w) ≠ runL b (desc w)) : ∃ r, r.length = w ∧ bits r ∧ runL a r ≠ runL b r := by
  have hd : (desc w).length = w := desc_len w
  refine Classical.byContradiction fun n => h (bounds_eq w (fun x hx => mem_desc (mem_run a (by rw [hd]; exact ha) hx)) (fun x hx => mem_desc (mem_run b (by rw [hd]; exact hb) hx)) (by rw [runL_len, runL_len]) fun c h1 h2 => ?_)
  refine Classical.byContradiction fun m => n ⟨cutAt c (desc w), by rw [cut_len, hd], cut_bits c _, ?_⟩
  rw [cut_run c a _ (by rw [hd]; exact ha), cut_run c b _ (by rw [hd]; exact hb)]
  exact cut_ne m
/-- a step left out -/
def dropAt (i : Nat) (l : List Int) : List Int := l.take i ++ l.drop (i + 1)
theorem dropAt_ok {w : Int} {l : List Int} (h : okS w l) (i : Nat) : okS w (dropAt i l) := fun s hs => by
  rcases List.mem_append.mp hs with hs | hs
  · exact h s (List.mem_of_mem_take hs)
  · exact h s (List.mem_of_mem_drop hs)
theorem dropAt_len (l : List Int) (i : Nat) : (dropAt i l).length ≤ l.length := by
  unfold dropAt
  rw [List.length_append, List.length_take, List.length_drop]
  omega
theorem dropAt_filter : ∀ (l : List Int) (k i : Nat), (((l.zipIdx k).filter fun p => decide (p.2 ≠ k + i)).map (·.1)) = dropAt i l
  | [], k, i => by simp [dropAt]
  | x :: l, k, 0 => by
    have all : ∀ (l : List Int) (m : Nat), k < m → ((l.zipIdx m).filter fun p => decide (p.2 ≠ k)).map (·.1) = l := fun l => by
      induction l with
      | nil => exact fun _ _ => rfl
      | cons y l ih =>
        intro m hm
        rw [List.zipIdx_cons, List.filter_cons_of_pos (by simp; omega), List.map_cons, ih (m + 1) (by omega)]
    rw [List.zipIdx_cons, List.filter_cons_of_neg (by simp)]
    exact all l (k + 1) (by omega)
  | x :: l, k, i + 1 => by
    have ih := dropAt_filter l (k + 1) i
    rw [List.zipIdx_cons, List.filter_cons_of_pos (by simp), List.map_cons]
    rw [show k + 1 + i = k + (i + 1) by omega] at ih
    rw [ih]
    rfl
end Nw
namespace DL
open Nw
theorem enumD_map {α : Type} (enc : α → D) : ∀ (l : List α) (k : Nat), enumD k (l.map enc) = (l.zipIdx k).map fun p => .tup [.int ((p.2 : Nat) : Int), enc p.1]
  | [], k => rfl
  | x :: l, k => by rw [List.map_cons, List.zipIdx_cons, List.map_cons, ← enumD_map enc l (k + 1)]; rfl
theorem wEnT {m : ME} {st st1 : Sl} {ds : List D} (h : m st = .ok (.tup ds) st1) (hc : colds ds = true) : iEnT m st = .ok (enumD 0 ds) st1 := by
  unfold iEnT
  rw [h]
  dsimp only [Res.bind, tupItems]
  rw [if_pos hc]
theorem colds_bl (l : List Int) (f : Int → Bool) : colds (l.map fun x => D.bl (f x)) = true := by
  unfold colds
  rw [List.all_map]
  exact List.all_eq_true.mpr fun _ _ => rfl
theorem lst_rep (o : Bool) (x : Int) (k : Nat) (h : k ≤ 100000) : oMul [.lst o [.int x], .int (k : Int)] = some (.newL (nums (List.replicate k x))) := by
  have e : (List.replicate k [D.int x]).flatten = nums (List.replicate k x) := by
    clear h
    induction k with
    | zero => rfl
    | succ n ih => rw [List.replicate_succ, List.flatten_cons, ih, List.replicate_succ, nums_cons]; rfl
  have c : (colds [D.int x] && decide (-(2 ^ 63) ≤ ((k : Nat) : Int) ∧ ((k : Nat) : Int) < 2 ^ 63 ∧ [D.int x].length * ((k : Nat) : Int).toNat ≤ 16777216)) = true := by
    rw [Bool.and_eq_true, decide_eq_true_eq]
    refine ⟨rfl, by omega, by omega, ?_⟩
    rw [Int.toNat_natCast, List.length_singleton]
    omega
  rw [oMul, if_pos c, Int.toNat_natCast, e]
theorem repr_0 : oRepr [.int 0] = some (.val (.str "0")) := rfl
theorem repr_1 : oRepr [.int 1] = some (.val (.str "1")) := rfl
theorem in_01 (b : Bool) (x : Int) (h : x = 0 ∨ x = 1) : ∃ X, oRepr [.int x] = some (.val (.str X)) ∧ oIn b [.str X, .lst true [.str "0", .str "1"]] = some (.val (.bl (!b))) := by
  rcases h with rfl | rfl
  · exact ⟨"0", repr_0, by cases b <;> rfl⟩
  · exact ⟨"1", repr_1, by cases b <;> rfl⟩
end DL

/-! DL57: domination by the profile's counts; powers. -/
namespace Nw
open DL
theorem cp_none {t : Int} : ∀ {l : List Int} {p : Nat}, (∀ x ∈ l, t < x) → cp t l p = 0
  | [], p, _ => cp_nil t p
  | _ :: _, 0, _ => rfl
  | x :: l, p + 1, h => by
    rw [cp_cons, cp_none fun y hy => h y (List.mem_cons_of_mem _ hy)]
    unfold sm
    rw [if_neg (by have := h x List.mem_cons_self; omega)]
theorem cp_each {t : Int} : ∀ {l : List Int} {p : Nat}, (∀ x ∈ l, x ≤ t) → cp t l p = min p l.length
  | [], p, _ => by rw [cp_nil]; simp
  | _ :: _, 0, _ => by rw [cp_0]; omega
  | x :: l, p + 1, h => by
    rw [cp_cons, cp_each fun y hy => h y (List.mem_cons_of_mem _ hy), List.length_cons]
    unfold sm
    rw [if_pos (h x List.mem_cons_self)]
    omega
theorem cp_perm {t : Int} {l m : List Int} {p : Nat} (h : l.Perm m) (hp : l.length ≤ p) : cp t l p = cp t m p := by
  unfold cp
  rw [List.take_of_length_le hp, List.take_of_length_le (by rw [← h.length_eq]; exact hp)]
  exact (h.filter _).length_eq
theorem dom_checked {w : Nat} {a b : List Int} (ha : a.Perm (desc w)) (hb : b.Perm (desc w)) (h : ∀ t p : Nat, 1 ≤ t → t < w → 1 ≤ p → p < w → cp t b p ≤ cp t a p) : dom a b := fun t p => by
  have la : a.length = w := by rw [ha.length_eq, desc_len]
  have lb : b.length = w := by rw [hb.length_eq, desc_len]
  have ma : ∀ x ∈ a, 1 ≤ x ∧ x ≤ (w : Int) := fun x hx => dom_base.desc_mem w x (ha.subset hx)
  have mb : ∀ x ∈ b, 1 ≤ x ∧ x ≤ (w : Int) := fun x hx => dom_base.desc_mem w x (hb.subset hx)
  by_cases h0 : t < 1
  · rw [cp_none (l := b) fun x hx => by have := (mb x hx).1; omega]
    omega
  by_cases h1 : (w : Int) ≤ t
  · rw [cp_each (l := b) fun x hx => by have := (mb x hx).2; omega, cp_each (l := a) fun x hx => by have := (ma x hx).2; omega, la, lb]
    exact Nat.le_refl _
  by_cases h2 : p < 1
  · rw [show p = 0 by omega, cp_0]; omega
  by_cases h3 : w ≤ p
  · rw [cp_perm (l := b) (m := a) (hb.trans ha.symm) (by omega)]
    exact Nat.le_refl _
  · have := h t.toNat p (by omega) (by omega) (by omega) (by omega)
    rw [show ((t.toNat : Nat) : Int) = t by omega] at this
    exact this
/-- domination for the descending list is domination for all -/
theorem dom_desc {w : Nat} {N M : List Int} (h1 : 1 ≤ w) (hN : okS w N) (hM : okS w M) (e : ∀ {a b l : List Int}, okS w a → okS w b → runL a (desc w) = runL b (desc w) → l.length = w → runL a l = runL b l)
    (h : dom (runL N (desc w)) (runL M (desc w))) {v : List Int} (hv : v.length = w) : dom (runL N v) (runL M v) := by
  obtain ⟨K, k1, k2⟩ := lift N hN (runL M (desc w)) (runL_perm M _ (by rw [desc_len]; exact hM)) h
  have hK : okS w K := fun s hs => hN s (k1.subset hs)
  rw [← e hK hM k2 hv]
  exact dom_sub k1 (by rw [hv]; exact hN)
end Nw

/-! DL58: powers of a network. -/
namespace Nw
open DL
theorem stpPerm {l : List Int} {s : Int} (h1 : 1 ≤ s) (h2 : s < l.length) : (stp l s).Perm l := by
  obtain ⟨a, x, y, r, e, _, hs⟩ := stp_eq h1 h2
  rw [hs, e]
  apply List.Perm.append_left
  rcases Int.le_total x y with h | h
  · rw [Int.min_eq_left h, Int.max_eq_right h]
  · rw [Int.min_eq_right h, Int.max_eq_left h]
    exact List.Perm.swap x y r
theorem runPerm : ∀ (ss : List Int) {l : List Int}, okS l.length ss → (runL ss l).Perm l
  | [], _, _ => List.Perm.refl _
  | s :: ss, l, h => by
    have a := h s List.mem_cons_self
    exact (runPerm ss (l := stp l s) (by rw [stp_len]; exact fun x hx => h x (List.mem_cons_of_mem _ hx))).trans (stpPerm a.1 (by omega))
theorem asc_hit {l : List Int} (h : ascB l = true) {s : Int} (h1 : 1 ≤ s) (h2 : s < l.length) : hit l s = false := by
  have f := (falls_asc l).mpr h
  unfold falls at f
  rw [List.filter_eq_nil_iff] at f
  have := f s (List.mem_map.mpr ⟨(s - 1).toNat, List.mem_range.mpr (by omega), by omega⟩)
  unfold hit
  simpa using this
theorem asc_fix : ∀ (ss : List Int) {l : List Int}, ascB l = true → okS l.length ss → runL ss l = l
  | [], _, _, _ => rfl
  | s :: ss, l, h, hs => by
    have a := hs s List.mem_cons_self
    have e : stp l s = l := by unfold stp; rw [asc_hit h a.1 (by omega), if_neg (by decide)]
    show runL ss (stp l s) = l
    rw [e]
    exact asc_fix ss h fun x hx => hs x (List.mem_cons_of_mem _ hx)
theorem pair_asc : ∀ {l : List Int}, l.Pairwise (· ≤ ·) → ascB l = true
  | [], _ => rfl
  | [x], _ => rfl
  | x :: y :: r, h => by
    rw [List.pairwise_cons] at h
    rw [show ascB (x :: y :: r) = (decide (x ≤ y) && ascB (y :: r)) from rfl, Bool.and_eq_true, decide_eq_true_eq]
    exact ⟨h.1 y List.mem_cons_self, pair_asc h.2⟩
theorem inv_less {ss l : List Int} (h : okS l.length ss) (hn : runL ss l ≠ l) : inv (runL ss l) < inv l := by
  have e := inv_run ss l h
  have : 0 < (actS ss l).length := List.length_pos_iff.mpr fun z => hn (by
    have q := runL_act ss l
    rw [z] at q
    exact q.symm)
  omega
/-- the network several times -/
def Pw (N : List Int) : Nat → List Int → List Int
  | 0, l => l
  | k + 1, l => runL N (Pw N k l)
theorem pw_len (N : List Int) : ∀ (k : Nat) (l : List Int), (Pw N k l).length = l.length
  | 0, _ => rfl
  | k + 1, l => by rw [Pw, runL_len, pw_len N k l]
theorem rep_pw (N : List Int) : ∀ (k : Nat) (l : List Int), runL (List.replicate k N).flatten l = Pw N k l
  | 0, _ => rfl
  | k + 1, l => by
    rw [List.replicate_succ, List.flatten_cons, runL_app, rep_run, rep_pw N k l]
    rfl
theorem pw_stable {N l : List Int} {p : Nat} (h : Pw N (p + 1) l = Pw N p l) : ∀ q, Pw N (p + q) l = Pw N p l
  | 0 => rfl
  | q + 1 => by
    show runL N (Pw N (p + q) l) = _
    rw [pw_stable h q]
    exact h
theorem pw_asc {N : List Int} {l : List Int} (h : ascB l = true) (hs : okS l.length N) : ∀ k, Pw N k l = l
  | 0 => rfl
  | k + 1 => by
    show runL N (Pw N k l) = l
    rw [pw_asc h hs k, asc_fix N h hs]
theorem inv_small {w : Nat} (h : w ≤ 12) : inv (desc w) ≤ 66 := by
  have e := inv_desc w
  have : w * w ≤ w * 12 := Nat.mul_le_mul_left w h
  have : w = 0 ∨ w = 1 ∨ w = 2 ∨ w = 3 ∨ w = 4 ∨ w = 5 ∨ w = 6 ∨ w = 7 ∨ w = 8 ∨ w = 9 ∨ w = 10 ∨ w = 11 ∨ w = 12 := by omega
  rcases this with rfl | rfl | rfl | rfl | rfl | rfl | rfl | rfl | rfl | rfl | rfl | rfl | rfl <;> omega
end Nw
namespace DL
theorem frzL_bl (f : Int → Bool) : ∀ l : List Int, frzL (l.map fun x => D.bl (f x)) = l.map fun x => D.bl (f x)
  | [] => by rw [List.map_nil, frzL]
  | x :: l => by rw [List.map_cons, frzL, frzL_bl f l, fz_b]
end DL

/-! DL59: how soon a power is stable. -/
namespace Nw
open DL
theorem dom_grow : ∀ (N : List Int) {l : List Int}, okS l.length N → dom (runL N l) l
  | [], l, _ => dom_refl l
  | s :: N, l, h => by
    have a := h s List.mem_cons_self
    exact dom_trans (dom_grow N (l := stp l s) (by rw [stp_len]; exact fun x hx => h x (List.mem_cons_of_mem _ hx))) (dom_up a.1 (by omega))
/-- a place whose step does not occur -/
theorem cp_still (t : Int) {p : Nat} : ∀ (N : List Int) {l : List Int}, okS l.length N → (p : Int) ∉ N → cp t (runL N l) p = cp t l p
  | [], _, _, _ => rfl
  | s :: N, l, h, hp => by
    have a := h s List.mem_cons_self
    show cp t (runL N (stp l s)) p = _
    rw [cp_still t N (by rw [stp_len]; exact fun x hx => h x (List.mem_cons_of_mem _ hx)) (fun q => hp (List.mem_cons_of_mem _ q)), cp_stp a.1 (by omega), if_neg]
    intro e
    exact hp (by rw [show (p : Int) = s by omega]; exact List.mem_cons_self)
/-- a place whose step occurs -/
theorem cp_pass (t : Int) {p : Nat} : ∀ (N : List Int) {l : List Int}, okS l.length N → ((p + 1 : Nat) : Int) ∈ N → min (cp t l (p + 2)) (cp t l p + 1) ≤ cp t (runL N l) (p + 1)
  | [], _, _, h => by cases h
  | s :: N, l, h, hp => by
    have a := h s List.mem_cons_self
    have h' : okS (stp l s).length N := by rw [stp_len]; exact fun x hx => h x (List.mem_cons_of_mem _ hx)
    show _ ≤ cp t (runL N (stp l s)) (p + 1)
    by_cases e : s = ((p + 1 : Nat) : Int)
    · have g := dom_grow N h' t (p + 1)
      have c := cp_stp (l := l) a.1 (by omega) t (p + 1)
      rw [if_pos (by omega), show s.toNat + 1 = p + 2 by omega, show s.toNat - 1 = p by omega] at c
      omega
    · rcases List.mem_cons.mp hp with q | q
      · exact (e q.symm).elim
      · have g := cp_pass t N h' q
        have d1 := dom_up (l := l) a.1 (by omega) t (p + 2)
        have d2 := dom_up (l := l) a.1 (by omega) t p
        omega
theorem cp_mono' (t : Int) (l : List Int) (p : Nat) : ∀ q, cp t l p ≤ cp t l (p + q)
  | 0 => Nat.le_refl _
  | q + 1 => Nat.le_trans (cp_mono' t l p q) (cp_mono t l (p + q)).1
/-- within a part: what the passes reach -/
theorem cp_reach (t : Int) {N l : List Int} (h : okS l.length N) {L R : Nat} (hL : (L : Int) ∉ N) (hR : (R : Int) ∉ N) : ∀ (j p v : Nat), L ≤ p → p ≤ R → (∀ q : Nat, L < q → q < R → (q : Int) ∈ N) →
    v ≤ cp t l R → v + L ≤ cp t l L + p → (∀ a b : Nat, a + b = j → v ≤ cp t l L + a ∨ v + R ≤ cp t l R + p + b) → v ≤ cp t (Pw N j l) p
  | 0, p, v, h1, h2, hm, v1, v2, v3 => by
    show v ≤ cp t l p
    have m1 := cp_mono' t l L (p - L)
    have m2 := cp_more t l p (R - p)
    rw [show L + (p - L) = p by omega] at m1
    rw [show p + (R - p) = R by omega] at m2
    rcases v3 0 0 rfl with z | z <;> omega
  | j + 1, p, v, h1, h2, hm, v1, v2, v3 => by
    have hj : okS (Pw N j l).length N := by rw [pw_len]; exact h
    by_cases hv0 : v = 0
    · omega
    show v ≤ cp t (runL N (Pw N j l)) p
    by_cases e1 : p = L
    · subst e1
      have : ∀ k, cp t (Pw N k l) p = cp t l p := fun k => by
        induction k with
        | zero => rfl
        | succ k ih =>
          show cp t (runL N (Pw N k l)) p = _
          rw [cp_still t N (by rw [pw_len]; exact h) hL, ih]
      have := this (j + 1)
      have : cp t (runL N (Pw N j l)) p = cp t l p := this
      omega
    · by_cases e2 : p = R
      · subst e2
        have : ∀ k, cp t (Pw N k l) p = cp t l p := fun k => by
          induction k with
          | zero => rfl
          | succ k ih =>
            show cp t (runL N (Pw N k l)) p = _
            rw [cp_still t N (by rw [pw_len]; exact h) hR, ih]
        have := this (j + 1)
        have : cp t (runL N (Pw N j l)) p = cp t l p := this
        omega
      · obtain ⟨q, rfl⟩ : ∃ q, p = q + 1 := ⟨p - 1, by omega⟩
        have g := cp_pass t (p := q) N hj (hm (q + 1) (by omega) (by omega))
        have i1 := cp_reach t h hL hR j (q + 2) v (by omega) (by omega) hm v1 (by omega) fun a b e => by
          rcases v3 a (b + 1) (by omega) with z | z
          · exact .inl z
          · exact .inr (by omega)
        have i2 := cp_reach t h hL hR j q (v - 1) (by omega) (by omega) hm (by omega) (by omega) fun a b e => by
          rcases v3 (a + 1) b (by omega) with z | z
          · exact .inl (by omega)
          · exact .inr (by omega)
        omega
/-- the ends of the part of a place -/
theorem part_ends (N : List Int) (w p : Nat) (hp : p ≤ w) (h : okS w N) : ∃ L R : Nat, L ≤ p ∧ p ≤ R ∧ R ≤ w ∧ (L : Int) ∉ N ∧ (R : Int) ∉ N ∧ ∀ q : Nat, L < q → q < R → (q : Int) ∈ N ∨ q = p := by
  have hw : ∀ q : Nat, (q : Int) ∈ N → 1 ≤ q ∧ q < w := fun q hq => by have := h q hq; omega
  have lo : ∀ p : Nat, ∃ L : Nat, L ≤ p ∧ (L : Int) ∉ N ∧ ∀ q : Nat, L < q → q ≤ p → (q : Int) ∈ N := fun p => by
    induction p with
    | zero => exact ⟨0, Nat.le_refl _, fun z => by have := hw 0 z; omega, fun q h1 h2 => by omega⟩
    | succ p ih =>
      by_cases e : ((p + 1 : Nat) : Int) ∈ N
      · obtain ⟨L, a, b, c⟩ := ih
        refine ⟨L, by omega, b, fun q h1 h2 => ?_⟩
        by_cases z : q = p + 1
        · rw [z]; exact e
        · exact c q h1 (by omega)
      · exact ⟨p + 1, Nat.le_refl _, e, fun q h1 h2 => by omega⟩
  have hi : ∀ d p : Nat, p + d = w → ∃ R : Nat, p ≤ R ∧ R ≤ w ∧ (R : Int) ∉ N ∧ ∀ q : Nat, p ≤ q → q < R → (q : Int) ∈ N := fun d => by
    induction d with
    | zero => exact fun p e => ⟨p, Nat.le_refl _, by omega, fun z => by have := hw p z; omega, fun q h1 h2 => by omega⟩
    | succ d ih =>
      intro p e
      by_cases z : (p : Int) ∈ N
      · obtain ⟨R, a, b, c, f⟩ := ih (p + 1) (by omega)
        refine ⟨R, by omega, b, c, fun q h1 h2 => ?_⟩
        by_cases y : q = p
        · rw [y]; exact z
        · exact f q (by omega) h2
      · exact ⟨p, Nat.le_refl _, by omega, z, fun q h1 h2 => by omega⟩
  obtain ⟨L, a1, a2, a3⟩ := lo p
  obtain ⟨R, b1, b2, b3, b4⟩ := hi (w - p) p (by omega)
  refine ⟨L, R, a1, b1, b2, a2, b3, fun q h1 h2 => ?_⟩
  by_cases e : q ≤ p
  · exact .inl (a3 q h1 e)
  · exact .inl (b4 q (by omega) h2)
theorem cp_ext : ∀ {l m : List Int}, l.length = m.length → (∀ t p, cp t l p = cp t m p) → l = m
  | [], [], _, _ => rfl
  | [], _ :: _, h, _ => by cases h
  | _ :: _, [], h, _ => by cases h
  | x :: l, y :: m, h, hc => by
    have e1 := hc x 1
    have e2 := hc y 1
    rw [cp_cons, cp_cons, cp_0, cp_0] at e1 e2
    have x1 : sm x x = 1 := by unfold sm; rw [if_pos (Int.le_refl _)]
    have y1 : sm y y = 1 := by unfold sm; rw [if_pos (Int.le_refl _)]
    have hxy : y ≤ x := Classical.byContradiction fun z => by
      have : sm x y = 0 := by unfold sm; rw [if_neg z]
      omega
    have hyx : x ≤ y := Classical.byContradiction fun z => by
      have : sm y x = 0 := by unfold sm; rw [if_neg z]
      omega
    have e : x = y := by omega
    subst e
    have e3 : l = m := cp_ext (by simpa using h) fun t p => by
      have := hc t (p + 1)
      rw [cp_cons, cp_cons] at this
      omega
    rw [e3]
/-- the counts that are reached -/
theorem cp_end (t : Int) {w : Nat} {N l : List Int} (hl : l.length = w) (h : okS w N) {L R p : Nat} (h1 : L ≤ p) (h2 : p ≤ R) (hRw : R ≤ w) (hL : (L : Int) ∉ N) (hR : (R : Int) ∉ N) (hm : ∀ q : Nat, L < q → q < R → (q : Int) ∈ N) {j : Nat} (hj : w ≤ j + 1) (hw : 1 ≤ w) :
    cp t (Pw N j l) p = min (cp t l R) (cp t l L + (p - L)) := by
  have h' : okS l.length N := by rw [hl]; exact h
  have up : cp t (Pw N j l) p ≤ min (cp t l R) (cp t l L + (p - L)) := by
    have still : ∀ q : Nat, (q : Int) ∉ N → ∀ k, cp t (Pw N k l) q = cp t l q := fun q hq k => by
      induction k with
      | zero => rfl
      | succ k ih =>
        show cp t (runL N (Pw N k l)) q = _
        rw [cp_still t N (by rw [pw_len]; exact h') hq, ih]
    have m1 := cp_mono' t (Pw N j l) p (R - p)
    have m2 := cp_more t (Pw N j l) L (p - L)
    rw [show p + (R - p) = R by omega, still R hR] at m1
    rw [show L + (p - L) = p by omega, still L hL] at m2
    omega
  have low := cp_reach t h' hL hR j p (min (cp t l R) (cp t l L + (p - L))) h1 h2 hm (by omega) (by omega) fun a b e => by
    by_cases z : p - L ≤ a
    · exact .inl (by omega)
    · exact .inr (by omega)
  omega
/-- from w - 1 on the powers are alike -/
theorem pw_soon {w : Nat} {N l : List Int} (hl : l.length = w) (h : okS w N) (hw : 1 ≤ w) {j : Nat} (hj : w ≤ j + 1) : Pw N (j + 1) l = Pw N j l := by
  refine cp_ext (by rw [pw_len, pw_len]) fun t p => ?_
  by_cases hp : p ≤ w
  · obtain ⟨L, R, a1, a2, a3, a4, a5, a6⟩ := part_ends N w p hp h
    by_cases e : (p : Int) ∈ N
    · have hm : ∀ q : Nat, L < q → q < R → (q : Int) ∈ N := fun q h1 h2 => (a6 q h1 h2).elim id fun z => by rw [z]; exact e
      rw [cp_end t hl h a1 a2 a3 a4 a5 hm (j := j + 1) (by omega) hw, cp_end t hl h a1 a2 a3 a4 a5 hm hj hw]
    · show cp t (runL N (Pw N j l)) p = _
      exact cp_still t N (by rw [pw_len, hl]; exact h) e
  · rw [cp_over t (Pw N (j + 1) l) (by rw [pw_len]; omega), cp_over t (Pw N j l) (by rw [pw_len]; omega)]
    have := cp_run_tot t N (l := Pw N j l) (by rw [pw_len, hl]; exact h)
    show cp t (runL N (Pw N j l)) (runL N (Pw N j l)).length = _
    rw [runL_len]
    exact this
theorem pw_add (N l : List Int) (a : Nat) : ∀ b, Pw N (a + b) l = Pw N b (Pw N a l)
  | 0 => rfl
  | b + 1 => by
    show runL N (Pw N (a + b) l) = runL N (Pw N b (Pw N a l))
    rw [pw_add N l a b]
end Nw

set_option maxHeartbeats 4000000
/-! DL60: xs.pop(), xs.reverse(), xs.clear() of a slot's own list. -/
namespace DL
open PySem PySem.Spec PyProof.Rows L2
/-- what a method without arguments does: its answer, the items behind it -/
def eM0 (i : Nat) (f : List D → Option (D × List D)) : ME := fun st => match getS st i with
  | some (.lst true xs) => match f xs with
    | some (d, ys) => .ok d (st.set i (some (.lst true ys)))
    | none => .fail
  | _ => .fail
def fPop (xs : List D) : Option (D × List D) := if colds xs then (xs[xs.length - 1]?).map fun d => (d, xs.dropLast) else none
def fReverse (xs : List D) : Option (D × List D) := if colds xs then some (.non, xs.reverse) else none
def fClear (_ : List D) : Option (D × List D) := some (.non, [])
/-- the method's reading serves f -/
def M0S (ca : Nat → Addr) (K : PySem.W.Frag) (r : V → List V → Hp → VK → Prop) (f : List D → Option (D × List D)) : Prop := ∀ (Hf H : Hp) (S : Rg) (a : Addr) (vs : List V) (xs : List D) (d : D) (ys : List D), RepL ca K Hf H S vs xs → H a = some (.lst vs) → f xs = some (d, ys) →
  ∃ v ws, RepL ca K Hf H S ws ys ∧ (∀ Hf' H', Ex Hf Hf' → (∀ b o, b ≠ a → H b = some o → H' b = some o) → Rep ca K Hf' H' Em v d) ∧ ∀ Q : VK, Q v (upd H a (.lst ws)) → r (.ref a) [] H Q
section
variable {ca : Nat → Addr} {K : PySem.W.Frag} {Hf H : Hp} {R : Nat → Rg} {σ : L2.St} {st : Sl} {v : V} {d : D} {vs : List V} {ds xs : List D} {X : Cx} {S T : Rg}
theorem ce_m0 {o : Expr} {i : Nat} {name : Str} {apos cpos : Pos} {id : String} {r : V → List V → Hp → VK → Prop} {f : List D → Option (D × List D)} (slot : Slot "list" name id) (hty : typeOf (.builtin id) = pure (.type "method_descriptor")) (hm : MtR X id r) (hf : M0S ca X.K r f)
    (ho : PE X o (tVar i)) (hbase : attributeBase o name X.env (eval o X.env) = eval o X.env := by rfl) (hline : (apos.endLine == cpos.line) = true := by rfl) : CE ca X (.Call (.Attribute o name apos) [] [] cpos) (eM0 i f) := fun Hf H R σ st Q p h => by
  refine we_of (pe_bm0 PySem.F.plainAttrs_list slot hty hm ho hbase hline) ?_
  unfold eM0 at h
  cases g : getS st i with
  | none => rw [g] at h; exact h.elim
  | some d0 =>
    rw [g] at h
    cases d0 with
    | lst ow xs =>
      cases ow with
      | false => exact h.elim
      | true =>
        dsimp only at h
        cases ef : f xs with
        | none => rw [ef] at h; exact h.elim
        | some dy =>
          obtain ⟨d, ys⟩ := dy
          rw [ef] at h
          obtain ⟨a, vs, e1, ra, e2, r2⟩ := p.ownList g
          obtain ⟨v, ws, rw', rv, q⟩ := hf Hf H _ a vs xs d ys r2 e2 ef
          refine ⟨.ref a, e1, .inl ⟨rfl, vs, .inl (.inl e2)⟩, q Q ?_⟩
          obtain ⟨p1, t1⟩ := p.write g e1 ra rw'
          refine h Hf (upd H a (.lst ws)) Em R v (t1.less fun b q => q) (p1.put (rv Hf _ (fun _ _ e => e) fun b o n e => by rw [upd_ne n]; exact e))
    | _ => exact h.elim
theorem repL_last : ∀ {xs : List D} {vs : List V} {S : Rg}, RepL ca K Hf H S vs xs → RepL ca K Hf H S vs.dropLast xs.dropLast
  | [], _, _, r => by cases r; exact .nil
  | [x], _, _, r => by
    cases r with
    | cons r1 r2 _ _ _ =>
      cases r2
      exact .nil
  | x :: y :: xs, _, _, .cons r1 r2 h1 h2 h3 => by
    cases r2 with
    | cons r3 r4 h4 h5 h6 => exact .cons r1 (repL_last (.cons r3 r4 h4 h5 h6)) h1 h2 h3
theorem m0_pop : M0S ca K rPop fPop := fun Hf H S a vs xs d ys r e h => by
  unfold fPop at h
  by_cases hc : colds xs = true
  · rw [if_pos hc] at h
    cases el : xs[xs.length - 1]? with
    | none => rw [el] at h; cases h
    | some d0 =>
      rw [el] at h
      cases h
      obtain ⟨v, T, ev, rv, _⟩ := repL_at r el
      have rv' := (repL_at (repL_cold0 r hc) el)
      obtain ⟨v2, T2, ev2, rv2, sub⟩ := rv'
      rw [ev] at ev2
      cases ev2
      have rE : Rep ca K Hf H Em v d := rv2.mono sub
      refine ⟨v, vs.dropLast, repL_last r, fun Hf' H' x k => rE.keep x fun b q => q.elim, fun Q q => ⟨a, vs, v, rfl, rfl, e, by rw [r.length]; exact ev, q⟩⟩
  · rw [if_neg hc] at h; cases h
theorem m0_reverse : M0S ca K rReverse fReverse := fun Hf H S a vs xs d ys r e h => by
  unfold fReverse at h
  by_cases hc : colds xs = true
  · rw [if_pos hc] at h
    cases h
    exact ⟨.non, vs.reverse, (repL_rev (repL_cold0 r hc)).mono fun _ q => q.elim, fun _ _ _ _ => .non, fun Q q => ⟨a, vs, rfl, rfl, e, q⟩⟩
  · rw [if_neg hc] at h; cases h
theorem m0_clear : M0S ca K rClear fClear := fun Hf H S a vs xs d ys r e h => by
  cases h
  exact ⟨.non, [], .nil, fun _ _ _ _ => .non, fun Q q => ⟨a, vs, rfl, rfl, e, q⟩⟩
end
end DL

/-! DL61: the parts between places whose step does not occur, sorted. -/
namespace Nw
open DL
theorem desc_map : ∀ n : Nat, desc n = (List.range n).map fun (i : Nat) => (n : Int) - (i : Int)
  | 0 => rfl
  | n + 1 => by
    rw [List.range_succ_eq_map, List.map_cons, List.map_map]
    show ((n : Int) + 1) :: desc n = _
    rw [desc_map n]
    congr 1
    simp
    intro a _
    omega
/-- the places from L + 1 to m -/
def rg (L m : Nat) : List Int := (List.range (m - L)).map fun (i : Nat) => (L : Int) + 1 + (i : Int)
theorem rg_snoc {L m : Nat} (h : L ≤ m) : rg L (m + 1) = rg L m ++ [((m + 1 : Nat) : Int)] := by
  unfold rg
  rw [show m + 1 - L = (m - L) + 1 by omega, List.range_succ, List.map_append, List.map_singleton]
  congr 2
  omega
theorem rg_one (m : Nat) : rg m (m + 1) = [((m + 1 : Nat) : Int)] := by
  unfold rg
  rw [show m + 1 - m = 1 by omega]
  show [(m : Int) + 1 + ((0 : Nat) : Int)] = _
  congr 1
theorem rg_len (L m : Nat) : (rg L m).length = m - L := by unfold rg; rw [List.length_map, List.length_range]
/-- the descending list's numbers at the places of a part -/
def fall (w : Nat) (r : List Int) : List Int := r.map fun z => (w : Int) + 1 - z
theorem desc_take {w L m : Nat} (h1 : L ≤ m) (h2 : m ≤ w) : (desc w).take m = (desc w).take L ++ fall w (rg L m) := by
  rw [desc_map, ← List.map_take, ← List.map_take, List.take_range, List.take_range, Nat.min_eq_left h2, Nat.min_eq_left (by omega)]
  obtain ⟨d, rfl⟩ : ∃ d, m = L + d := ⟨m - L, by omega⟩
  rw [List.range_add, List.map_append]
  congr 1
  unfold fall rg
  rw [show L + d - L = d by omega, List.map_map, List.map_map]
  apply List.map_congr_left
  intro i _
  show (w : Int) - ((L + i : Nat) : Int) = (w : Int) + 1 - ((L : Int) + 1 + (i : Int))
  omega
theorem cp_part (t : Int) {w L m : Nat} (h1 : L ≤ m) (h2 : m ≤ w) : cp t (desc w) m = cp t (desc w) L + cp t (fall w (rg L m)) (m - L) := by
  have e : (fall w (rg L m)).length = m - L := by unfold fall; rw [List.length_map, rg_len]
  unfold cp
  rw [desc_take h1 h2, List.filter_append, List.length_append, List.take_of_length_le (by omega : (fall w (rg L m)).length ≤ m - L)]
def Good (w : Nat) (N F : List Int) (L : Nat) : Prop := F.length = L ∧ ∀ t p, p ≤ L → ∃ A B : Nat, A ≤ p ∧ p ≤ B ∧ B ≤ L ∧ (A : Int) ∉ N ∧ (B : Int) ∉ N ∧ (∀ q : Nat, A < q → q < B → (q : Int) ∈ N) ∧
  cp t F p = min (cp t (desc w) B) (cp t (desc w) A + (p - A))
theorem good_nil {w : Nat} {N : List Int} (h : ((0 : Nat) : Int) ∉ N) : Good w N [] 0 := ⟨rfl, fun t p hp => ⟨0, 0, Nat.zero_le _, hp, Nat.le_refl _, h, h, fun q h1 h2 => by omega, by
  have : p = 0 := by omega
  subst this
  rw [cp_0, cp_0]
  omega⟩⟩
theorem good_step {w : Nat} {N F : List Int} {L m : Nat} (g : Good w N F L) (h1 : L < m) (h2 : m ≤ w) (hL : (L : Int) ∉ N) (hm : (m : Int) ∉ N) (hi : ∀ q : Nat, L < q → q < m → (q : Int) ∈ N) :
    Good w N (F ++ srt (fall w (rg L m))) m := by
  obtain ⟨gl, gc⟩ := g
  have lb : (fall w (rg L m)).length = m - L := by unfold fall; rw [List.length_map, rg_len]
  have ls : (srt (fall w (rg L m))).length = m - L := by rw [(srt_perm _).length_eq, lb]
  refine ⟨by rw [List.length_append, gl, ls]; omega, fun t p hp => ?_⟩
  by_cases hpL : p ≤ L
  · obtain ⟨A, B, a1, a2, a3, a4, a5, a6, a7⟩ := gc t p hpL
    exact ⟨A, B, a1, a2, by omega, a4, a5, a6, by rw [cp_low t F _ p (by omega), a7]⟩
  · refine ⟨L, m, by omega, hp, Nat.le_refl _, hL, hm, hi, ?_⟩
    have e0 : cp t F L = cp t (desc w) L := by
      obtain ⟨A, B, a1, a2, a3, a4, a5, a6, a7⟩ := gc t L (Nat.le_refl _)
      have : B = L := by omega
      subst this
      have := cp_more t (desc w) A (B - A)
      rw [show A + (B - A) = B by omega] at this
      omega
    have e1 := cp_app t F (srt (fall w (rg L m))) (p - L)
    rw [gl, show L + (p - L) = p by omega, e0] at e1
    have asc := asc_cp (pair_asc (srt_up (fall w (rg L m)))) t (p - L)
    rw [ls, cp_perm (srt_perm (fall w (rg L m))) (p := m - L) (by omega)] at asc
    have u1 := cp_le t (srt (fall w (rg L m))) (p - L)
    have u2 := cp_mono' t (srt (fall w (rg L m))) (p - L) (m - p)
    rw [show p - L + (m - p) = m - L by omega, cp_perm (srt_perm (fall w (rg L m))) (p := m - L) (by omega)] at u2
    have e2 := cp_part t (w := w) (L := L) (m := m) (by omega) h2
    omega
theorem good_end {w : Nat} {N F : List Int} (g : Good w N F w) (h : okS w N) (hw : 1 ≤ w) {j : Nat} (hj : w ≤ j + 1) : F = Pw N j (desc w) := by
  obtain ⟨gl, gc⟩ := g
  have key : ∀ t p, p ≤ w → cp t F p = cp t (Pw N j (desc w)) p := fun t p hp => by
    obtain ⟨A, B, a1, a2, a3, a4, a5, a6, a7⟩ := gc t p hp
    rw [a7, cp_end t (desc_len w) h a1 a2 a3 a4 a5 a6 hj hw]
  refine cp_ext (by rw [gl, pw_len, desc_len]) fun t p => ?_
  by_cases hp : p ≤ w
  · exact key t p hp
  · rw [cp_over t F (by omega), cp_over t (Pw N j (desc w)) (by rw [pw_len, desc_len]; omega), pw_len, desc_len, gl]
    exact key t w (Nat.le_refl _)
end Nw
namespace DL
open Nw
theorem oIn_nums (b o : Bool) (x : Int) (l : List Int) : oIn b [.int x, .lst o (nums l)] = some (.val (.bl (if b then !decide (x ∈ l) else decide (x ∈ l)))) := by
  have e : ∀ l : List Int, ((nums l).any fun z => eqF z (.int x)) = decide (x ∈ l) := fun l => by
    induction l with
    | nil => rfl
    | cons y l ih =>
      rw [nums_cons, List.any_cons, ih]
      show (y == x || decide (x ∈ l)) = _
      by_cases h : x = y
      · subst h; simp
      · have : (y == x) = false := by simp; omega
        rw [this]
        simp [h]
  have f : ∀ l : List Int, (nums l).all flat = true := fun l => by
    unfold nums
    rw [List.all_map]
    exact List.all_eq_true.mpr fun _ _ => rfl
  unfold oIn
  dsimp only [items]
  rw [f l, e l]
  rfl
end DL

set_option maxHeartbeats 4000000
/-! DL62: enumerate of a slot's list, where it stands, in a comprehension. -/
namespace DL
open PySem PySem.Spec PyProof.Rows L2
/-- [.. for .., .. in enumerate(the list of the slot i0, kk) if ..] -/
def compK (i0 kk : Nat) (g : MG) (t : MT) (e : ME) (vs : List Nat) : Nat → Nat → Sl → List D → Res (List D)
  | 0, _, _, _ => .fail
  | n + 1, k, st, acc => match getS st i0 with
    | some (.lst _ xs) => match xs[k]? with
      | none => .ok acc st
      | some d => if hot d then .fail else ((g (.tup [.int ((kk + k : Nat) : Int), d]) st).noX).bind fun _ st1 => ((t st1).noX).bind fun c st2 => if c then
          ((e st2).noX).bind fun y st3 => if acc.length < 16777216 then compK i0 kk g t e vs n (k + 1) (wipeS st3 vs) (acc ++ [y]) else .fail
        else compK i0 kk g t e vs n (k + 1) (wipeS st2 vs) acc
    | _ => .fail
def eLcK (i0 kk : Nat) (g : MG) (t : MT) (e : ME) (vs : List Nat) : ME := fun st => (compK i0 kk g t e vs (lenS st i0 + 1) 0 (wipeS st vs) []).bind fun acc st2 => .ok (.lst true acc) st2
/-- the walk: the slot's list stands -/
def iEnumV (K : PySem.W.Frag) (i0 kk : Nat) : TI := fun σ H R => tVar i0 σ H fun v H1 => ∃ a ys, v = .ref a ∧ SqL K H1 a ys ∧ R (IteK K kk a) H1
theorem pi_enumV {X : Cx} {e e2 : Expr} {i0 kk : Nat} {p pos tpos : Pos} {elts : List Expr} {k2 : Nat} (hk : kk < 1000000) (hg : Gl X "enumerate") (hm : X.mg "enumerate" = none) (hv : PE X e (tVar i0)) (h2 : PE X e2 (tC (.int (kk : Int))))
    (hs1 : starEach [e2] X.env = [(false, eval e2 X.env)] := by rfl) (hs : starEach [e, e2] X.env = (false, eval e X.env) :: starEach [e2] X.env := by rfl) (hpl : (backTo pos (starEach [e2] X.env)).any (·.1) = false := by rfl) :
    PI X (.Tuple elts k2 tpos) (.Call (.Name "enumerate" p) [e, e2] [] pos) (iEnumV X.K i0 kk) := by
  constructor
  intro pins s σ H R I h
  refine (pi_enumK hg hm (pa_cons hv (pa_cons h2 pa_nil hs1) hs) hs hpl).run pins s σ H R I ?_
  obtain ⟨v, e1, a, ys, rfl, q, r⟩ := h
  exact ⟨.ref a, e1, ⟨a, ys, kk, rfl, hk, q, r⟩⟩
section
variable {ca : Nat → Addr} {K : PySem.W.Frag} {Hf H Hf1 H1 Hf2 H2 : Hp} {S S1 S2 P P1 P2 : Rg} {R R1 R2 : Nat → Rg} {pp qq : Prop} {σ σ' : L2.St} {st st' : Sl} {v : V} {d : D} {vs : List V} {ds : List D} {X : Cx} {L : List Nat}
/-- the reading of a list comprehension, from its parts' meanings in the blocks -/
theorem lc_readK {i0 kk : Nat} {t : TG} {g : MG} {tt : TT} {mt : MT} {te : TE} {me : ME} {w : List Nat}
    (hw : i0 ∉ w)
    (hg : ∀ (Hf H : Hp) (P : Rg) (R : Nat → Rg) (σ : L2.St) (st : Sl) (v : V) (d : D) (Q : L2.St → Hp → Prop), PR ca X.K Hf H P (Rep ca X.K Hf H P v d) R σ st →
      (match g d st with
        | .ok _ st' => ∀ Hf' H' R' σ', Tr (jn P R) Hf H (jn Em R') Hf' H' → PR ca X.K Hf' H' Em True R' σ' st' → Lk (but σ.length w) σ σ' → Q σ' H'
        | _ => False) → t v σ H Q)
    (ht : ∀ (Hf H : Hp) (R : Nat → Rg) (σ : L2.St) (st : Sl) (Q : Bool → Hp → Prop), PR ca X.K Hf H Em True R σ st → (match mt st with
        | .ok k st' => ∀ Hf' H' R', Tr (jn Em R) Hf H (jn Em R') Hf' H' → PR ca X.K Hf' H' Em True R' σ st' → Q k H'
        | _ => False) → tt σ H Q)
    (he : ∀ (Hf H : Hp) (R : Nat → Rg) (σ : L2.St) (st : Sl) (Q : VK), PR ca X.K Hf H Em True R σ st → (match me st with
        | .ok d st' => ∀ Hf' H' P R' v, Tr (jn Em R) Hf H (jn P R') Hf' H' → PR ca X.K Hf' H' P (Rep ca X.K Hf' H' P v d) R' σ st' → Q v H'
        | _ => False) → te σ H Q)
    {Q : VK} (p : PR ca X.K Hf H Em True R σ st) (h : Post ca X Hf H (jn Em R) σ (eLcK i0 kk g mt me w st) Q) : tLc (iEnumV X.K i0 kk) t tt te w σ H Q := by
  unfold eLcK at h
  have nf : compK i0 kk g mt me w (lenS st i0 + 1) 0 (wipeS st w) [] ≠ .fail := fun z => by rw [z] at h; exact h
  have nw : ∀ {s : Sl}, getS (wipeS s w) i0 = getS s i0 := fun {s} => wipeS_keep hw
  cases gs : getS st i0 with
  | none => exact (nf (by unfold compK; rw [nw, gs])).elim
  | some d0 =>
    cases d0 with
    | lst o xs =>
      obtain ⟨a, vs0', T, eσ, sq, rl⟩ := p.here gs
      have eL : lenS st i0 = xs.length := by unfold lenS; rw [gs]
      refine ⟨.ref a, eσ, a, vs0', rfl, sq, ?_⟩
      intro Dl hD
      have hD1 : Hf Dl = none := (wl_new (o := .lst []) p.w hD).2
      have h1 : Post ca X Hf H (jn Em R) σ ((compK i0 kk g mt me w (lenS st i0 + 1) 0 (wipeS st w) []).bind fun acc st2 => .ok (.lst true acc) st2) Q := h
      refine ⟨fun i m H' => ∃ Hf' R' st' A acc, Tr (jn Em R) Hf H (jn (fun b => b = Dl ∨ A b) R') Hf' H' ∧ Acc ca X.K Hf' H' Dl A acc R' (L2.wipe σ w) st' ∧ compK i0 kk g mt me w m i st' acc = compK i0 kk g mt me w (lenS st i0 + 1) 0 (wipeS st w) [],
        ⟨lenS st i0 + 1, Hf, R, wipeS st w, Em, [], ?_, ⟨?_⟩, rfl⟩, ?_⟩
      · refine ⟨fun _ _ e => e, fun b o e _ => upd_keep hD b o e, fun b q => ?_, fun _ _ e => .inl e⟩
        rcases q with (q | q) | q
        · subst q; exact .inr hD
        · exact q.elim
        · exact .inl (.inr q)
      · have := (p.wipe w).grow (o := .lst []) hD (P' := fun b => b = Dl ∨ Em b) (qq := ∃ vs, (upd H Dl (.lst [])) Dl = some (.lst vs) ∧ RepL ca X.K Hf (upd H Dl (.lst [])) Em vs [] ∧ ¬ Em Dl) ⟨[], upd_same, .nil, fun q => q⟩ (fun b q => q.elim id fun q => q.elim)
        exact this
      rintro i m H' ⟨Hf', R', st', A, acc, t', ac, ef⟩
      have p' := ac.pr
      have eσ' : (L2.wipe σ w)[i0]? = some (some (.ref a)) := by rw [wipe_get, if_neg hw]; exact eσ
      have hnf : compK i0 kk g mt me w m i st' acc ≠ .fail := by rw [ef]; exact nf
      cases m with
      | zero => exact (hnf rfl).elim
      | succ m =>
        cases gs' : getS st' i0 with
        | none => exact (hnf (by unfold compK; rw [gs'])).elim
        | some d1 =>
          cases d1 with
          | lst o' xs' =>
            obtain ⟨a', vs', T', e2, sq', rl'⟩ := p'.here gs'
            rw [eσ'] at e2
            obtain rfl : a = a' := by cases e2; rfl
            have hlen := rl'.length
            rw [compK, gs'] at ef hnf
            dsimp only at ef hnf
            cases ex : xs'[i]? with
            | none =>
              have hi : xs'.length ≤ i := List.getElem?_eq_none_iff.mp ex
              refine .inl ⟨⟨vs', sq', by omega⟩, ?_⟩
              rw [ex] at ef
              rw [← ef] at h1
              have h2 : Post ca X Hf H (jn Em R) σ (.ok (.lst true acc) st') Q := h1
              obtain ⟨vs0, eD, rA, nA⟩ := p'.pend
              exact h2 Hf' H' (fun b => b = Dl ∨ A b) R' (.ref Dl) t' ((p'.unwipe).imp fun _ => .lstO (.inl rfl) eD (rA.mono fun b q => ⟨.inr q, fun z => nA (z ▸ q)⟩))
            | some d =>
              rw [ex] at ef hnf
              dsimp only at ef hnf
              by_cases hd : hot d = true
              · rw [if_pos hd] at hnf; exact (hnf rfl).elim
              rw [if_neg hd] at ef hnf
              have hd' : hot d = false := by simpa using hd
              obtain ⟨w0, T0, ew0, rw0, _⟩ := repL_at rl' ex
              refine .inr ⟨⟨vs', w0, sq', ew0⟩, fun H2 => ∃ Hf2 R2 st2 A2 acc2, Tr (jn Em R) Hf H (jn (fun b => b = Dl ∨ A2 b) R2) Hf2 H2 ∧ Acc ca X.K Hf2 H2 Dl A2 acc2 R2 (L2.wipe σ w) st2 ∧ compK i0 kk g mt me w m (i + 1) st2 acc2 = compK i0 kk g mt me w (lenS st i0 + 1) 0 (wipeS st w) [],
                fun H2 q => ⟨m, Nat.lt_succ_self m, q⟩, fun x H2 hy => ?_⟩
              obtain ⟨T1, xv, rfl, hT, e2', hy⟩ := hy
              subst e2'
              have hx := hy vs' sq'
              rw [ew0] at hx
              cases hx
              have hT' : Hf' T1 = none := by
                cases q : Hf' T1 with
                | none => rfl
                | some o => rw [p'.w.ex T1 o q] at hT; cases hT
              have x2 : Ex (upd Hf' T1 (.tup [.int ((kk + i : Nat) : Int), w0])) (upd H' T1 (.tup [.int ((kk + i : Nat) : Int), w0])) := fun b o e => by
                by_cases q : b = T1
                · subst q; rw [upd_same] at e ⊢; exact e
                · rw [upd_ne q] at e ⊢; exact p'.w.ex b o e
              have rx : Rep ca X.K (upd Hf' T1 (.tup [.int ((kk + i : Nat) : Int), w0])) (upd H' T1 (.tup [.int ((kk + i : Nat) : Int), w0])) Em (.ref T1) (.tup [.int ((kk + i : Nat) : Int), d]) := by
                have k2 := (show Rep ca X.K Hf' H' Em w0 d from rw0.cold hd').keep (Hf' := upd Hf' T1 (.tup [.int ((kk + i : Nat) : Int), w0])) (H' := upd H' T1 (.tup [.int ((kk + i : Nat) : Int), w0])) (fun b o e => upd_keep hT' b o e) fun _ q => q.elim
                exact .tup upd_same (.cons (S1 := Em) (S2 := Em) .int (RepL.one k2) (fun _ q => q) (fun _ q => q) fun _ q _ => q)
              obtain ⟨p2, t2⟩ := p'.drop.yield (Hf2 := upd Hf' T1 (.tup [.int ((kk + i : Nat) : Int), w0])) (H2 := upd H' T1 (.tup [.int ((kk + i : Nat) : Int), w0])) (fun b o e => upd_keep hT' b o e) (fun b o e => upd_keep hT b o e) x2 (fun b o e => by
                by_cases q : b = T1
                · subst q; exact .inr hT
                · rw [upd_ne q] at e; exact .inl e)
              -- the new list is beside the slots, all the way
              obtain ⟨vs0, eD, rA, nA⟩ := p'.pend
              refine hg _ _ Em R' (L2.wipe σ w) st' (.ref T1) (.tup [.int ((kk + i : Nat) : Int), d]) _ (p2.put rx) ?_
              cases eg : g (.tup [.int ((kk + i : Nat) : Int), d]) st' with
              | fail => rw [eg] at hnf; exact hnf rfl
              | exc x0 st2 => rw [eg] at hnf; exact hnf rfl
              | ok a st2 =>
                rw [eg] at ef hnf
                intro Hf3 H3 R3 σ3 t3 p3 k3
                have ew : L2.wipe σ3 w = L2.wipe σ w := by rw [wipe_lk k3, wipe_wipe]
                refine ⟨ew, ?_⟩
                refine ht Hf3 H3 R3 σ3 st2 _ p3 ?_
                dsimp only [Res.bind, Res.noX] at ef hnf
                cases et : mt st2 with
                | fail => rw [et] at hnf; exact hnf rfl
                | exc x0 st4 => rw [et] at hnf; exact hnf rfl
                | ok k st4 =>
                  rw [et] at ef hnf
                  dsimp only at ef hnf
                  intro Hf4 H4 R4 t4 p4
                  have tA := (t2.trans t3).trans t4
                  have pAcc : PR ca X.K Hf' H' (fun b => b = Dl ∨ A b) True R' (L2.wipe σ w) st' := p'.imp fun _ => trivial
                  cases k with
                  | false =>
                    rw [if_neg (by decide)] at ef hnf
                    obtain ⟨c1, c2, c3, c4, c5⟩ := PR.carry (ppf := fun _ _ => True) pAcc tA p4
                    refine ⟨Hf4, R4, wipeS st4 w, A, acc, (t'.trans c5).less (fun b q => ?_), ⟨?_⟩, ef⟩
                    · rcases q with q | q
                      · exact .inl (.inl q)
                      · exact .inr q
                    · have p5 : PR ca X.K Hf4 H4 (fun b => b = Dl ∨ A b) (∃ vs, H4 Dl = some (.lst vs) ∧ RepL ca X.K Hf4 H4 A vs acc ∧ ¬ A Dl) R4 σ3 st4 :=
                        ⟨⟨vs0, c1 Dl (.inl rfl) _ eD, rA.keep tA.fx (fun b q => c1 b (.inr q)), nA⟩, p4.len, p4.at_, p4.dj, c3, c4.mono fun b q => by
                          rcases q with q | q
                          · exact .inl (.inl q)
                          · exact .inr q⟩
                      have := p5.wipe w
                      rw [ew] at this
                      exact this
                  | true =>
                    show te σ3 H4 _
                    rw [if_pos rfl] at ef hnf
                    refine he Hf4 H4 R4 σ3 st4 _ p4 ?_
                    cases ee : me st4 with
                    | fail => rw [ee] at hnf; exact hnf rfl
                    | exc x0 st5 => rw [ee] at hnf; exact hnf rfl
                    | ok y st5 =>
                      rw [ee] at ef hnf
                      dsimp only at ef hnf
                      intro Hf5 H5 P5 R5 vy t5 p5
                      obtain ⟨c1, c2, c3, c4, c5⟩ := PR.carry (ppf := fun _ _ => True) pAcc (tA.trans t5) p5
                      by_cases hl : acc.length < 16777216
                      · rw [if_pos hl] at ef hnf
                        have eD5 := c1 Dl (.inl rfl) _ eD
                        have rA5 := rA.keep (tA.trans t5).fx (fun b q => c1 b (.inr q))
                        refine ⟨vs0, eD5, by rw [rA.length, ← sz_eq]; exact hl, Hf5, R5, wipeS st5 w, fun b => A b ∨ P5 b, acc ++ [y], ?_, ⟨?_⟩, ef⟩
                        · refine ((t'.trans c5).trans ⟨fun _ _ e => e, fun b o e n => ?_, fun b q => .inl q, fun _ _ e => .inl e⟩).less fun b q => ?_
                          · rw [upd_ne fun z => n (.inl (.inl (.inl z)))]; exact e
                          · rcases q with (q | q | q) | q
                            · exact .inl (.inl (.inl q))
                            · exact .inl (.inl (.inr q))
                            · exact .inl (.inr q)
                            · exact .inr q
                        · have hnD : ∀ b, (A b ∨ P5 b) → b ≠ Dl := fun b q z => by
                            subst z
                            rcases q with q | q
                            · exact nA q
                            · exact c2 b (.inl rfl) q
                          have hk : ∀ b o, b ≠ Dl → H5 b = some o → upd H5 Dl (.lst (vs0 ++ [vy])) b = some o := fun b o n e => by rw [upd_ne n]; exact e
                          have rN := (repL_snoc rA5 p5.pend fun b q1 q2 => c2 b (.inr q1) q2).keep (H' := upd H5 Dl (.lst (vs0 ++ [vy]))) (fun _ _ e => e) fun b q o e => hk b o (hnD b q) e
                          have p6 : PR ca X.K Hf5 (upd H5 Dl (.lst (vs0 ++ [vy]))) (fun b => b = Dl ∨ A b ∨ P5 b) (∃ vs, (upd H5 Dl (.lst (vs0 ++ [vy]))) Dl = some (.lst vs) ∧ RepL ca X.K Hf5 (upd H5 Dl (.lst (vs0 ++ [vy]))) (fun b => A b ∨ P5 b) vs (acc ++ [y]) ∧ ¬ (A Dl ∨ P5 Dl)) R5 σ3 st5 :=
                            ⟨⟨_, upd_same, rN, fun q => hnD Dl q rfl⟩, p5.len, fun k d e => by
                              obtain ⟨v, e1, r⟩ := p5.at_ k d e
                              exact ⟨v, e1, r.keep (fun _ _ e => e) fun b q o e => hk b o (fun z => c3 k b (.inl z) q) e⟩, p5.dj, fun k b q1 q2 => by
                              rcases q1 with q | q | q
                              · exact c3 k b (.inl q) q2
                              · exact c3 k b (.inr q) q2
                              · exact p5.dp k b q q2, ⟨fun b o e => by
                                by_cases z : b = Dl
                                · subst z
                                  have := c4.nf b (.inl (.inl (.inl rfl)))
                                  rw [this] at e; cases e
                                · exact hk b o z (c4.ex b o e), fun b q => by
                                by_cases z : b = Dl
                                · subst z; exact ⟨_, upd_same⟩
                                · obtain ⟨o, e⟩ := c4.dm b (by
                                    rcases q with (q | q | q) | q
                                    · exact .inl (.inl (.inl q))
                                    · exact .inl (.inl (.inr q))
                                    · exact .inl (.inr q)
                                    · exact .inr q)
                                  exact ⟨o, hk b o z e⟩, fun b q => c4.nf b (by
                                    rcases q with (q | q | q) | q
                                    · exact .inl (.inl (.inl q))
                                    · exact .inl (.inl (.inr q))
                                    · exact .inl (.inr q)
                                    · exact .inr q)⟩⟩
                          have := p6.wipe w
                          rw [ew] at this
                          exact this
                      · rw [if_neg hl] at hnf; exact (hnf rfl).elim
          | _ => exact (hnf (by unfold compK; rw [gs'])).elim
    | _ => exact (nf (by unfold compK; rw [nw, gs])).elim
theorem lc_cerK {i0 kk : Nat} {tg elt iter : Expr} {scope : Scope} {t : TG} {g : MG} {me : ME} {w : List Nat}
    (hv : PI X tg iter (iEnumV X.K i0 kk)) (hw : i0 ∉ w) (hg : ∀ n s H C cl fp, CG ca (bk X scope s H C cl fp) (but n w) tg t g) (he : ∀ s H C cl fp, CE ca (bk X scope s H C cl fp) elt me) : CER ca X (tLc (iEnumV X.K i0 kk) t tYes (TeB X scope elt) w) (eLcK i0 kk g tYesM me w) :=
  fun Hf H R σ st Q p h => lc_readK (kk := kk) (mt := tYesM) hw (fun Hf H P R σ st v d Q p h => (hg σ.length {} H 0 [] []).2 Hf H P R σ st v d Q p h) (fun Hf H R σ st Q p h => h Hf H R (Tr.refl fun _ q => q) p)
    (fun Hf H R σ st Q p h s H0 C cl fp => he s H0 C cl fp Hf H R σ st Q p (by
      cases e : me st with
      | ok d st1 => rw [e] at h; exact h
      | exc x st1 => rw [e] at h; exact h.elim
      | fail => rw [e] at h; exact h)) p h
theorem lc_cerKIf {i0 kk : Nat} {tg elt iter c : Expr} {scope : Scope} {t : TG} {g : MG} {me : ME} {mt : MT} {w : List Nat}
    (hv : PI X tg iter (iEnumV X.K i0 kk)) (hw : i0 ∉ w) (hg : ∀ n s H C cl fp, CG ca (bk X scope s H C cl fp) (but n w) tg t g) (ht : ∀ s H C cl fp, CT ca (bk X scope s H C cl fp) c mt) (he : ∀ s H C cl fp, CE ca (bk X scope s H C cl fp) elt me) : CER ca X (tLc (iEnumV X.K i0 kk) t (TtB X scope c) (TeB X scope elt) w) (eLcK i0 kk g mt me w) :=
  fun Hf H R σ st Q p h => lc_readK (kk := kk) (mt := mt) hw (fun Hf H P R σ st v d Q p h => (hg σ.length {} H 0 [] []).2 Hf H P R σ st v d Q p h) (fun Hf H R σ st Q p h s H0 C cl fp => ht s H0 C cl fp Hf H R σ st Q p (by
      cases e : mt st with
      | ok d st1 => rw [e] at h; exact h
      | exc x st1 => rw [e] at h; exact h.elim
      | fail => rw [e] at h; exact h))
    (fun Hf H R σ st Q p h s H0 C cl fp => he s H0 C cl fp Hf H R σ st Q p (by
      cases e : me st with
      | ok d st1 => rw [e] at h; exact h
      | exc x st1 => rw [e] at h; exact h.elim
      | fail => rw [e] at h; exact h)) p h
theorem ce_lcK {i0 kk : Nat} {tg elt iter : Expr} {scope : Scope} {own : List (Str × Nat)} {pos : Pos} {t : TG} {g : MG} {me : ME} (hc : X.calm = true) (hN : X.N.Nodup) (hv : PI X tg iter (iEnumV X.K i0 kk)) (hw : i0 ∉ own.map (·.2)) (ok : BlkOk X.N X.env.scope scope own)
    (hg : ∀ n s H C cl fp, CG ca (bk X scope s H C cl fp) (but n (own.map (·.2))) tg t g) (he : ∀ s H C cl fp, CE ca (bk X scope s H C cl fp) elt me) (hs : ∀ x, foldedSetIterable iter X.env x = pure x := by intro _; rfl) :
    CE ca X (.ListComp elt [⟨tg, iter, [], 0⟩] scope pos) (eLcK i0 kk g tYesM me (own.map (·.2))) :=
  ce_of (pe_lc hc hN hv ok (fun s H C cl fp => (hg 0 s H C cl fp).1) (fun _ _ _ _ _ => pts_nil) pe_teB hs) (lc_cerK hv hw hg he)
theorem ce_lcKIf {i0 kk : Nat} {tg elt iter c : Expr} {scope : Scope} {own : List (Str × Nat)} {pos : Pos} {t : TG} {g : MG} {me : ME} {mt : MT} (hc : X.calm = true) (hN : X.N.Nodup) (hv : PI X tg iter (iEnumV X.K i0 kk)) (hw : i0 ∉ own.map (·.2)) (ok : BlkOk X.N X.env.scope scope own)
    (hg : ∀ n s H C cl fp, CG ca (bk X scope s H C cl fp) (but n (own.map (·.2))) tg t g) (ht : ∀ s H C cl fp, CT ca (bk X scope s H C cl fp) c mt) (he : ∀ s H C cl fp, CE ca (bk X scope s H C cl fp) elt me) (hs : ∀ x, foldedSetIterable iter X.env x = pure x := by intro _; rfl) :
    CE ca X (.ListComp elt [⟨tg, iter, [c], 0⟩] scope pos) (eLcK i0 kk g mt me (own.map (·.2))) :=
  ce_of (pe_lc hc hN hv ok (fun s H C cl fp => (hg 0 s H C cl fp).1) pt_ttB pe_teB hs) (lc_cerKIf hv hw hg ht he)

end
end DL

/-! DL63: the steps walked backwards from the ascending list; the hardest list. -/
namespace Nw
open DL
def lit (l : List Int) (s : Int) : Bool := decide (l.getD (s - 1).toNat 0 < l.getD s.toNat 0)
/-- the greater number to the left -/
def stpU (l : List Int) (s : Int) : List Int := if lit l s then xch l s else l
theorem stpU_eq {l : List Int} {s : Int} (h1 : 1 ≤ s) (h2 : s < l.length) : ∃ a x y r, l = a ++ x :: y :: r ∧ a.length + 1 = s.toNat ∧ stpU l s = a ++ max x y :: min x y :: r := by
  obtain ⟨a, r, e, ha⟩ := split2 (l := l) (i := (s - 1).toNat) (by omega)
  have hx := xch_split (p := a) (r := r) (a := l.getD (s - 1).toNat 0) (b := l.getD ((s - 1).toNat + 1) 0) h1 (by omega)
  rw [← e] at hx
  refine ⟨a, _, _, r, e, by omega, ?_⟩
  unfold stpU lit
  rw [show s.toNat = (s - 1).toNat + 1 by omega]
  by_cases h : l.getD (s - 1).toNat 0 < l.getD ((s - 1).toNat + 1) 0
  · rw [decide_eq_true h, if_pos rfl, hx, Int.max_eq_right (by omega), Int.min_eq_left (by omega)]
  · rw [decide_eq_false h, if_neg (by decide), Int.max_eq_left (by omega), Int.min_eq_right (by omega)]
    exact e
theorem stpU_len {l : List Int} {s : Int} : (stpU l s).length = l.length := by
  unfold stpU xch
  split
  · rw [List.length_set, List.length_set]
  · rfl
theorem stpU_perm {l : List Int} {s : Int} (h1 : 1 ≤ s) (h2 : s < l.length) : (stpU l s).Perm l := by
  obtain ⟨a, x, y, r, e, ha, hs⟩ := stpU_eq h1 h2
  rw [hs, e]
  by_cases h : x ≤ y
  · rw [Int.max_eq_right h, Int.min_eq_left h]; exact xch_perm x y
  · rw [Int.max_eq_left (by omega), Int.min_eq_right (by omega)]
theorem cp_stpU {l : List Int} {s : Int} (h1 : 1 ≤ s) (h2 : s < l.length) (t : Int) (p : Nat) :
    cp t (stpU l s) p = if p = s.toNat then max (cp t l (s.toNat - 1)) (cp t l (s.toNat + 1) - 1) else cp t l p := by
  obtain ⟨a, x, y, r, e, ha, hs⟩ := stpU_eq h1 h2
  rw [hs, e, ← ha]
  have m1 := sm_min t x y
  have m2 := sm_max t x y
  have m3 := sm_le t x
  have m4 := sm_le t y
  simp only [cp_mid, Nat.add_sub_cancel, Nat.le_refl, if_true]
  rw [if_neg (show ¬ a.length + 1 + 1 ≤ a.length by omega), if_neg (show ¬ a.length + 1 + 1 = a.length + 1 by omega), show a.length + 1 + 1 - a.length - 2 = 0 by omega, cp_0]
  by_cases c1 : p ≤ a.length
  · rw [if_pos c1, if_neg (by omega), if_pos c1]
  · rw [if_neg c1]
    by_cases c2 : p = a.length + 1
    · rw [if_pos c2, if_pos c2]; omega
    · rw [if_neg c2, if_neg c2, if_neg c1, if_neg c2]; omega
def backU (ss m : List Int) : List Int := ss.foldr (fun s m => stpU m s) m
theorem backU_len : ∀ (ss m : List Int), (backU ss m).length = m.length
  | [], _ => rfl
  | s :: ss, m => by
    show (stpU (backU ss m) s).length = _
    rw [stpU_len, backU_len ss m]
theorem backU_perm : ∀ (ss : List Int) {m : List Int}, okS m.length ss → (backU ss m).Perm m
  | [], _, _ => List.Perm.refl _
  | s :: ss, m, h => by
    have a := h s List.mem_cons_self
    exact (stpU_perm (l := backU ss m) a.1 (by rw [backU_len]; omega)).trans (backU_perm ss fun x hx => h x (List.mem_cons_of_mem _ hx))
/-- the network sorts what stands at least as far in front -/
theorem back_reach : ∀ (ss : List Int) {m : List Int}, okS m.length ss → dom (runL ss (backU ss m)) m
  | [], _, _ => dom_refl _
  | s :: ss, m, h => by
    have a := h s List.mem_cons_self
    have h' : okS m.length ss := fun x hx => h x (List.mem_cons_of_mem _ hx)
    have hl := backU_len ss m
    have up : dom (stp (stpU (backU ss m) s) s) (backU ss m) := fun t p => by
      rw [cp_stp a.1 (by rw [stpU_len, hl]; omega)]
      by_cases hp : p = s.toNat
      · rw [if_pos hp, cp_stpU a.1 (by rw [hl]; omega), cp_stpU a.1 (by rw [hl]; omega), if_neg (by omega), if_neg (by omega), hp]
        have u := cp_mono t (backU ss m) s.toNat
        have v := cp_mono t (backU ss m) (s.toNat - 1)
        rw [show s.toNat - 1 + 1 = s.toNat by omega] at v
        omega
      · rw [if_neg hp, cp_stpU a.1 (by rw [hl]; omega), if_neg hp]
        exact Nat.le_refl _
    have := dom_run ss (l := stp (stpU (backU ss m) s) s) (m := backU ss m) (by rw [stp_len, stpU_len, hl]; exact h') (by rw [stp_len, stpU_len]) up
    exact dom_trans this (back_reach ss h')
/-- what it sorts stands at least as far in front -/
theorem back_least : ∀ (ss : List Int) {l m : List Int}, okS l.length ss → l.length = m.length → dom (runL ss l) m → dom l (backU ss m)
  | [], _, _, _, _, h => h
  | s :: ss, l, m, hs, hl, h => by
    have a := hs s List.mem_cons_self
    have ih := back_least ss (l := stp l s) (m := m) (by rw [stp_len]; exact fun x hx => hs x (List.mem_cons_of_mem _ hx)) (by rw [stp_len, hl]) h
    intro t p
    show cp t (stpU (backU ss m) s) p ≤ _
    rw [cp_stpU a.1 (by rw [backU_len]; omega)]
    have e : ∀ q, q ≠ s.toNat → cp t (backU ss m) q ≤ cp t l q := fun q hq => by
      have := ih t q
      rw [cp_stp a.1 (by omega), if_neg hq] at this
      exact this
    by_cases hp : p = s.toNat
    · rw [if_pos hp, hp]
      have u := cp_mono t l s.toNat
      have v := cp_mono t l (s.toNat - 1)
      rw [show s.toNat - 1 + 1 = s.toNat by omega] at v
      have e1 := e (s.toNat - 1) (by omega)
      have e2 := e (s.toNat + 1) (by omega)
      omega
    · rw [if_neg hp]
      exact e p hp
/-! ### the ascending list -/
def asc (w : Nat) : List Int := (List.range w).map fun (i : Nat) => (1 : Int) + i
theorem asc_len (w : Nat) : (asc w).length = w := by unfold asc; rw [List.length_map, List.length_range]
theorem asc_succ (w : Nat) : asc (w + 1) = asc w ++ [((w + 1 : Nat) : Int)] := by
  unfold asc
  rw [List.range_succ, List.map_append, List.map_singleton, show (1 : Int) + (w : Int) = ((w + 1 : Nat) : Int) by omega]
theorem asc_rev : ∀ w, (asc w).reverse = desc w
  | 0 => rfl
  | w + 1 => by rw [asc_succ, List.reverse_append, desc, asc_rev w]; rfl
theorem asc_perm (w : Nat) : (asc w).Perm (desc w) := by rw [← asc_rev]; exact (List.reverse_perm _).symm
theorem asc_asc (w : Nat) : ascB (asc w) = true := by
  apply pair_asc
  unfold asc
  rw [List.pairwise_map]
  exact List.pairwise_lt_range.imp fun h => by omega
theorem cp_split (t : Int) (l : List Int) (p : Nat) : cp t l l.length = cp t l p + ((l.drop p).filter fun x => decide (x ≤ t)).length := by
  unfold cp
  rw [List.take_length]
  conv => lhs; rw [← List.take_append_drop p l]
  rw [List.filter_append, List.length_append]
theorem cp_rev (t : Int) (l : List Int) (p : Nat) : cp t l.reverse p + cp t l (l.length - p) = cp t l l.length := by
  rw [cp_split t l (l.length - p)]
  unfold cp
  rw [List.take_reverse, List.filter_reverse, List.length_reverse]
  omega
theorem dom_asc {w : Nat} {l : List Int} (hp : l.Perm (desc w)) (h : dom l (asc w)) : l = asc w := by
  have hl : l.length = w := by rw [hp.length_eq, desc_len]
  have pm : l.Perm (asc w) := hp.trans (asc_perm w).symm
  have e : l.reverse = desc w := by
    refine dom_base w _ ((List.reverse_perm l).trans hp) fun t p => ?_
    have u1 := cp_rev t l p
    have u2 := cp_rev t (asc w) p
    have u3 := cp_perm (t := t) (p := w) pm (by omega)
    have u4 := h t (w - p)
    rw [hl] at u1
    rw [asc_len, asc_rev] at u2
    omega
  rw [← asc_rev] at e
  exact List.reverse_inj.mp e
theorem asc_dom {w : Nat} {l : List Int} (hp : l.Perm (desc w)) (h : ascB l = true) : dom l (asc w) := fun t p => by
  have hl : l.length = w := by rw [hp.length_eq, desc_len]
  have pm : l.Perm (asc w) := hp.trans (asc_perm w).symm
  have u := asc_cp h t p
  rw [hl, cp_perm (t := t) (p := w) pm (by omega)] at u
  have v := cp_split t (asc w) p
  rw [asc_len] at v
  have v2 : cp t (asc w) p ≤ p := by
    unfold cp
    have := List.length_filter_le (fun x => decide (x ≤ t)) ((asc w).take p)
    rw [List.length_take] at this
    omega
  omega
/-- the hardest list -/
def hard (w : Nat) (ss : List Int) : List Int := backU ss (asc w)
theorem hard_len (w : Nat) (ss : List Int) : (hard w ss).length = w := by unfold hard; rw [backU_len, asc_len]
theorem hard_perm {w : Nat} {ss : List Int} (h : okS w ss) : (hard w ss).Perm (desc w) := (backU_perm ss (m := asc w) (by rw [asc_len]; exact h)).trans (asc_perm w)
theorem hard_fold (w : Nat) (ss : List Int) : ss.reverse.foldl stpU (asc w) = hard w ss := List.foldl_reverse
theorem hard_sorted {w : Nat} {ss : List Int} (h : okS w ss) : ascB (runL ss (hard w ss)) = true := by
  have hl := hard_len w ss
  have r := back_reach ss (m := asc w) (by rw [asc_len]; exact h)
  have p := (runPerm ss (l := hard w ss) (by rw [hl]; exact h)).trans (hard_perm h)
  rw [dom_asc p r]
  exact asc_asc w
/-- what stands in front of the hardest list is what is sorted -/
theorem hard_iff {w : Nat} {ss l : List Int} (h : okS w ss) (hp : l.Perm (desc w)) : ascB (runL ss l) = true ↔ dom l (hard w ss) := by
  have hl : l.length = w := by rw [hp.length_eq, desc_len]
  have pm := (runPerm ss (l := l) (by rw [hl]; exact h)).trans hp
  constructor
  · exact fun q => back_least ss (by rw [hl]; exact h) (by rw [hl, asc_len]) (asc_dom pm q)
  · intro q
    have r := back_reach ss (m := asc w) (by rw [asc_len]; exact h)
    have d := dom_run ss (l := l) (m := hard w ss) (by rw [hl]; exact h) (by rw [hl, hard_len]) q
    rw [dom_asc pm (dom_trans d r)]
    exact asc_asc w
theorem harder {w : Nat} {ss : List Int} (h : okS w ss) {s : Int} (h1 : 1 ≤ s) (h2 : s < w) (q : lit (hard w ss) s = true) : ascB (runL ss (xch (hard w ss) s)) = false := by
  cases e : ascB (runL ss (xch (hard w ss) s)) with
  | false => rfl
  | true =>
    exfalso
    have hl := hard_len w ss
    obtain ⟨a, x, y, r, e1, ha, _, hx⟩ := at_step (l := hard w ss) h1 (by omega)
    have pm : (xch (hard w ss) s).Perm (desc w) := by
      have := hard_perm h
      rw [hx]
      rw [e1] at this
      exact (xch_perm x y).trans this
    have d := (hard_iff h pm).mp e x (a.length + 1)
    have hlt : x < y := by
      have b1 : (hard w ss).getD (s - 1).toNat 0 = x := by
        rw [e1, show (s - 1).toNat = a.length by omega]
        simp [List.getD_eq_getElem?_getD]
      have b2 : (hard w ss).getD s.toNat 0 = y := by
        rw [e1, ← ha]
        simp [List.getD_eq_getElem?_getD]
      unfold lit at q
      rw [b1, b2] at q
      exact of_decide_eq_true q
    rw [hx, e1, cp_mid, cp_mid, if_neg (show ¬ a.length + 1 ≤ a.length by omega), if_pos rfl, if_neg (show ¬ a.length + 1 ≤ a.length by omega), if_pos rfl] at d
    unfold sm at d
    rw [if_pos (Int.le_refl x), if_neg (show ¬ y ≤ x by omega)] at d
    omega
theorem xch_cut {l : List Int} {s : Int} (h1 : 1 ≤ s) (h2 : s < l.length) : l.take (s - 1).toNat ++ [l.getD s.toNat 0, l.getD (s - 1).toNat 0] ++ l.drop (s + 1).toNat = xch l s := by
  obtain ⟨a, x, y, r, e1, ha, _, hx⟩ := at_step h1 h2
  rw [hx, e1, show (s - 1).toNat = a.length by omega, ← ha, show (s + 1).toNat = a.length + 2 by omega]
  rw [List.take_left, List.drop_append, List.drop_eq_nil_of_le (by omega), show a.length + 2 - a.length = 2 by omega]
  simp [List.getD_eq_getElem?_getD]
end Nw

/-! DL64: enumerate of a slot's list, evaluated. -/
namespace DL
open PySem (Str)
open Nw
theorem compK_go {α : Type} {i0 kk : Nat} {vs : List Nat} {g : MG} {t : MT} {e : ME} {st : Sl} {o : Bool} (enc : α → D) (φ : α × Nat → D) (p : α × Nat → Bool) (l : List α) (hc : ∀ x, hot (enc x) = false) (h0 : getS st i0 = some (.lst o (l.map enc)))
    (step : ∀ (x : α) (k : Nat), l[k]? = some x → ∃ s1, g (.tup [.int ((kk + k : Nat) : Int), enc x]) st = .ok () s1 ∧ t s1 = .ok (p (x, kk + k)) s1 ∧ wipeS s1 vs = st ∧ (p (x, kk + k) = true → e s1 = .ok (φ (x, kk + k)) s1)) :
    ∀ (r : List α) (k : Nat) (acc : List D), l.drop k = r → acc.length + r.length ≤ 16777216 → compK i0 kk g t e vs (r.length + 1) k st acc = .ok (acc ++ ((r.zipIdx (kk + k)).filter p).map φ) st
  | [], k, acc, hr, _ => by
    have hk : l.length ≤ k := List.drop_eq_nil_iff.mp hr
    rw [compK, h0]
    dsimp only
    rw [List.getElem?_eq_none (by rw [List.length_map]; exact hk), List.zipIdx_nil, List.filter_nil, List.map_nil, List.append_nil]
  | x :: r, k, acc, hr, hl => by
    have hx : l[k]? = some x := by
      have := congrArg (fun z => z[0]?) hr
      simpa using this
    have hr' : l.drop (k + 1) = r := by
      rw [← List.tail_drop, hr]
      rfl
    obtain ⟨s1, e1, e2, e3, e4⟩ := step x k hx
    rw [List.length_cons] at hl
    rw [List.length_cons, compK, h0]
    dsimp only
    rw [List.getElem?_map, hx]
    dsimp only [Option.map_some]
    rw [if_neg (by rw [hc]; decide), e1]
    dsimp only [Res.noX, Res.bind]
    rw [e2]
    dsimp only
    rw [List.zipIdx_cons]
    cases hp : p (x, kk + k) with
    | false =>
      rw [if_neg (by decide), e3, compK_go enc φ p l hc h0 step r (k + 1) acc hr' (by omega), List.filter_cons_of_neg (by rw [hp]; decide)]
      rfl
    | true =>
      rw [if_pos rfl, e4 hp]
      dsimp only
      rw [if_pos (by omega), e3, compK_go enc φ p l hc h0 step r (k + 1) (acc ++ [φ (x, kk + k)]) hr' (by rw [List.length_append, List.length_singleton]; omega), List.filter_cons_of_pos hp, List.map_cons, List.append_assoc]
      rfl
theorem xLcK {α : Type} {i0 kk : Nat} {vs : List Nat} {g : MG} {t : MT} {e : ME} {st st2 : Sl} {o : Bool} (enc : α → D) (φ : α × Nat → D) (p : α × Nat → Bool) (l : List α) (hc : ∀ x, hot (enc x) = false) (hi : i0 ∉ vs) (h0 : getS st i0 = some (.lst o (l.map enc))) (hl : l.length ≤ 16777216) (hw : wipeS st vs = st2)
    (step : ∀ (x : α) (k : Nat), l[k]? = some x → ∃ s1, g (.tup [.int ((kk + k : Nat) : Int), enc x]) st2 = .ok () s1 ∧ t s1 = .ok (p (x, kk + k)) s1 ∧ wipeS s1 vs = st2 ∧ (p (x, kk + k) = true → e s1 = .ok (φ (x, kk + k)) s1))
    {out : List D} (ho : ((l.zipIdx kk).filter p).map φ = out) : eLcK i0 kk g t e vs st = .ok (.lst true out) st2 := by
  subst ho hw
  have h0' : getS (wipeS st vs) i0 = some (.lst o (l.map enc)) := by rw [wipeS_keep hi, h0]
  have := compK_go (vs := vs) (t := t) (e := e) (g := g) enc φ p l hc h0' step l 0 [] rfl (by rw [List.length_nil]; omega)
  unfold eLcK
  rw [lenS_of h0, List.length_map]
  show (compK i0 kk g t e vs (l.length + 1) 0 (wipeS st vs) []).bind _ = _
  rw [this]
  rfl
end DL

namespace Lw30
open PySem PySem.Spec PyProof.Rows L2 DL
/-! ### the text -/
def topS (i : Nat) : Stmt := PySem.Challenge.pw_nearswap_k30_hardest_lists.main.body.getD i (.Pass ⟨0, 0, 0, 0⟩)
abbrev s__law_source : Stmt := topS 17
theorem sc__law_source : FnScope ["_law_script", "_law_k", "_law_cell", "_law_size", "_law_mixed"] ["_law_script", "_law_k"] (defScope s__law_source) := ⟨rfl, rfl, rfl, by decide +kernel, rfl, by decide +kernel, by decide +kernel⟩
abbrev s__law_draw : Stmt := topS 18
theorem sc__law_draw : FnScope ["_law_source_here", "_law_count", "_law_result_here"] ["_law_source_here", "_law_count"] (defScope s__law_draw) := ⟨rfl, rfl, rfl, by decide +kernel, rfl, by decide +kernel, by decide +kernel⟩
abbrev s_is_integer : Stmt := topS 7
theorem sc_is_integer : FnScope ["value", "low", "high"] ["value", "low", "high"] (defScope s_is_integer) := ⟨rfl, rfl, rfl, by decide +kernel, rfl, by decide +kernel, by decide +kernel⟩
abbrev s_check_width : Stmt := topS 9
theorem sc_check_width : FnScope ["width"] ["width"] (defScope s_check_width) := ⟨rfl, rfl, rfl, by decide +kernel, rfl, by decide +kernel, by decide +kernel⟩
abbrev s_check_steps : Stmt := topS 10
theorem sc_check_steps : FnScope ["width", "steps", "index", "step"] ["width", "steps"] (defScope s_check_steps) := ⟨rfl, rfl, rfl, by decide +kernel, rfl, by decide +kernel, by decide +kernel⟩
abbrev s_Network___init__ : Stmt := inClass (topS 11) 2
theorem sc_Network___init__ : FnScope ["self", "width", "steps"] ["self", "width", "steps"] (defScope s_Network___init__) := ⟨rfl, rfl, rfl, by decide +kernel, rfl, by decide +kernel, by decide +kernel⟩
abbrev s_Network_backwards : Stmt := inClass (topS 11) 10
theorem sc_Network_backwards : FnScope ["self"] ["self"] (defScope s_Network_backwards) := ⟨rfl, rfl, rfl, by decide +kernel, rfl, by decide +kernel, by decide +kernel⟩
abbrev s_hardest : Stmt := topS 13
theorem sc_hardest : FnScope ["network", "values", "step"] ["network"] (defScope s_hardest) := ⟨rfl, rfl, rfl, by decide +kernel, rfl, by decide +kernel, by decide +kernel⟩
abbrev s__law_hardest : Stmt := topS 22
theorem sc__law_hardest : FnScope ["_law_steps_here", "_law_width", "_law_result_here", "_law_step", "_law_left", "_law_right"] ["_law_steps_here", "_law_width"] (defScope s__law_hardest) := ⟨rfl, rfl, rfl, by decide +kernel, rfl, by decide +kernel, by decide +kernel⟩
abbrev s__law_is_ascending : Stmt := topS 21
theorem sc__law_is_ascending : FnScope ["_law_values", "_law_place"] ["_law_values"] (defScope s__law_is_ascending) := ⟨rfl, rfl, rfl, by decide +kernel, rfl, by decide +kernel, by decide +kernel⟩
abbrev s__law_result : Stmt := topS 20
theorem sc__law_result : FnScope ["_law_steps_here", "_law_values", "_law_result_here", "_law_step", "_law_left", "_law_right"] ["_law_steps_here", "_law_values"] (defScope s__law_result) := ⟨rfl, rfl, rfl, by decide +kernel, rfl, by decide +kernel, by decide +kernel⟩
abbrev s_places_up_to : Stmt := topS 14
theorem sc_places_up_to : FnScope ["values", "threshold", "place", "value"] ["values", "threshold"] (defScope s_places_up_to) := ⟨rfl, rfl, rfl, by decide +kernel, rfl, by decide +kernel, by decide +kernel⟩
abbrev s_limits : Stmt := topS 15
theorem sc_limits : FnScope ["network", "values", "count"] ["network"] (defScope s_limits) := ⟨rfl, rfl, rfl, by decide +kernel, rfl, by decide +kernel, by decide +kernel⟩
abbrev s__law_holds : Stmt := topS 23
theorem sc__law_holds : FnScope ["_law_width", "_law_steps_here", "_law_network", "_law_values", "_law_places", "_law_place", "_law_harder", "_law_before", "_law_count", "_law_value"] ["_law_width", "_law_steps_here"] (defScope s__law_holds) := ⟨rfl, rfl, rfl, by decide +kernel, rfl, by decide +kernel, by decide +kernel⟩
abbrev s__law_steps : Stmt := topS 19
theorem sc__law_steps : FnScope ["_law_source_here", "_law_width", "_law_most", "_law_way", "_law_result_here", "_law_turn", "_law_step"] ["_law_source_here", "_law_width", "_law_most"] (defScope s__law_steps) := ⟨rfl, rfl, rfl, by decide +kernel, rfl, by decide +kernel, by decide +kernel⟩
abbrev s_Network_empty : Stmt := inClass (topS 11) 5
theorem sc_Network_empty : FnScope ["cls", "width"] ["cls", "width"] (defScope s_Network_empty) := ⟨rfl, rfl, rfl, by decide +kernel, rfl, by decide +kernel, by decide +kernel⟩
abbrev s_Network_full : Stmt := inClass (topS 11) 6
theorem sc_Network_full : FnScope ["cls", "width", "last", "step"] ["cls", "width"] (defScope s_Network_full) := ⟨rfl, rfl, rfl, by decide +kernel, rfl, by decide +kernel, by decide +kernel⟩
abbrev s_law : Stmt := topS 24
theorem sc_law : FnScope ["_law_script", "_law_k", "_law_source_here", "_law_width"] ["_law_script"] (defScope s_law) := ⟨rfl, rfl, rfl, by decide +kernel, rfl, by decide +kernel, by decide +kernel⟩
abbrev s_Network_steps : Stmt := inClass (topS 11) 4
theorem sc_Network_steps : FnScope ["self"] ["self"] (defScope s_Network_steps) := ⟨rfl, rfl, rfl, by decide +kernel, rfl, by decide +kernel, by decide +kernel⟩
abbrev s_Network_width : Stmt := inClass (topS 11) 3
theorem sc_Network_width : FnScope ["self"] ["self"] (defScope s_Network_width) := ⟨rfl, rfl, rfl, by decide +kernel, rfl, by decide +kernel, by decide +kernel⟩
/-! ### the meanings -/
def b__law_source : MS := (sSeq (sAsg (eOp oAdd [.v (eOp oMul [.v (eC (.int 7)), .v (eOp oSum [.v (eOp oS01 [.s 0, .v (eC (.int 63))])])]), .s 1]) (gN 2)) (sSeq (sIf (tE (eOp (f2 pLt) [.s 1, .v (eOp oLen [.s 0])])) (sAsg (eOp oIx [.s 0, .s 1]) (gN 2)) sNext) (sSeq (sAsg (eOp oAbs [.s 2]) (gN 3)) (sSeq (sAsg (eOp oMod [.v (eOp oMul [.v (eOp oAdd [.v (eOp oAdd [.v (eOp oAdd [.v (eOp oMod [.s 3, .v (eC (.int 2147483629))]), .v (eOp oMul [.v (eOp oMul [.v (eC (.int 7919)), .s 1]), .s 1])]), .v (eOp oMul [.v (eC (.int 31)), .s 1])]), .v (eC (.int 17))]), .v (eC (.int 48271))]), .v (eC (.int 2147483647))]) (gN 4)) (sRet (eLst (aCons (eOp oMul [.s 3, .v (eOp oInt [.v (eOp (f2 pGe) [.s 3, .v (eOp oPow [.v (eC (.int 10)), .v (eC (.int 18))])])])]) (aCons (eOp oMod [.v (eOp oMul [.s 4, .s 4]), .v (eC (.int 2147483629))]) aNil))))))))
def m__law_source : MF := fn 2 5 [0, 1] b__law_source
def b__law_draw : MS := (sSeq (sIf (tE (eOp (f2 pGt) [.v (eOp oIx [.s 0, .v (eC (.int 0))]), .v (eC (.int 0))])) (sSeq (sAsg (eOp oMod [.v (eOp oIx [.s 0, .v (eC (.int 0))]), .s 1]) (gN 2)) (sSeq (sAsg (eOp oDiv [.v (eOp oIx [.s 0, .v (eC (.int 0))]), .s 1]) (gIx 0 (eC (.int 0)))) (sRet (eMv 2)))) sNext) (sSeq (sAsg (eOp oMod [.v (eOp oAdd [.v (eOp oMul [.v (eOp oIx [.s 0, .v (eC (.int 1))]), .v (eC (.int 48271))]), .v (eC (.int 11))]), .v (eC (.int 2147483647))]) (gIx 0 (eC (.int 1)))) (sRet (eOp oMod [.v (eOp oDiv [.v (eOp oMod [.v (eOp oMul [.v (eOp oIx [.s 0, .v (eC (.int 1))]), .v (eOp oIx [.s 0, .v (eC (.int 1))])]), .v (eC (.int 2147483629))]), .v (eC (.int 16))]), .s 1]))))
def m__law_draw : MF := fn 2 3 [0, 1] b__law_draw
def b_is_integer : MS := (sRet (eAnd (eOp (oIsiB "int") [.s 0, .v (eC (.ty "int"))]) (eAnd (eNot (eOp (oIsiB "bool") [.s 0, .v (eC (.ty "bool"))])) (eChain pLe pLe (eN 1) (eN 0) (eN 2)))))
def m_is_integer : MF := fn 3 3 [0, 1, 2] b_is_integer
def b_check_width : MS := (sIf (tNotM (tE (eCall m_is_integer (aCons (eN 0) (aCons (eC (.int 1)) (aCons (eC (.int 40)) aNil)))))) sFail sNext)
def m_check_width : MF := fn 1 1 [0] b_check_width
def fg1_check_steps : MG := (gT [(gN 2), (gN 3)])
def fb1_check_steps : MS := (sIf (tNotM (tE (eCall m_is_integer (aCons (eN 3) (aCons (eC (.int 1)) (aCons (eOp oSub [.s 0, .v (eC (.int 1))]) aNil)))))) sFail sNext)
def b_check_steps : MS := (sSeq (sIf (tOrM (tNotM (tE (eOp (oIsi2 "list" "tuple") [.s 1, .v (eTup (aCons (eC (.ty "list")) (aCons (eC (.ty "tuple")) aNil)))]))) (tE (eOp (f2 pGt) [.v (eOp oLen [.s 1]), .v (eC (.int 1000))]))) sFail sNext) (sFor (iEnA (eN 1)) fg1_check_steps fb1_check_steps))
def m_check_steps : MF := fn 2 4 [0, 1] b_check_steps
def b_Network___init__ : MS := (sSeq (sExpr (eCall m_check_width (aCons (eN 1) aNil))) (sSeq (sExpr (eCall m_check_steps (aCons (eN 1) (aCons (eN 2) aNil)))) (sSeq (sFldM 0 0 "own_width" (eN 1)) (sFldM 0 0 "own_steps" (eOp oTuple [.s 2])))))
def m_Network___init__ : MF := fn 3 3 [0, 1, 2] b_Network___init__
def b_Network_backwards : MS := (sRet (eMake 0 m_Network___init__ (aCons (eOp (oFld 0 "own_width") [.s 0]) (aCons (eOp oRevA [.v (eOp (oFld 0 "own_steps") [.s 0])]) aNil))))
def m_Network_backwards : MF := fn 1 1 [0] b_Network_backwards
def fg1_hardest : MG := (gN 2)
def fb1_hardest : MS := (sIf (tE (eOp (f2 pLt) [.v (eOp oIx [.s 1, .v (eOp oSub [.s 2, .v (eC (.int 1))])]), .v (eOp oIx [.s 1, .s 2])])) (sAsg (eTup (aCons (eOp oIx [.s 1, .s 2]) (aCons (eOp oIx [.s 1, .v (eOp oSub [.s 2, .v (eC (.int 1))])]) aNil))) (gT [(gIx 1 (eOp oSub [.s 2, .v (eC (.int 1))])), (gIx 1 (eN 2))])) sNext)
def b_hardest : MS := (sSeq (sAsg (eOp oLRg [.v (eC (.int 1)), .v (eOp oAdd [.v (eOp (oFld 0 "own_width") [.s 0]), .v (eC (.int 1))])]) (gN 1)) (sSeq (sFor (iE (eOp (oFld 0 "own_steps") [.v (eMth 0 "backwards" m_Network_backwards (eN 0) aNil)]) tupItems) fg1_hardest fb1_hardest) (sRet (eMv 1))))
def m_hardest : MF := fn 1 3 [0] b_hardest
def fg1__law_hardest : MG := (gN 3)
def fb1__law_hardest : MS := (sSeq (sPar 4 5 (aCons (eOp oIx [.s 2, .v (eOp oSub [.s 3, .v (eC (.int 1))])]) (aCons (eOp oIx [.s 2, .s 3]) aNil))) (sIf (tE (eOp (f2 pLt) [.s 4, .s 5])) (sSeq (sAsg (eN 5) (gIx 2 (eOp oSub [.s 3, .v (eC (.int 1))]))) (sAsg (eN 4) (gIx 2 (eN 3)))) sNext))
def b__law_hardest : MS := (sSeq (sAsg (eOp oLRg [.v (eC (.int 1)), .v (eOp oAdd [.s 1, .v (eC (.int 1))])]) (gN 2)) (sSeq (sFor (iE (eOp oRevA [.s 0]) lstItems) fg1__law_hardest fb1__law_hardest) (sRet (eMv 2))))
def m__law_hardest : MF := fn 2 6 [0, 1] b__law_hardest
def lg1__law_is_ascending : MG := (gN 1)
def le1__law_is_ascending : ME := (eN 1)
def lt1__law_is_ascending : MT := (tE (eOp (f2 pGt) [.v (eOp oIx [.s 0, .v (eOp oSub [.s 1, .v (eC (.int 1))])]), .v (eOp oIx [.s 0, .s 1])]))
def b__law_is_ascending : MS := (sRet (eOp (f2 pEq) [.v (eLc (iR2 (eC (.int 1)) (eOp oLen [.s 0])) lg1__law_is_ascending lt1__law_is_ascending le1__law_is_ascending [1]), .v (eLst aNil)]))
def m__law_is_ascending : MF := fn 1 2 [0] b__law_is_ascending
def fg1__law_result : MG := (gN 3)
def fb1__law_result : MS := (sSeq (sPar 4 5 (aCons (eOp oIx [.s 2, .v (eOp oSub [.s 3, .v (eC (.int 1))])]) (aCons (eOp oIx [.s 2, .s 3]) aNil))) (sIf (tE (eOp (f2 pGt) [.s 4, .s 5])) (sSeq (sAsg (eN 5) (gIx 2 (eOp oSub [.s 3, .v (eC (.int 1))]))) (sAsg (eN 4) (gIx 2 (eN 3)))) sNext))
def b__law_result : MS := (sSeq (sAsg (eOp oList [.s 1]) (gN 2)) (sSeq (sFor (iE (eN 0) lstItems) fg1__law_result fb1__law_result) (sRet (eMv 2))))
def m__law_result : MF := fn 2 6 [0, 1] b__law_result
def lg1_places_up_to : MG := (gT [(gN 2), (gN 3)])
def le1_places_up_to : ME := (eN 2)
def lt1_places_up_to : MT := (tE (eOp (f2 pLe) [.s 3, .s 1]))
def b_places_up_to : MS := (sRet (eLc (iEnK (aCons (eN 0) (aCons (eC (.int 1)) aNil))) lg1_places_up_to lt1_places_up_to le1_places_up_to [2, 3]))
def m_places_up_to : MF := fn 2 4 [0, 1] b_places_up_to
def lg1_limits : MG := (gN 2)
def le1_limits : ME := (eCall m_places_up_to (aCons (eN 1) (aCons (eN 2) aNil)))
def b_limits : MS := (sSeq (sAsg (eCall m_hardest (aCons (eN 0) aNil)) (gN 1)) (sRet (eLc (iR2 (eC (.int 1)) (eOp (oFld 0 "own_width") [.s 0])) lg1_limits tYesM le1_limits [2])))
def m_limits : MF := fn 1 3 [0] b_limits
def st1__law_holds : MS := (sAsg (eMake 0 m_Network___init__ (aCons (eN 0) (aCons (eN 1) aNil))) (gN 2))
def st2__law_holds : MS := (sAsg (eCall m_hardest (aCons (eN 2) aNil)) (gN 3))
def st3__law_holds : MS := (sRet (eC (.bl false)))
def st4__law_holds : MS := (sIf (tOrM (tE (eOp (f2 pNe) [.v (eOp oRepr [.s 3]), .v (eOp oRepr [.v (eCall m__law_hardest (aCons (eN 1) (aCons (eN 0) aNil)))])])) (tNotM (tE (eCall m__law_is_ascending (aCons (eCallL m__law_result (aCons (eN 1) aNil) 3 aNil) aNil))))) st3__law_holds sNext)
def lg5__law_holds : MG := (gT [(gN 5), (gN 9)])
def le5__law_holds : ME := (eN 5)
def lt5__law_holds : MT := (tE (eOp (f2 pLe) [.s 9, .s 8]))
def lg6__law_holds : MG := (gN 8)
def le6__law_holds : ME := (eLcK 3 1 lg5__law_holds lt5__law_holds le5__law_holds [5, 9])
def st7__law_holds : MS := (sAsg (eLc (iR2 (eC (.int 1)) (eN 0)) lg6__law_holds tYesM le6__law_holds [8]) (gN 4))
def st8__law_holds : MS := (sRet (eC (.bl false)))
def st9__law_holds : MS := (sIf (tE (eOp (f2 pNe) [.v (eOp oRepr [.v (eCall m_limits (aCons (eN 2) aNil))]), .v (eOp oRepr [.s 4])])) st8__law_holds sNext)
def st10__law_holds : MS := (sAsg (eOp oAdd [.v (eOp oAdd [.v (eOp oS01 [.s 3, .v (eOp oSub [.s 5, .v (eC (.int 1))])]), .v (eLst (aCons (eOp oIx [.s 3, .s 5]) (aCons (eOp oIx [.s 3, .v (eOp oSub [.s 5, .v (eC (.int 1))])]) aNil)))]), .v (eOp oS10 [.s 3, .v (eOp oAdd [.s 5, .v (eC (.int 1))])])]) (gN 6))
def st11__law_holds : MS := (sRet (eC (.bl false)))
def st12__law_holds : MS := (sIf (tE (eCall m__law_is_ascending (aCons (eCall m__law_result (aCons (eN 1) (aCons (eN 6) aNil))) aNil))) st11__law_holds sNext)
def st13__law_holds : MS := (sIf (tE (eOp (f2 pLt) [.v (eOp oIx [.s 3, .v (eOp oSub [.s 5, .v (eC (.int 1))])]), .v (eOp oIx [.s 3, .s 5])])) (sSeq st10__law_holds st12__law_holds) sNext)
def fg14__law_holds : MG := (gN 5)
def fb14__law_holds : MS := st13__law_holds
def st16__law_holds : MS := (sAsg (eOp oRepr [.s 3]) (gN 7))
def st17__law_holds : MS := (sExpr (eM0 3 fReverse))
def st18__law_holds : MS := (sExpr (eApp 3 (eC (.int 0))))
def st19__law_holds : MS := (sRet (eOp (f2 pEq) [.v (eOp oRepr [.v (eCall m_hardest (aCons (eN 2) aNil))]), .s 7]))
def b__law_holds : MS := (sSeq st1__law_holds (sSeq st2__law_holds (sSeq st4__law_holds (sSeq st7__law_holds (sSeq st9__law_holds (sSeq (sFor (iR2 (eC (.int 1)) (eN 0)) fg14__law_holds fb14__law_holds) (sSeq st16__law_holds (sSeq st17__law_holds (sSeq st18__law_holds st19__law_holds)))))))))
def m__law_holds : MF := fn 2 10 [0, 1] b__law_holds
def st1__law_steps : MS := (sRet (eLst aNil))
def st2__law_steps : MS := (sIf (tE (eOp (f2 pEq) [.s 1, .v (eC (.int 1))])) st1__law_steps sNext)
def st3__law_steps : MS := (sAsg (eCallL m__law_draw aNil 0 (aCons (eC (.int 4)) aNil)) (gN 3))
def st4__law_steps : MS := (sAsg (eLst aNil) (gN 4))
def st5__law_steps : MS := (sAsg (eOp oAdd [.v (eC (.int 1)), .v (eCallL m__law_draw aNil 0 (aCons (eOp oSub [.s 1, .v (eC (.int 1))]) aNil))]) (gN 6))
def st6__law_steps : MS := (sAsg (eOp oMin2 [.v (eOp oSub [.s 1, .v (eC (.int 1))]), .v (eOp oMax2 [.v (eC (.int 1)), .v (eOp oAdd [.v (eOp oIx [.s 4, .v (eOp oNeg [.v (eC (.int 1))])]), .v (eOp oIx [.v (eLst (aCons (eC (.int 0)) (aCons (eC (.int 1)) (aCons (eOp oNeg [.v (eC (.int 1))]) (aCons (eC (.int 2)) aNil))))), .v (eCallL m__law_draw aNil 0 (aCons (eC (.int 4)) aNil))])])])]) (gN 6))
def st7__law_steps : MS := (sIf (tAndM (tE (eOp (f2 pEq) [.s 3, .v (eC (.int 0))])) (tE (eOp (f2 pNe) [.s 4, .v (eLst aNil)]))) st6__law_steps sNext)
def st8__law_steps : MS := (sAsg (eOp oAdd [.v (eC (.int 1)), .v (eOp oMod [.s 5, .v (eOp oSub [.s 1, .v (eC (.int 1))])])]) (gN 6))
def st9__law_steps : MS := (sIf (tE (eOp (f2 pEq) [.s 3, .v (eC (.int 1))])) st8__law_steps sNext)
def st10__law_steps : MS := (sExpr (eApp 4 (eN 6)))
def fg11__law_steps : MG := (gN 5)
def fb11__law_steps : MS := (sSeq st5__law_steps (sSeq st7__law_steps (sSeq st9__law_steps st10__law_steps)))
def st13__law_steps : MS := (sRet (eMv 4))
def b__law_steps : MS := (sSeq st2__law_steps (sSeq st3__law_steps (sSeq st4__law_steps (sSeq (sFor (iR1 (eCallL m__law_draw aNil 0 (aCons (eOp oAdd [.s 2, .v (eC (.int 1))]) aNil))) fg11__law_steps fb11__law_steps) st13__law_steps))))
def m__law_steps : MF := fn 3 7 [0, 1, 2] b__law_steps
def b_Network_empty : MS := (sRet (eMakeV 0 0 m_Network___init__ (aCons (eN 1) (aCons (eLst aNil) aNil))))
def m_Network_empty : MF := fn 2 2 [0, 1] b_Network_empty
def lg1_Network_full : MG := (gN 2)
def lh1_Network_full : MG := (gN 3)
def li1_Network_full : Sl → Res (List D) := (iRD (eN 2) (eC (.int 0)))
def le1_Network_full : ME := (eN 3)
def b_Network_full : MS := (sSeq (sExpr (eCall m_check_width (aCons (eN 1) aNil))) (sRet (eMakeV 0 0 m_Network___init__ (aCons (eN 1) (aCons (eLc2 (iR2 (eC (.int 1)) (eN 1)) lg1_Network_full li1_Network_full lh1_Network_full tYesM le1_Network_full [2, 3] [3]) aNil)))))
def m_Network_full : MF := fn 2 4 [0, 1] b_Network_full
def st1_law : MS := (sAsg (eCall m__law_source (aCons (eN 0) (aCons (eN 1) aNil))) (gN 2))
def st2_law : MS := (sAsg (eOp oAdd [.v (eC (.int 1)), .v (eCallL m__law_draw aNil 2 (aCons (eC (.int 40)) aNil))]) (gN 3))
def st3_law : MS := (sRet (eC (.bl false)))
def st4_law : MS := (sIf (tNotM (tE (eCall m__law_holds (aCons (eN 3) (aCons (eCallL m__law_steps aNil 2 (aCons (eN 3) (aCons (eC (.int 120)) aNil))) aNil))))) st3_law sNext)
def st5_law : MS := (sAsg (eOp oAdd [.v (eC (.int 1)), .v (eCallL m__law_draw aNil 2 (aCons (eC (.int 6)) aNil))]) (gN 3))
def st6_law : MS := (sRet (eC (.bl false)))
def st7_law : MS := (sIf (tNotM (tE (eCall m__law_holds (aCons (eN 3) (aCons (eCallL m__law_steps aNil 2 (aCons (eN 3) (aCons (eC (.int 14)) aNil))) aNil))))) st6_law sNext)
def fg8_law : MG := (gN 1)
def fb8_law : MS := (sSeq st1_law (sSeq st2_law (sSeq st4_law (sSeq st5_law st7_law))))
def st10_law : MS := (sRet (eAnd (eOp (f2 pEq) [.v (eCall m_hardest (aCons (eCall m_Network_empty (aCons (eC (.cls 0)) (aCons (eC (.int 3)) aNil))) aNil)), .v (eLst (aCons (eC (.int 1)) (aCons (eC (.int 2)) (aCons (eC (.int 3)) aNil))))]) (eOp (f2 pEq) [.v (eCall m_hardest (aCons (eCall m_Network_full (aCons (eC (.cls 0)) (aCons (eC (.int 4)) aNil))) aNil)), .v (eLst (aCons (eC (.int 4)) (aCons (eC (.int 3)) (aCons (eC (.int 2)) (aCons (eC (.int 1)) aNil)))))])))
def b_law : MS := (sSeq (sFor (iR1 (eOp oMax2 [.v (eC (.int 1)), .v (eOp oMin2 [.v (eOp oLen [.s 0]), .v (eC (.int 8))])])) fg8_law fb8_law) st10_law)
def m_law : MF := fn 1 4 [0] b_law
end Lw30

set_option maxHeartbeats 0
namespace Lw30
open PySem PySem.Spec PyProof.Rows L2 DL
theorem bt_abs : bootBuiltins "abs" = some (.builtin "abs") := by decide +kernel
theorem bt_bool : bootBuiltins "bool" = some (.type "bool") := by decide +kernel
theorem bt_enumerate : bootBuiltins "enumerate" = some (.type "enumerate") := by decide +kernel
theorem bt_int : bootBuiltins "int" = some (.type "int") := by decide +kernel
theorem bt_isinstance : bootBuiltins "isinstance" = some (.builtin "isinstance") := by decide +kernel
theorem bt_len : bootBuiltins "len" = some (.builtin "len") := by decide +kernel
theorem bt_list : bootBuiltins "list" = some (.type "list") := by decide +kernel
theorem bt_max : bootBuiltins "max" = some (.builtin "max") := by decide +kernel
theorem bt_min : bootBuiltins "min" = some (.builtin "min") := by decide +kernel
theorem bt_range : bootBuiltins "range" = some (.type "range") := by decide +kernel
theorem bt_repr : bootBuiltins "repr" = some (.builtin "repr") := by decide +kernel
theorem bt_sum : bootBuiltins "sum" = some (.builtin "sum") := by decide +kernel
theorem bt_tuple : bootBuiltins "tuple" = some (.type "tuple") := by decide +kernel
/-! ### what the written part says -/
structure Tx (K : PySem.W.Frag) (mg : Str → Option Value) where
  f__law_source : Addr
  d__law_source : FuncData
  F__law_source : Fun K "_law_source" "_law_source" s__law_source f__law_source d__law_source
  B__law_source : Binds K d__law_source ["_law_script", "_law_k"] []
  g__law_source : mg "_law_source" = some (.ref f__law_source)
  f__law_draw : Addr
  d__law_draw : FuncData
  F__law_draw : Fun K "_law_draw" "_law_draw" s__law_draw f__law_draw d__law_draw
  B__law_draw : Binds K d__law_draw ["_law_source_here", "_law_count"] []
  g__law_draw : mg "_law_draw" = some (.ref f__law_draw)
  f_is_integer : Addr
  d_is_integer : FuncData
  F_is_integer : Fun K "is_integer" "is_integer" s_is_integer f_is_integer d_is_integer
  B_is_integer : Binds K d_is_integer ["value", "low", "high"] []
  g_is_integer : mg "is_integer" = some (.ref f_is_integer)
  f_check_width : Addr
  d_check_width : FuncData
  F_check_width : Fun K "check_width" "check_width" s_check_width f_check_width d_check_width
  B_check_width : Binds K d_check_width ["width"] []
  g_check_width : mg "check_width" = some (.ref f_check_width)
  f_check_steps : Addr
  d_check_steps : FuncData
  F_check_steps : Fun K "check_steps" "check_steps" s_check_steps f_check_steps d_check_steps
  B_check_steps : Binds K d_check_steps ["width", "steps"] []
  g_check_steps : mg "check_steps" = some (.ref f_check_steps)
  f_Network___init__ : Addr
  d_Network___init__ : FuncData
  F_Network___init__ : Fun K "__init__" "Network.__init__" s_Network___init__ f_Network___init__ d_Network___init__
  B_Network___init__ : Binds K d_Network___init__ ["self", "width", "steps"] []
  f_Network_backwards : Addr
  d_Network_backwards : FuncData
  F_Network_backwards : Fun K "backwards" "Network.backwards" s_Network_backwards f_Network_backwards d_Network_backwards
  B_Network_backwards : Binds K d_Network_backwards ["self"] []
  f_hardest : Addr
  d_hardest : FuncData
  F_hardest : Fun K "hardest" "hardest" s_hardest f_hardest d_hardest
  B_hardest : Binds K d_hardest ["network"] []
  g_hardest : mg "hardest" = some (.ref f_hardest)
  f__law_hardest : Addr
  d__law_hardest : FuncData
  F__law_hardest : Fun K "_law_hardest" "_law_hardest" s__law_hardest f__law_hardest d__law_hardest
  B__law_hardest : Binds K d__law_hardest ["_law_steps_here", "_law_width"] []
  g__law_hardest : mg "_law_hardest" = some (.ref f__law_hardest)
  f__law_is_ascending : Addr
  d__law_is_ascending : FuncData
  F__law_is_ascending : Fun K "_law_is_ascending" "_law_is_ascending" s__law_is_ascending f__law_is_ascending d__law_is_ascending
  B__law_is_ascending : Binds K d__law_is_ascending ["_law_values"] []
  g__law_is_ascending : mg "_law_is_ascending" = some (.ref f__law_is_ascending)
  f__law_result : Addr
  d__law_result : FuncData
  F__law_result : Fun K "_law_result" "_law_result" s__law_result f__law_result d__law_result
  B__law_result : Binds K d__law_result ["_law_steps_here", "_law_values"] []
  g__law_result : mg "_law_result" = some (.ref f__law_result)
  f_places_up_to : Addr
  d_places_up_to : FuncData
  F_places_up_to : Fun K "places_up_to" "places_up_to" s_places_up_to f_places_up_to d_places_up_to
  B_places_up_to : Binds K d_places_up_to ["values", "threshold"] []
  g_places_up_to : mg "places_up_to" = some (.ref f_places_up_to)
  f_limits : Addr
  d_limits : FuncData
  F_limits : Fun K "limits" "limits" s_limits f_limits d_limits
  B_limits : Binds K d_limits ["network"] []
  g_limits : mg "limits" = some (.ref f_limits)
  f__law_holds : Addr
  d__law_holds : FuncData
  F__law_holds : Fun K "_law_holds" "_law_holds" s__law_holds f__law_holds d__law_holds
  B__law_holds : Binds K d__law_holds ["_law_width", "_law_steps_here"] []
  g__law_holds : mg "_law_holds" = some (.ref f__law_holds)
  f__law_steps : Addr
  d__law_steps : FuncData
  F__law_steps : Fun K "_law_steps" "_law_steps" s__law_steps f__law_steps d__law_steps
  B__law_steps : Binds K d__law_steps ["_law_source_here", "_law_width", "_law_most"] []
  g__law_steps : mg "_law_steps" = some (.ref f__law_steps)
  f_Network_empty : Addr
  d_Network_empty : FuncData
  F_Network_empty : Fun K "empty" "Network.empty" s_Network_empty f_Network_empty d_Network_empty
  B_Network_empty : Binds K d_Network_empty ["cls", "width"] []
  f_Network_full : Addr
  d_Network_full : FuncData
  F_Network_full : Fun K "full" "Network.full" s_Network_full f_Network_full d_Network_full
  B_Network_full : Binds K d_Network_full ["cls", "width"] []
  f_law : Addr
  d_law : FuncData
  F_law : Fun K "law" "law" s_law f_law d_law
  B_law : Binds K d_law ["_law_script"] []
  g_law : mg "law" = some (.ref f_law)
  c_Network : Addr
  g_Network : mg "Network" = some (.ref c_Network)
  cl_Network : Cls K c_Network
  mk_Network : Mk K c_Network f_Network___init__
  me_Network_backwards : Meth K c_Network "backwards" f_Network_backwards
  p_Network_steps : Addr
  f_Network_steps : Addr
  d_Network_steps : FuncData
  F_Network_steps : Fun K "steps" "Network.steps" s_Network_steps f_Network_steps d_Network_steps
  B_Network_steps : Binds K d_Network_steps ["self"] []
  pr_Network_steps : PropOf K c_Network "steps" p_Network_steps f_Network_steps
  p_Network_width : Addr
  f_Network_width : Addr
  d_Network_width : FuncData
  F_Network_width : Fun K "width" "Network.width" s_Network_width f_Network_width d_Network_width
  B_Network_width : Binds K d_Network_width ["self"] []
  pr_Network_width : PropOf K c_Network "width" p_Network_width f_Network_width
  na_Network_own_steps : NoAttr K c_Network "own_steps"
  na_Network_own_width : NoAttr K c_Network "own_width"
  mc_Network : Value
  rd_Network : ClX.CRead K c_Network mc_Network
  p_Network_empty : Addr
  cm_Network_empty : ClX.CMet K c_Network mc_Network "empty" p_Network_empty f_Network_empty
  p_Network_full : Addr
  cm_Network_full : ClX.CMet K c_Network mc_Network "full" p_Network_full f_Network_full
  v_Network_MAX_STEPS : Value
  cv_Network_MAX_STEPS : ClX.CVal K c_Network mc_Network "MAX_STEPS" (.int 1000) v_Network_MAX_STEPS
  v_Network_MAX_WIDTH : Value
  cv_Network_MAX_WIDTH : ClX.CVal K c_Network mc_Network "MAX_WIDTH" (.int 40) v_Network_MAX_WIDTH
  z_abs : mg "abs" = none
  z_bool : mg "bool" = none
  z_enumerate : mg "enumerate" = none
  z_int : mg "int" = none
  z_isinstance : mg "isinstance" = none
  z_len : mg "len" = none
  z_list : mg "list" = none
  z_max : mg "max" = none
  z_min : mg "min" = none
  z_range : mg "range" = none
  z_repr : mg "repr" = none
  z_sum : mg "sum" = none
  z_tuple : mg "tuple" = none
section
variable {w : World} {P : Program} {base : Heap} {mg : Str → Option Value} {K : PySem.W.Frag}
def Tx.ca (T : Tx K mg) : Nat → Addr
  | 0 => T.c_Network
  | _ => 0
theorem ok_Network_steps (T : Tx K mg) : FnOk P w K mg base (L2.CX P w) 1 T.f_Network_steps T.d_Network_steps ["self"] (getSp (T.ca 0) "own_steps") := getter_ok T.F_Network_steps sc_Network_steps rfl rfl T.cl_Network T.na_Network_own_steps
theorem ok_Network_width (T : Tx K mg) : FnOk P w K mg base (L2.CX P w) 1 T.f_Network_width T.d_Network_width ["self"] (getSp (T.ca 0) "own_width") := getter_ok T.F_Network_width sc_Network_width rfl rfl T.cl_Network T.na_Network_own_width
theorem ok__law_source (T : Tx K mg) : FnG P w K mg base (L2.CX P w) 1 T.f__law_source (spM T.ca K m__law_source) := fn_okG T.F__law_source T.B__law_source sc__law_source rfl fun cdv A outer s H E hr =>
  show CSs _ _ _ _ b__law_source from (css_cons (cs_set 2 sc__law_source.nd (ce_bin op_addA os_add (co_v (ce_bin op_mulA os_mul (co_v ce_int) (co_v (ce_callB (cr_sum rfl) (by rfl) T.z_sum bt_sum os_sum (.cons (co_v (ce_s01 (es 0) (co_v ce_int))) .nil) (hst := ⟨fun _ => rfl, trivial⟩))))) (es 1)))
    (css_cons (cs_if (ct_cmp (ce_cmp op_lt os_lt (es 1) (co_v (ce_callB call_len_seq (by rfl) T.z_len bt_len os_len (.cons (es 0) .nil) (hst := ⟨fun _ => rfl, trivial⟩))) (nomark _))) (css_one (cs_set 2 sc__law_source.nd (ce_ix ix_A os_ix (es 0) (es 1) (fun _ _ => rfl)))) css_nil)
    (css_cons (cs_set 3 sc__law_source.nd (ce_callB call_abs (by rfl) T.z_abs bt_abs os_abs (.cons (es 2) .nil) (hst := ⟨fun _ => rfl, trivial⟩)))
    (css_cons (cs_set 4 sc__law_source.nd (ce_bin op_mod os_mod (co_v (ce_bin op_mulA os_mul (co_v (ce_bin op_addA os_add (co_v (ce_bin op_addA os_add (co_v (ce_bin op_addA os_add (co_v (ce_bin op_mod os_mod (es 3) (co_v ce_int))) (co_v (ce_bin op_mulA os_mul (co_v (ce_bin op_mulA os_mul (co_v ce_int) (es 1))) (es 1))))) (co_v (ce_bin op_mulA os_mul (co_v ce_int) (es 1))))) (co_v ce_int))) (co_v ce_int))) (co_v ce_int)))
    (css_one (cs_ret (ce_lst (cl_cons (ce_bin op_mulA os_mul (es 3) (co_v (ce_callTy call_int1 (by rfl) T.z_int bt_int os_int (.cons (co_v (ce_cmp op_ge os_ge (es 3) (co_v (ce_bin op_pow os_pow (co_v ce_int) (co_v ce_int))) (nomark _))) .nil) (hst := ⟨fun _ => rfl, trivial⟩)))) (cl_cons (ce_bin op_mod os_mod (co_v (ce_bin op_mulA os_mul (es 4) (es 4))) (co_v ce_int)) cl_nil)) ⟨fun _ => rfl, ⟨fun _ => rfl, trivial⟩⟩)))))))
theorem ok__law_draw (T : Tx K mg) : FnG P w K mg base (L2.CX P w) 1 T.f__law_draw (spM T.ca K m__law_draw) := fn_okG T.F__law_draw T.B__law_draw sc__law_draw rfl fun cdv A outer s H E hr =>
  show CSs _ _ _ _ b__law_draw from (css_cons (cs_if (ct_cmp (ce_cmp op_gt os_gt (co_v (ce_ix ix_A os_ix (es 0) (co_v ce_int) (fun _ _ => rfl))) (co_v ce_int) (nomark _))) (css_cons (cs_set 2 sc__law_draw.nd (ce_bin op_mod os_mod (co_v (ce_ix ix_A os_ix (es 0) (co_v ce_int) (fun _ _ => rfl))) (es 1)))
    (css_cons (cs_asgT (ce_bin op_fdivW os_div (co_v (ce_ix ix_A os_ix (es 0) (co_v ce_int) (fun _ _ => rfl))) (es 1)) (cg_ix (pv 0) ce_int (fun _ => rfl)))
    (css_one (cs_ret (emv 2))))) css_nil)
    (css_cons (cs_asgT (ce_bin op_mod os_mod (co_v (ce_bin op_addA os_add (co_v (ce_bin op_mulA os_mul (co_v (ce_ix ix_A os_ix (es 0) (co_v ce_int) (fun _ _ => rfl))) (co_v ce_int))) (co_v ce_int))) (co_v ce_int)) (cg_ix (pv 0) ce_int (fun _ => rfl)))
    (css_one (cs_ret (ce_bin op_mod os_mod (co_v (ce_bin op_fdivW os_div (co_v (ce_bin op_mod os_mod (co_v (ce_bin op_mulA os_mul (co_v (ce_ix ix_A os_ix (es 0) (co_v ce_int) (fun _ _ => rfl))) (co_v (ce_ix ix_A os_ix (es 0) (co_v ce_int) (fun _ _ => rfl))))) (co_v ce_int))) (co_v ce_int))) (es 1))))))
theorem ok_is_integer (T : Tx K mg) : FnG P w K mg base (L2.CX P w) 1 T.f_is_integer (spM T.ca K m_is_integer) := fn_okG T.F_is_integer T.B_is_integer sc_is_integer rfl fun cdv A outer s H E hr =>
  show CSs _ _ _ _ b_is_integer from (css_one (cs_ret (ce_and' (ce_callB call_isi (by rfl) T.z_isinstance bt_isinstance (os_isiB (T := "int")) (.cons (es 0) (.cons (co_v (ce_ty (by rfl) T.z_int bt_int)) .nil)) (hst := ⟨fun _ => rfl, ⟨fun _ => rfl, trivial⟩⟩)) (ce_and (ce_not (ce_callB call_isi (by rfl) T.z_isinstance bt_isinstance (os_isiB (T := "bool")) (.cons (es 0) (.cons (co_v (ce_ty (by rfl) T.z_bool bt_bool)) .nil)) (hst := ⟨fun _ => rfl, ⟨fun _ => rfl, trivial⟩⟩))) (ce_chain op_le op_le os_le os_le (en 1) (en 0) (en 2))))))
theorem ok_check_width (T : Tx K mg) : FnG P w K mg base (L2.CX P w) 2 T.f_check_width (spM T.ca K m_check_width) := fn_okG T.F_check_width T.B_check_width sc_check_width rfl fun cdv A outer s H E hr =>
  show CSs _ _ _ _ b_check_width from (css_one (cs_if (ct_not (ct_val (ce_callR (ok_is_integer T) (hr.mono (by decide)) (by rfl) T.g_is_integer T.F_is_integer.kp (cl_cons (en 0) (cl_cons ce_int (cl_cons (ce_cval (by rfl) T.g_Network T.rd_Network T.cv_Network_MAX_WIDTH fun _ _ => .int) cl_nil))) ⟨fun _ => rfl, ⟨fun _ => rfl, ⟨fun _ => rfl, trivial⟩⟩⟩))) css_fail css_nil))
theorem ok_check_steps (T : Tx K mg) : FnG P w K mg base (L2.CX P w) 2 T.f_check_steps (spM T.ca K m_check_steps) := fn_okG T.F_check_steps T.B_check_steps sc_check_steps rfl fun cdv A outer s H E hr =>
  show CSs _ _ _ _ b_check_steps from (css_cons (cs_if (ct_w (cw_or (ct_not (ct_val (ce_callB call_isiT (by rfl) T.z_isinstance bt_isinstance os_isi2 (.cons (es 1) (.cons (co_v (ce_tup (cl_cons (ce_ty (by rfl) T.z_list bt_list) (cl_cons (ce_ty (by rfl) T.z_tuple bt_tuple) cl_nil)) ⟨fun _ => rfl, ⟨fun _ => rfl, trivial⟩⟩)) .nil)) (hst := ⟨fun _ => rfl, ⟨fun _ => rfl, trivial⟩⟩)))) (cw_or1 (ct_cmp (ce_cmp op_gt os_gt (co_v (ce_callB call_len_seq (by rfl) T.z_len bt_len os_len (.cons (es 1) .nil) (hst := ⟨fun _ => rfl, trivial⟩))) (co_v (ce_cval (by rfl) T.g_Network T.rd_Network T.cv_Network_MAX_STEPS fun _ _ => .int)) (nomark _)))))) css_fail css_nil)
    (css_one (cs_for (ci_or (ci_enum (by rfl) T.z_enumerate (en 1)) (ci_enumT (by rfl) T.z_enumerate (en 1)) (iEnA_or _)) (cg_tup rfl (cgs_cons (gn 2 sc_check_steps.nd) (cgs_cons (gn 3 sc_check_steps.nd) cgs_nil (by rfl)) (by rfl)) rfl) (css_one (cs_if (ct_not (ct_val (ce_callR (ok_is_integer T) (hr.mono (by decide)) (by rfl) T.g_is_integer T.F_is_integer.kp (cl_cons (en 3) (cl_cons ce_int (cl_cons (ce_bin op_sub os_sub (es 0) (co_v ce_int)) cl_nil))) ⟨fun _ => rfl, ⟨fun _ => rfl, ⟨fun _ => rfl, trivial⟩⟩⟩))) css_fail css_nil)) (passes_of rfl) rfl)))
theorem ok_Network___init__ (T : Tx K mg) : FnG P w K mg base (L2.CX P w) 3 T.f_Network___init__ (spM T.ca K m_Network___init__) := fn_okG T.F_Network___init__ T.B_Network___init__ sc_Network___init__ rfl fun cdv A outer s H E hr =>
  show CSs _ _ _ _ b_Network___init__ from (css_cons (cs_expr (ce_callR (ok_check_width T) (hr.mono (by decide)) (by rfl) T.g_check_width T.F_check_width.kp (cl_cons (en 1) cl_nil) ⟨fun _ => rfl, trivial⟩))
    (css_cons (cs_expr (ce_callR (ok_check_steps T) (hr.mono (by decide)) (by rfl) T.g_check_steps T.F_check_steps.kp (cl_cons (en 1) (cl_cons (en 2) cl_nil)) ⟨fun _ => rfl, ⟨fun _ => rfl, trivial⟩⟩))
    (css_cons (cs_fld (C := 0) T.cl_Network T.na_Network_own_width (pv 0) (en 1))
    (css_one (cs_fld (C := 0) T.cl_Network T.na_Network_own_steps (pv 0) (ce_callTy call_tuple_of (by rfl) T.z_tuple bt_tuple os_tuple (.cons (es 2) .nil) (hst := ⟨fun _ => rfl, trivial⟩)))))))
theorem ok_Network_backwards (T : Tx K mg) : FnG P w K mg base (L2.CX P w) 5 T.f_Network_backwards (spM T.ca K m_Network_backwards) := fn_okG T.F_Network_backwards T.B_Network_backwards sc_Network_backwards rfl fun cdv A outer s H E hr =>
  show CSs _ _ _ _ b_Network_backwards from (css_one (cs_ret (ce_makeG (C := 0) T.mk_Network (ok_Network___init__ T) (hr.mono (by decide)) (by rfl) T.g_Network (cl_cons (ce_fld (C := 0) T.cl_Network T.na_Network_own_width (es 0)) (cl_cons (ce_revA (co_v (ce_fld (C := 0) T.cl_Network T.na_Network_own_steps (es 0)))) cl_nil)) ⟨fun _ => rfl, ⟨fun _ => rfl, trivial⟩⟩)))
theorem ok_hardest (T : Tx K mg) : FnG P w K mg base (L2.CX P w) 6 T.f_hardest (spM T.ca K m_hardest) := fn_okG T.F_hardest T.B_hardest sc_hardest rfl fun cdv A outer s H E hr =>
  show CSs _ _ _ _ b_hardest from (css_cons (cs_set 1 sc_hardest.nd (ce_listRg rfl (by rfl) T.z_list (by rfl) T.z_range (co_v ce_int) (co_v (ce_bin op_addA os_add (co_v (ce_prop (C := 0) T.cl_Network T.pr_Network_width (ok_Network_width T) (hr.2.mono (by decide)) T.B_Network_width (es 0))) (co_v ce_int)))))
    (css_cons (cs_for (ci_tup (pi_tup (we_pe _ _)) (ce_prop (C := 0) T.cl_Network T.pr_Network_steps (ok_Network_steps T) (hr.2.mono (by decide)) T.B_Network_steps (co_v (ce_mth (C := 0) (pl := _) T.cl_Network T.me_Network_backwards (ok_Network_backwards T) (hr.mono (by decide)) (en 0) cl_nil trivial (hpl := fun e r h => by cases h))))) (gn 2 sc_hardest.nd) (css_one (cs_if (ct_cmp (ce_cmp op_lt os_lt (co_v (ce_ix ix_A os_ix (es 1) (co_v (ce_bin op_sub os_sub (es 2) (co_v ce_int))) (fun _ _ => rfl))) (co_v (ce_ix ix_A os_ix (es 1) (es 2) (fun _ _ => rfl))) (nomark _))) (css_one (cs_asgT (ce_tup (cl_cons (ce_ix ix_A os_ix (es 1) (es 2) (fun _ _ => rfl)) (cl_cons (ce_ix ix_A os_ix (es 1) (co_v (ce_bin op_sub os_sub (es 2) (co_v ce_int))) (fun _ _ => rfl)) cl_nil)) ⟨fun _ => rfl, ⟨fun _ => rfl, trivial⟩⟩) (cg_tup rfl (cgs_cons (cg_ix (pv 1) (ce_bin op_sub os_sub (es 2) (co_v ce_int)) (fun _ => rfl)) (cgs_cons (cg_ix (pv 1) (en 2) (fun _ => rfl)) cgs_nil (by rfl)) (by rfl)) rfl))) css_nil)) (passes_of rfl) rfl)
    (css_one (cs_ret (emv 1)))))
theorem ok__law_hardest (T : Tx K mg) : FnG P w K mg base (L2.CX P w) 1 T.f__law_hardest (spM T.ca K m__law_hardest) := fn_okG T.F__law_hardest T.B__law_hardest sc__law_hardest rfl fun cdv A outer s H E hr =>
  show CSs _ _ _ _ b__law_hardest from (css_cons (cs_set 2 sc__law_hardest.nd (ce_listRg rfl (by rfl) T.z_list (by rfl) T.z_range (co_v ce_int) (co_v (ce_bin op_addA os_add (es 1) (co_v ce_int)))))
    (css_cons (cs_for (ci_list (pi_list (we_pe _ _)) (ce_revA (es 0))) (gn 3 sc__law_hardest.nd) (css_cons (cs_par (i := 4) (j := 5) rfl sc__law_hardest.nd rfl rfl (by decide) rfl rfl (by decide) (by decide) (cl_cons (ce_ix ix_A os_ix (es 2) (co_v (ce_bin op_sub os_sub (es 3) (co_v ce_int))) (fun _ _ => rfl)) (cl_cons (ce_ix ix_A os_ix (es 2) (es 3) (fun _ _ => rfl)) cl_nil)) ⟨fun _ => rfl, ⟨fun _ => rfl, trivial⟩⟩ (by rfl))
    (css_one (cs_if (ct_cmp (ce_cmp op_lt os_lt (es 4) (es 5) (nomark _))) (css_cons (cs_asgT (en 5) (cg_ix (pv 2) (ce_bin op_sub os_sub (es 3) (co_v ce_int)) (fun _ => rfl)))
    (css_one (cs_asgT (en 4) (cg_ix (pv 2) (en 3) (fun _ => rfl))))) css_nil))) (passes_of rfl) rfl)
    (css_one (cs_ret (emv 2)))))
theorem ok__law_is_ascending (T : Tx K mg) : FnG P w K mg base (L2.CX P w) 1 T.f__law_is_ascending (spM T.ca K m__law_is_ascending) := fn_okG T.F__law_is_ascending T.B__law_is_ascending sc__law_is_ascending rfl fun cdv A outer s H E hr =>
  show CSs _ _ _ _ b__law_is_ascending from (css_one (cs_ret (ce_cmp (op_eqD hr.2.units) os_eq (co_v (ce_lcIf (own := [("_law_place", 1)]) rfl sc__law_is_ascending.nd (ci_range2 (by rfl) T.z_range ce_int (ce_callB call_len_seq (by rfl) T.z_len bt_len os_len (.cons (es 0) .nil) (hst := ⟨fun _ => rfl, trivial⟩))) (blk_of rfl (by kernel_rfl)) (fun _ _ _ _ _ _ => (gb 1 sc__law_is_ascending.nd)) (fun _ _ _ _ _ => (ct_cmp (ce_cmp op_gt os_gt (co_v (ce_ix ix_A os_ix (es 0) (co_v (ce_bin op_sub os_sub (es 1) (co_v ce_int))) (fun _ _ => rfl))) (co_v (ce_ix ix_A os_ix (es 0) (es 1) (fun _ _ => rfl))) (nomark _)))) (fun _ _ _ _ _ => (en 1)))) (co_v (ce_lst cl_nil trivial)) (nomark _))))
theorem ok__law_result (T : Tx K mg) : FnG P w K mg base (L2.CX P w) 1 T.f__law_result (spM T.ca K m__law_result) := fn_okG T.F__law_result T.B__law_result sc__law_result rfl fun cdv A outer s H E hr =>
  show CSs _ _ _ _ b__law_result from (css_cons (cs_set 2 sc__law_result.nd (ce_callTy call_list_of (by rfl) T.z_list bt_list os_list (.cons (es 1) .nil) (hst := ⟨fun _ => rfl, trivial⟩)))
    (css_cons (cs_for (ci_list (pi_list (we_pe _ _)) (en 0)) (gn 3 sc__law_result.nd) (css_cons (cs_par (i := 4) (j := 5) rfl sc__law_result.nd rfl rfl (by decide) rfl rfl (by decide) (by decide) (cl_cons (ce_ix ix_A os_ix (es 2) (co_v (ce_bin op_sub os_sub (es 3) (co_v ce_int))) (fun _ _ => rfl)) (cl_cons (ce_ix ix_A os_ix (es 2) (es 3) (fun _ _ => rfl)) cl_nil)) ⟨fun _ => rfl, ⟨fun _ => rfl, trivial⟩⟩ (by rfl))
    (css_one (cs_if (ct_cmp (ce_cmp op_gt os_gt (es 4) (es 5) (nomark _))) (css_cons (cs_asgT (en 5) (cg_ix (pv 2) (ce_bin op_sub os_sub (es 3) (co_v ce_int)) (fun _ => rfl)))
    (css_one (cs_asgT (en 4) (cg_ix (pv 2) (en 3) (fun _ => rfl))))) css_nil))) (passes_of rfl) rfl)
    (css_one (cs_ret (emv 2)))))
theorem ok_places_up_to (T : Tx K mg) : FnG P w K mg base (L2.CX P w) 1 T.f_places_up_to (spM T.ca K m_places_up_to) := fn_okG T.F_places_up_to T.B_places_up_to sc_places_up_to rfl fun cdv A outer s H E hr =>
  show CSs _ _ _ _ b_places_up_to from (css_one (cs_ret (ce_lcIf (own := [("place", 2), ("value", 3)]) rfl sc_places_up_to.nd (ci_enumK (by rfl) T.z_enumerate (cl_cons (en 0) (cl_cons ce_int cl_nil))) (blk_of rfl (by kernel_rfl)) (fun _ _ _ _ _ _ => (cg_tupB rfl (cgs_cons (gb 2 sc_places_up_to.nd) (cgs_cons (gb 3 sc_places_up_to.nd) cgs_nil (by rfl)) (by rfl)) rfl)) (fun _ _ _ _ _ => (ct_cmp (ce_cmp op_le os_le (es 3) (es 1) (nomark _)))) (fun _ _ _ _ _ => (en 2)))))
theorem ok_limits (T : Tx K mg) : FnG P w K mg base (L2.CX P w) 7 T.f_limits (spM T.ca K m_limits) := fn_okG T.F_limits T.B_limits sc_limits rfl fun cdv A outer s H E hr =>
  show CSs _ _ _ _ b_limits from (css_cons (cs_set 1 sc_limits.nd (ce_callR (ok_hardest T) (hr.mono (by decide)) (by rfl) T.g_hardest T.F_hardest.kp (cl_cons (en 0) cl_nil) ⟨fun _ => rfl, trivial⟩) (hx := .inr rfl))
    (css_one (cs_ret (ce_lc (own := [("count", 2)]) rfl sc_limits.nd (ci_range2 (by rfl) T.z_range ce_int (ce_prop (C := 0) T.cl_Network T.pr_Network_width (ok_Network_width T) (hr.2.mono (by decide)) T.B_Network_width (es 0))) (blk_of rfl (by kernel_rfl)) (fun _ _ _ _ _ _ => (gb 2 sc_limits.nd)) (fun _ _ _ _ _ => (ce_callR (ok_places_up_to T) (hr.mono (by decide)) (by rfl) T.g_places_up_to T.F_places_up_to.kp (cl_cons (en 1) (cl_cons (en 2) cl_nil)) ⟨fun _ => rfl, ⟨fun _ => rfl, trivial⟩⟩))))))
theorem os1__law_holds (T : Tx K mg) {cdv : Value} {A : Around} {outer : List Env} {s : Shared} {H : Hp} {E : XK} (hr : RoomG 7 (A.deeper (envOfC "_law_holds" (defScope s__law_holds) s.heap.objs.size T.f__law_holds cdv))) : CS T.ca (cxOf (L2.CX P w) P w K mg base ["_law_width", "_law_steps_here", "_law_network", "_law_values", "_law_places", "_law_place", "_law_harder", "_law_before", "_law_count", "_law_value"] "_law_holds" (defScope s__law_holds) T.f__law_holds cdv A outer s H E) [0, 1] (nthS (defBody s__law_holds) 0) st1__law_holds :=
  (cs_set 2 sc__law_holds.nd (ce_makeG (C := 0) T.mk_Network (ok_Network___init__ T) (hr.mono (by decide)) (by rfl) T.g_Network (cl_cons (en 0) (cl_cons (en 1) cl_nil)) ⟨fun _ => rfl, ⟨fun _ => rfl, trivial⟩⟩))
theorem os2__law_holds (T : Tx K mg) {cdv : Value} {A : Around} {outer : List Env} {s : Shared} {H : Hp} {E : XK} (hr : RoomG 7 (A.deeper (envOfC "_law_holds" (defScope s__law_holds) s.heap.objs.size T.f__law_holds cdv))) : CS T.ca (cxOf (L2.CX P w) P w K mg base ["_law_width", "_law_steps_here", "_law_network", "_law_values", "_law_places", "_law_place", "_law_harder", "_law_before", "_law_count", "_law_value"] "_law_holds" (defScope s__law_holds) T.f__law_holds cdv A outer s H E) [0, 1] (nthS (defBody s__law_holds) 1) st2__law_holds :=
  (cs_set 3 sc__law_holds.nd (ce_callR (ok_hardest T) (hr.mono (by decide)) (by rfl) T.g_hardest T.F_hardest.kp (cl_cons (en 2) cl_nil) ⟨fun _ => rfl, trivial⟩) (hx := .inr rfl))
theorem os3__law_holds (T : Tx K mg) {cdv : Value} {A : Around} {outer : List Env} {s : Shared} {H : Hp} {E : XK} (hr : RoomG 7 (A.deeper (envOfC "_law_holds" (defScope s__law_holds) s.heap.objs.size T.f__law_holds cdv))) : CS T.ca (cxOf (L2.CX P w) P w K mg base ["_law_width", "_law_steps_here", "_law_network", "_law_values", "_law_places", "_law_place", "_law_harder", "_law_before", "_law_count", "_law_value"] "_law_holds" (defScope s__law_holds) T.f__law_holds cdv A outer s H E) [0, 1] (nthS (ifB (nthS (defBody s__law_holds) 2)) 0) st3__law_holds :=
  (cs_ret ce_bl)
theorem os4__law_holds (T : Tx K mg) {cdv : Value} {A : Around} {outer : List Env} {s : Shared} {H : Hp} {E : XK} (hr : RoomG 7 (A.deeper (envOfC "_law_holds" (defScope s__law_holds) s.heap.objs.size T.f__law_holds cdv))) : CS T.ca (cxOf (L2.CX P w) P w K mg base ["_law_width", "_law_steps_here", "_law_network", "_law_values", "_law_places", "_law_place", "_law_harder", "_law_before", "_law_count", "_law_value"] "_law_holds" (defScope s__law_holds) T.f__law_holds cdv A outer s H E) [0, 1] (nthS (defBody s__law_holds) 2) st4__law_holds :=
  (cs_if (ct_w (cw_or (ct_cmp (ce_cmp (op_neD hr.2.units) os_ne (co_v (ce_callB (call_repr hr) (by rfl) T.z_repr bt_repr os_repr (.cons (es 3) .nil) (hst := ⟨fun _ => rfl, trivial⟩))) (co_v (ce_callB (call_repr hr) (by rfl) T.z_repr bt_repr os_repr (.cons (co_v (ce_callR (ok__law_hardest T) (hr.mono (by decide)) (by rfl) T.g__law_hardest T.F__law_hardest.kp (cl_cons (en 1) (cl_cons (en 0) cl_nil)) ⟨fun _ => rfl, ⟨fun _ => rfl, trivial⟩⟩)) .nil) (hst := ⟨fun _ => rfl, trivial⟩))) (nomark _))) (cw_or1 (ct_not (ct_val (ce_callR (ok__law_is_ascending T) (hr.mono (by decide)) (by rfl) T.g__law_is_ascending T.F__law_is_ascending.kp (cl_cons (ce_callLG _ _ _ (ok__law_result T) (hr.mono (by decide)) (by rfl) T.g__law_result T.F__law_result.kp (cl_cons (en 1) cl_nil) (pv 3) cl_nil rfl ⟨fun _ => rfl, ⟨fun _ => rfl, trivial⟩⟩) cl_nil) ⟨fun _ => rfl, trivial⟩)))))) (css_one (os3__law_holds T hr)) css_nil)
theorem os7__law_holds (T : Tx K mg) {cdv : Value} {A : Around} {outer : List Env} {s : Shared} {H : Hp} {E : XK} (hr : RoomG 7 (A.deeper (envOfC "_law_holds" (defScope s__law_holds) s.heap.objs.size T.f__law_holds cdv))) : CS T.ca (cxOf (L2.CX P w) P w K mg base ["_law_width", "_law_steps_here", "_law_network", "_law_values", "_law_places", "_law_place", "_law_harder", "_law_before", "_law_count", "_law_value"] "_law_holds" (defScope s__law_holds) T.f__law_holds cdv A outer s H E) [0, 1] (nthS (defBody s__law_holds) 3) st7__law_holds :=
  (cs_setLc (own := [("_law_count", 8)]) (i := 4) rfl sc__law_holds.nd rfl rfl (by decide) (gn (ca := T.ca) (L := []) 4 sc__law_holds.nd).1 (by rfl) (ci_range2 (by rfl) T.z_range ce_int (en 0)) (blk_of rfl (by kernel_rfl)) (fun _ _ _ _ _ _ => (gb 8 sc__law_holds.nd)) (fun _ _ _ _ _ => (ce_lcKIf (own := [("_law_place", 5), ("_law_value", 9)]) rfl sc__law_holds.nd (pi_enumV (by decide) (by rfl) T.z_enumerate (pv 3) pe_int rfl rfl rfl) (by decide) (blk_of rfl (by kernel_rfl)) (fun _ _ _ _ _ _ => (cg_tupB rfl (cgs_cons (gb 5 sc__law_holds.nd) (cgs_cons (gb 9 sc__law_holds.nd) cgs_nil (by rfl)) (by rfl)) rfl)) (fun _ _ _ _ _ => (ct_cmp (ce_cmp op_le os_le (es 9) (es 8) (nomark _)))) (fun _ _ _ _ _ => (en 5)))))
theorem os8__law_holds (T : Tx K mg) {cdv : Value} {A : Around} {outer : List Env} {s : Shared} {H : Hp} {E : XK} (hr : RoomG 7 (A.deeper (envOfC "_law_holds" (defScope s__law_holds) s.heap.objs.size T.f__law_holds cdv))) : CS T.ca (cxOf (L2.CX P w) P w K mg base ["_law_width", "_law_steps_here", "_law_network", "_law_values", "_law_places", "_law_place", "_law_harder", "_law_before", "_law_count", "_law_value"] "_law_holds" (defScope s__law_holds) T.f__law_holds cdv A outer s H E) [0, 1] (nthS (ifB (nthS (defBody s__law_holds) 4)) 0) st8__law_holds :=
  (cs_ret ce_bl)
theorem os9__law_holds (T : Tx K mg) {cdv : Value} {A : Around} {outer : List Env} {s : Shared} {H : Hp} {E : XK} (hr : RoomG 7 (A.deeper (envOfC "_law_holds" (defScope s__law_holds) s.heap.objs.size T.f__law_holds cdv))) : CS T.ca (cxOf (L2.CX P w) P w K mg base ["_law_width", "_law_steps_here", "_law_network", "_law_values", "_law_places", "_law_place", "_law_harder", "_law_before", "_law_count", "_law_value"] "_law_holds" (defScope s__law_holds) T.f__law_holds cdv A outer s H E) [0, 1] (nthS (defBody s__law_holds) 4) st9__law_holds :=
  (cs_if (ct_cmp (ce_cmp (op_neD hr.2.units) os_ne (co_v (ce_callB (call_repr hr) (by rfl) T.z_repr bt_repr os_repr (.cons (co_v (ce_callR (ok_limits T) (hr.mono (by decide)) (by rfl) T.g_limits T.F_limits.kp (cl_cons (en 2) cl_nil) ⟨fun _ => rfl, trivial⟩)) .nil) (hst := ⟨fun _ => rfl, trivial⟩))) (co_v (ce_callB (call_repr hr) (by rfl) T.z_repr bt_repr os_repr (.cons (es 4) .nil) (hst := ⟨fun _ => rfl, trivial⟩))) (nomark _))) (css_one (os8__law_holds T hr)) css_nil)
theorem os10__law_holds (T : Tx K mg) {cdv : Value} {A : Around} {outer : List Env} {s : Shared} {H : Hp} {E : XK} (hr : RoomG 7 (A.deeper (envOfC "_law_holds" (defScope s__law_holds) s.heap.objs.size T.f__law_holds cdv))) : CS T.ca (cxOf (L2.CX P w) P w K mg base ["_law_width", "_law_steps_here", "_law_network", "_law_values", "_law_places", "_law_place", "_law_harder", "_law_before", "_law_count", "_law_value"] "_law_holds" (defScope s__law_holds) T.f__law_holds cdv A outer s H E) [0, 1] (nthS (ifB (nthS (forB (nthS (defBody s__law_holds) 5)) 0)) 0) st10__law_holds :=
  (cs_set 6 sc__law_holds.nd (ce_bin op_addA os_add (co_v (ce_bin op_addA os_add (co_v (ce_s01 (es 3) (co_v (ce_bin op_sub os_sub (es 5) (co_v ce_int))))) (co_v (ce_lst (cl_cons (ce_ix ix_A os_ix (es 3) (es 5) (fun _ _ => rfl)) (cl_cons (ce_ix ix_A os_ix (es 3) (co_v (ce_bin op_sub os_sub (es 5) (co_v ce_int))) (fun _ _ => rfl)) cl_nil)) ⟨fun _ => rfl, ⟨fun _ => rfl, trivial⟩⟩)))) (co_v (ce_s10 (es 3) (co_v (ce_bin op_addA os_add (es 5) (co_v ce_int)))))))
theorem os11__law_holds (T : Tx K mg) {cdv : Value} {A : Around} {outer : List Env} {s : Shared} {H : Hp} {E : XK} (hr : RoomG 7 (A.deeper (envOfC "_law_holds" (defScope s__law_holds) s.heap.objs.size T.f__law_holds cdv))) : CS T.ca (cxOf (L2.CX P w) P w K mg base ["_law_width", "_law_steps_here", "_law_network", "_law_values", "_law_places", "_law_place", "_law_harder", "_law_before", "_law_count", "_law_value"] "_law_holds" (defScope s__law_holds) T.f__law_holds cdv A outer s H E) [0, 1] (nthS (ifB (nthS (ifB (nthS (forB (nthS (defBody s__law_holds) 5)) 0)) 1)) 0) st11__law_holds :=
  (cs_ret ce_bl)
theorem os12__law_holds (T : Tx K mg) {cdv : Value} {A : Around} {outer : List Env} {s : Shared} {H : Hp} {E : XK} (hr : RoomG 7 (A.deeper (envOfC "_law_holds" (defScope s__law_holds) s.heap.objs.size T.f__law_holds cdv))) : CS T.ca (cxOf (L2.CX P w) P w K mg base ["_law_width", "_law_steps_here", "_law_network", "_law_values", "_law_places", "_law_place", "_law_harder", "_law_before", "_law_count", "_law_value"] "_law_holds" (defScope s__law_holds) T.f__law_holds cdv A outer s H E) [0, 1] (nthS (ifB (nthS (forB (nthS (defBody s__law_holds) 5)) 0)) 1) st12__law_holds :=
  (cs_if (ct_val (ce_callR (ok__law_is_ascending T) (hr.mono (by decide)) (by rfl) T.g__law_is_ascending T.F__law_is_ascending.kp (cl_cons (ce_callR (ok__law_result T) (hr.mono (by decide)) (by rfl) T.g__law_result T.F__law_result.kp (cl_cons (en 1) (cl_cons (en 6) cl_nil)) ⟨fun _ => rfl, ⟨fun _ => rfl, trivial⟩⟩) cl_nil) ⟨fun _ => rfl, trivial⟩)) (css_one (os11__law_holds T hr)) css_nil)
theorem os13__law_holds (T : Tx K mg) {cdv : Value} {A : Around} {outer : List Env} {s : Shared} {H : Hp} {E : XK} (hr : RoomG 7 (A.deeper (envOfC "_law_holds" (defScope s__law_holds) s.heap.objs.size T.f__law_holds cdv))) : CS T.ca (cxOf (L2.CX P w) P w K mg base ["_law_width", "_law_steps_here", "_law_network", "_law_values", "_law_places", "_law_place", "_law_harder", "_law_before", "_law_count", "_law_value"] "_law_holds" (defScope s__law_holds) T.f__law_holds cdv A outer s H E) [0, 1] (nthS (forB (nthS (defBody s__law_holds) 5)) 0) st13__law_holds :=
  (cs_if (ct_cmp (ce_cmp op_lt os_lt (co_v (ce_ix ix_A os_ix (es 3) (co_v (ce_bin op_sub os_sub (es 5) (co_v ce_int))) (fun _ _ => rfl))) (co_v (ce_ix ix_A os_ix (es 3) (es 5) (fun _ _ => rfl))) (nomark _))) (css_cons (os10__law_holds T hr)
    (css_one (os12__law_holds T hr))) css_nil)
theorem os15__law_holds (T : Tx K mg) {cdv : Value} {A : Around} {outer : List Env} {s : Shared} {H : Hp} {E : XK} (hr : RoomG 7 (A.deeper (envOfC "_law_holds" (defScope s__law_holds) s.heap.objs.size T.f__law_holds cdv))) : CS T.ca (cxOf (L2.CX P w) P w K mg base ["_law_width", "_law_steps_here", "_law_network", "_law_values", "_law_places", "_law_place", "_law_harder", "_law_before", "_law_count", "_law_value"] "_law_holds" (defScope s__law_holds) T.f__law_holds cdv A outer s H E) [0, 1] (nthS (defBody s__law_holds) 5) (sFor (iR2 (eC (.int 1)) (eN 0)) fg14__law_holds fb14__law_holds) :=
  (cs_for (ci_range2 (by rfl) T.z_range ce_int (en 0)) (gn 5 sc__law_holds.nd) (css_one (os13__law_holds T hr)) (passes_of rfl) rfl)
theorem os16__law_holds (T : Tx K mg) {cdv : Value} {A : Around} {outer : List Env} {s : Shared} {H : Hp} {E : XK} (hr : RoomG 7 (A.deeper (envOfC "_law_holds" (defScope s__law_holds) s.heap.objs.size T.f__law_holds cdv))) : CS T.ca (cxOf (L2.CX P w) P w K mg base ["_law_width", "_law_steps_here", "_law_network", "_law_values", "_law_places", "_law_place", "_law_harder", "_law_before", "_law_count", "_law_value"] "_law_holds" (defScope s__law_holds) T.f__law_holds cdv A outer s H E) [0, 1] (nthS (defBody s__law_holds) 6) st16__law_holds :=
  (cs_set 7 sc__law_holds.nd (ce_callB (call_repr hr) (by rfl) T.z_repr bt_repr os_repr (.cons (es 3) .nil) (hst := ⟨fun _ => rfl, trivial⟩)))
theorem os17__law_holds (T : Tx K mg) {cdv : Value} {A : Around} {outer : List Env} {s : Shared} {H : Hp} {E : XK} (hr : RoomG 7 (A.deeper (envOfC "_law_holds" (defScope s__law_holds) s.heap.objs.size T.f__law_holds cdv))) : CS T.ca (cxOf (L2.CX P w) P w K mg base ["_law_width", "_law_steps_here", "_law_network", "_law_values", "_law_places", "_law_place", "_law_harder", "_law_before", "_law_count", "_law_value"] "_law_holds" (defScope s__law_holds) T.f__law_holds cdv A outer s H E) [0, 1] (nthS (defBody s__law_holds) 7) st17__law_holds :=
  (cs_expr (ce_m0 PySem.F.slot_list_reverse PySem.F.type_list_reverse mt_reverse m0_reverse (pv 3)))
theorem os18__law_holds (T : Tx K mg) {cdv : Value} {A : Around} {outer : List Env} {s : Shared} {H : Hp} {E : XK} (hr : RoomG 7 (A.deeper (envOfC "_law_holds" (defScope s__law_holds) s.heap.objs.size T.f__law_holds cdv))) : CS T.ca (cxOf (L2.CX P w) P w K mg base ["_law_width", "_law_steps_here", "_law_network", "_law_values", "_law_places", "_law_place", "_law_harder", "_law_before", "_law_count", "_law_value"] "_law_holds" (defScope s__law_holds) T.f__law_holds cdv A outer s H E) [0, 1] (nthS (defBody s__law_holds) 8) st18__law_holds :=
  (cs_expr (ce_app (pv 3) ce_int))
theorem os19__law_holds (T : Tx K mg) {cdv : Value} {A : Around} {outer : List Env} {s : Shared} {H : Hp} {E : XK} (hr : RoomG 7 (A.deeper (envOfC "_law_holds" (defScope s__law_holds) s.heap.objs.size T.f__law_holds cdv))) : CS T.ca (cxOf (L2.CX P w) P w K mg base ["_law_width", "_law_steps_here", "_law_network", "_law_values", "_law_places", "_law_place", "_law_harder", "_law_before", "_law_count", "_law_value"] "_law_holds" (defScope s__law_holds) T.f__law_holds cdv A outer s H E) [0, 1] (nthS (defBody s__law_holds) 9) st19__law_holds :=
  (cs_ret (ce_cmp (op_eqD hr.2.units) os_eq (co_v (ce_callB (call_repr hr) (by rfl) T.z_repr bt_repr os_repr (.cons (co_v (ce_callR (ok_hardest T) (hr.mono (by decide)) (by rfl) T.g_hardest T.F_hardest.kp (cl_cons (en 2) cl_nil) ⟨fun _ => rfl, trivial⟩)) .nil) (hst := ⟨fun _ => rfl, trivial⟩))) (es 7) (nomark _)))
theorem ok__law_holds (T : Tx K mg) : FnG P w K mg base (L2.CX P w) 8 T.f__law_holds (spM T.ca K m__law_holds) := fn_okG T.F__law_holds T.B__law_holds sc__law_holds rfl fun cdv A outer s H E hr =>
  show CSs _ _ _ _ b__law_holds from (css_cons (os1__law_holds T hr)
    (css_cons (os2__law_holds T hr)
    (css_cons (os4__law_holds T hr)
    (css_cons (os7__law_holds T hr)
    (css_cons (os9__law_holds T hr)
    (css_cons (os15__law_holds T hr)
    (css_cons (os16__law_holds T hr)
    (css_cons (os17__law_holds T hr)
    (css_cons (os18__law_holds T hr)
    (css_one (os19__law_holds T hr)))))))))))
theorem os1__law_steps (T : Tx K mg) {cdv : Value} {A : Around} {outer : List Env} {s : Shared} {H : Hp} {E : XK} (hr : RoomG 1 (A.deeper (envOfC "_law_steps" (defScope s__law_steps) s.heap.objs.size T.f__law_steps cdv))) : CS T.ca (cxOf (L2.CX P w) P w K mg base ["_law_source_here", "_law_width", "_law_most", "_law_way", "_law_result_here", "_law_turn", "_law_step"] "_law_steps" (defScope s__law_steps) T.f__law_steps cdv A outer s H E) [0, 1, 2] (nthS (ifB (nthS (defBody s__law_steps) 0)) 0) st1__law_steps :=
  (cs_ret (ce_lst cl_nil trivial))
theorem os2__law_steps (T : Tx K mg) {cdv : Value} {A : Around} {outer : List Env} {s : Shared} {H : Hp} {E : XK} (hr : RoomG 1 (A.deeper (envOfC "_law_steps" (defScope s__law_steps) s.heap.objs.size T.f__law_steps cdv))) : CS T.ca (cxOf (L2.CX P w) P w K mg base ["_law_source_here", "_law_width", "_law_most", "_law_way", "_law_result_here", "_law_turn", "_law_step"] "_law_steps" (defScope s__law_steps) T.f__law_steps cdv A outer s H E) [0, 1, 2] (nthS (defBody s__law_steps) 0) st2__law_steps :=
  (cs_if (ct_cmp (ce_cmp (op_eqD hr.2.units) os_eq (es 1) (co_v ce_int) (nomark _))) (css_one (os1__law_steps T hr)) css_nil)
theorem os3__law_steps (T : Tx K mg) {cdv : Value} {A : Around} {outer : List Env} {s : Shared} {H : Hp} {E : XK} (hr : RoomG 1 (A.deeper (envOfC "_law_steps" (defScope s__law_steps) s.heap.objs.size T.f__law_steps cdv))) : CS T.ca (cxOf (L2.CX P w) P w K mg base ["_law_source_here", "_law_width", "_law_most", "_law_way", "_law_result_here", "_law_turn", "_law_step"] "_law_steps" (defScope s__law_steps) T.f__law_steps cdv A outer s H E) [0, 1, 2] (nthS (defBody s__law_steps) 1) st3__law_steps :=
  (cs_set 3 sc__law_steps.nd (ce_callLG _ _ _ (ok__law_draw T) (hr.mono (by decide)) (by rfl) T.g__law_draw T.F__law_draw.kp cl_nil (pv 0) (cl_cons ce_int cl_nil) rfl ⟨fun _ => rfl, ⟨fun _ => rfl, trivial⟩⟩))
theorem os4__law_steps (T : Tx K mg) {cdv : Value} {A : Around} {outer : List Env} {s : Shared} {H : Hp} {E : XK} (hr : RoomG 1 (A.deeper (envOfC "_law_steps" (defScope s__law_steps) s.heap.objs.size T.f__law_steps cdv))) : CS T.ca (cxOf (L2.CX P w) P w K mg base ["_law_source_here", "_law_width", "_law_most", "_law_way", "_law_result_here", "_law_turn", "_law_step"] "_law_steps" (defScope s__law_steps) T.f__law_steps cdv A outer s H E) [0, 1, 2] (nthS (defBody s__law_steps) 2) st4__law_steps :=
  (cs_set 4 sc__law_steps.nd (ce_lst cl_nil trivial))
theorem os5__law_steps (T : Tx K mg) {cdv : Value} {A : Around} {outer : List Env} {s : Shared} {H : Hp} {E : XK} (hr : RoomG 1 (A.deeper (envOfC "_law_steps" (defScope s__law_steps) s.heap.objs.size T.f__law_steps cdv))) : CS T.ca (cxOf (L2.CX P w) P w K mg base ["_law_source_here", "_law_width", "_law_most", "_law_way", "_law_result_here", "_law_turn", "_law_step"] "_law_steps" (defScope s__law_steps) T.f__law_steps cdv A outer s H E) [0, 1, 2] (nthS (forB (nthS (defBody s__law_steps) 3)) 0) st5__law_steps :=
  (cs_set 6 sc__law_steps.nd (ce_bin op_addA os_add (co_v ce_int) (co_v (ce_callLG _ _ _ (ok__law_draw T) (hr.mono (by decide)) (by rfl) T.g__law_draw T.F__law_draw.kp cl_nil (pv 0) (cl_cons (ce_bin op_sub os_sub (es 1) (co_v ce_int)) cl_nil) rfl ⟨fun _ => rfl, ⟨fun _ => rfl, trivial⟩⟩))))
theorem os6__law_steps (T : Tx K mg) {cdv : Value} {A : Around} {outer : List Env} {s : Shared} {H : Hp} {E : XK} (hr : RoomG 1 (A.deeper (envOfC "_law_steps" (defScope s__law_steps) s.heap.objs.size T.f__law_steps cdv))) : CS T.ca (cxOf (L2.CX P w) P w K mg base ["_law_source_here", "_law_width", "_law_most", "_law_way", "_law_result_here", "_law_turn", "_law_step"] "_law_steps" (defScope s__law_steps) T.f__law_steps cdv A outer s H E) [0, 1, 2] (nthS (ifB (nthS (forB (nthS (defBody s__law_steps) 3)) 1)) 0) st6__law_steps :=
  (cs_set 6 sc__law_steps.nd (ce_callB (call_min2 rfl) (by rfl) T.z_min bt_min os_min2 (.cons (co_v (ce_bin op_sub os_sub (es 1) (co_v ce_int))) (.cons (co_v (ce_callB (call_max2 rfl) (by rfl) T.z_max bt_max os_max2 (.cons (co_v ce_int) (.cons (co_v (ce_bin op_addA os_add (co_v (ce_ix ix_A os_ix (es 4) (co_v (ce_un un_neg os_neg (co_v ce_int))) (fun _ _ => rfl))) (co_v (ce_ix ix_A os_ix (co_v (ce_lst (cl_cons ce_int (cl_cons ce_int (cl_cons (ce_un un_neg os_neg (co_v ce_int)) (cl_cons ce_int cl_nil)))) ⟨fun _ => rfl, ⟨fun _ => rfl, ⟨fun _ => rfl, ⟨fun _ => rfl, trivial⟩⟩⟩⟩)) (co_v (ce_callLG _ _ _ (ok__law_draw T) (hr.mono (by decide)) (by rfl) T.g__law_draw T.F__law_draw.kp cl_nil (pv 0) (cl_cons ce_int cl_nil) rfl ⟨fun _ => rfl, ⟨fun _ => rfl, trivial⟩⟩)) (fun _ _ => rfl))))) .nil)) (hst := ⟨fun _ => rfl, ⟨fun _ => rfl, trivial⟩⟩))) .nil)) (hst := ⟨fun _ => rfl, ⟨fun _ => rfl, trivial⟩⟩)))
theorem os7__law_steps (T : Tx K mg) {cdv : Value} {A : Around} {outer : List Env} {s : Shared} {H : Hp} {E : XK} (hr : RoomG 1 (A.deeper (envOfC "_law_steps" (defScope s__law_steps) s.heap.objs.size T.f__law_steps cdv))) : CS T.ca (cxOf (L2.CX P w) P w K mg base ["_law_source_here", "_law_width", "_law_most", "_law_way", "_law_result_here", "_law_turn", "_law_step"] "_law_steps" (defScope s__law_steps) T.f__law_steps cdv A outer s H E) [0, 1, 2] (nthS (forB (nthS (defBody s__law_steps) 3)) 1) st7__law_steps :=
  (cs_if (ct_w (cw_and (ct_cmp (ce_cmp (op_eqD hr.2.units) os_eq (es 3) (co_v ce_int) (nomark _))) (cw_and1 (ct_cmp (ce_cmp (op_neD hr.2.units) os_ne (es 4) (co_v (ce_lst cl_nil trivial)) (nomark _)))))) (css_one (os6__law_steps T hr)) css_nil)
theorem os8__law_steps (T : Tx K mg) {cdv : Value} {A : Around} {outer : List Env} {s : Shared} {H : Hp} {E : XK} (hr : RoomG 1 (A.deeper (envOfC "_law_steps" (defScope s__law_steps) s.heap.objs.size T.f__law_steps cdv))) : CS T.ca (cxOf (L2.CX P w) P w K mg base ["_law_source_here", "_law_width", "_law_most", "_law_way", "_law_result_here", "_law_turn", "_law_step"] "_law_steps" (defScope s__law_steps) T.f__law_steps cdv A outer s H E) [0, 1, 2] (nthS (ifB (nthS (forB (nthS (defBody s__law_steps) 3)) 2)) 0) st8__law_steps :=
  (cs_set 6 sc__law_steps.nd (ce_bin op_addA os_add (co_v ce_int) (co_v (ce_bin op_mod os_mod (es 5) (co_v (ce_bin op_sub os_sub (es 1) (co_v ce_int)))))))
theorem os9__law_steps (T : Tx K mg) {cdv : Value} {A : Around} {outer : List Env} {s : Shared} {H : Hp} {E : XK} (hr : RoomG 1 (A.deeper (envOfC "_law_steps" (defScope s__law_steps) s.heap.objs.size T.f__law_steps cdv))) : CS T.ca (cxOf (L2.CX P w) P w K mg base ["_law_source_here", "_law_width", "_law_most", "_law_way", "_law_result_here", "_law_turn", "_law_step"] "_law_steps" (defScope s__law_steps) T.f__law_steps cdv A outer s H E) [0, 1, 2] (nthS (forB (nthS (defBody s__law_steps) 3)) 2) st9__law_steps :=
  (cs_if (ct_cmp (ce_cmp (op_eqD hr.2.units) os_eq (es 3) (co_v ce_int) (nomark _))) (css_one (os8__law_steps T hr)) css_nil)
theorem os10__law_steps (T : Tx K mg) {cdv : Value} {A : Around} {outer : List Env} {s : Shared} {H : Hp} {E : XK} (hr : RoomG 1 (A.deeper (envOfC "_law_steps" (defScope s__law_steps) s.heap.objs.size T.f__law_steps cdv))) : CS T.ca (cxOf (L2.CX P w) P w K mg base ["_law_source_here", "_law_width", "_law_most", "_law_way", "_law_result_here", "_law_turn", "_law_step"] "_law_steps" (defScope s__law_steps) T.f__law_steps cdv A outer s H E) [0, 1, 2] (nthS (forB (nthS (defBody s__law_steps) 3)) 3) st10__law_steps :=
  (cs_expr (ce_app (pv 4) (en 6)))
theorem os12__law_steps (T : Tx K mg) {cdv : Value} {A : Around} {outer : List Env} {s : Shared} {H : Hp} {E : XK} (hr : RoomG 1 (A.deeper (envOfC "_law_steps" (defScope s__law_steps) s.heap.objs.size T.f__law_steps cdv))) : CS T.ca (cxOf (L2.CX P w) P w K mg base ["_law_source_here", "_law_width", "_law_most", "_law_way", "_law_result_here", "_law_turn", "_law_step"] "_law_steps" (defScope s__law_steps) T.f__law_steps cdv A outer s H E) [0, 1, 2] (nthS (defBody s__law_steps) 3) (sFor (iR1 (eCallL m__law_draw aNil 0 (aCons (eOp oAdd [.s 2, .v (eC (.int 1))]) aNil))) fg11__law_steps fb11__law_steps) :=
  (cs_for (ci_range1 (by rfl) T.z_range (ce_callLG _ _ _ (ok__law_draw T) (hr.mono (by decide)) (by rfl) T.g__law_draw T.F__law_draw.kp cl_nil (pv 0) (cl_cons (ce_bin op_addA os_add (es 2) (co_v ce_int)) cl_nil) rfl ⟨fun _ => rfl, ⟨fun _ => rfl, trivial⟩⟩)) (gn 5 sc__law_steps.nd) (css_cons (os5__law_steps T hr)
    (css_cons (os7__law_steps T hr)
    (css_cons (os9__law_steps T hr)
    (css_one (os10__law_steps T hr))))) (passes_of rfl) rfl)
theorem os13__law_steps (T : Tx K mg) {cdv : Value} {A : Around} {outer : List Env} {s : Shared} {H : Hp} {E : XK} (hr : RoomG 1 (A.deeper (envOfC "_law_steps" (defScope s__law_steps) s.heap.objs.size T.f__law_steps cdv))) : CS T.ca (cxOf (L2.CX P w) P w K mg base ["_law_source_here", "_law_width", "_law_most", "_law_way", "_law_result_here", "_law_turn", "_law_step"] "_law_steps" (defScope s__law_steps) T.f__law_steps cdv A outer s H E) [0, 1, 2] (nthS (defBody s__law_steps) 4) st13__law_steps :=
  (cs_ret (emv 4))
theorem ok__law_steps (T : Tx K mg) : FnG P w K mg base (L2.CX P w) 2 T.f__law_steps (spM T.ca K m__law_steps) := fn_okG T.F__law_steps T.B__law_steps sc__law_steps rfl fun cdv A outer s H E hr =>
  show CSs _ _ _ _ b__law_steps from (css_cons (os2__law_steps T hr)
    (css_cons (os3__law_steps T hr)
    (css_cons (os4__law_steps T hr)
    (css_cons (os12__law_steps T hr)
    (css_one (os13__law_steps T hr))))))
theorem ok_Network_empty (T : Tx K mg) : FnG P w K mg base (L2.CX P w) 5 T.f_Network_empty (spM T.ca K m_Network_empty) := fn_okG T.F_Network_empty T.B_Network_empty sc_Network_empty rfl fun cdv A outer s H E hr =>
  show CSs _ _ _ _ b_Network_empty from (css_one (cs_ret (ce_makeV (C := 0) T.mk_Network (ok_Network___init__ T) (hr.mono (by decide)) rfl (.inl rfl) (cl_cons (en 1) (cl_cons (ce_lst cl_nil trivial) cl_nil)) ⟨fun _ => rfl, ⟨fun _ => rfl, trivial⟩⟩)))
theorem ok_Network_full (T : Tx K mg) : FnG P w K mg base (L2.CX P w) 5 T.f_Network_full (spM T.ca K m_Network_full) := fn_okG T.F_Network_full T.B_Network_full sc_Network_full rfl fun cdv A outer s H E hr =>
  show CSs _ _ _ _ b_Network_full from (css_cons (cs_expr (ce_callR (ok_check_width T) (hr.mono (by decide)) (by rfl) T.g_check_width T.F_check_width.kp (cl_cons (en 1) cl_nil) ⟨fun _ => rfl, trivial⟩))
    (css_one (cs_ret (ce_makeV (C := 0) T.mk_Network (ok_Network___init__ T) (hr.mono (by decide)) rfl (.inl rfl) (cl_cons (en 1) (cl_cons (ce_lc2 (own := [("last", 2), ("step", 3)]) (wi1 := fun X => iRng3 (Wa X _)) [3] rfl sc_Network_full.nd (ci_range2 (by rfl) T.z_range ce_int (en 1)) (blk_of rfl (by kernel_rfl)) (by decide) (fun _ _ _ _ _ _ => (gb 2 sc_Network_full.nd)) (fun _ _ _ _ _ => (ci_rangeD (by rfl) T.z_range (en 2) ce_int)) (fun _ _ _ _ _ _ => (gb 3 sc_Network_full.nd)) (fun _ _ _ _ _ => (en 3))) cl_nil)) ⟨fun _ => rfl, ⟨fun _ => rfl, trivial⟩⟩))))
theorem os1_law (T : Tx K mg) {cdv : Value} {A : Around} {outer : List Env} {s : Shared} {H : Hp} {E : XK} (hr : RoomG 8 (A.deeper (envOfC "law" (defScope s_law) s.heap.objs.size T.f_law cdv))) : CS T.ca (cxOf (L2.CX P w) P w K mg base ["_law_script", "_law_k", "_law_source_here", "_law_width"] "law" (defScope s_law) T.f_law cdv A outer s H E) [0] (nthS (forB (nthS (defBody s_law) 0)) 0) st1_law :=
  (cs_set 2 sc_law.nd (ce_callR (ok__law_source T) (hr.mono (by decide)) (by rfl) T.g__law_source T.F__law_source.kp (cl_cons (en 0) (cl_cons (en 1) cl_nil)) ⟨fun _ => rfl, ⟨fun _ => rfl, trivial⟩⟩))
theorem os2_law (T : Tx K mg) {cdv : Value} {A : Around} {outer : List Env} {s : Shared} {H : Hp} {E : XK} (hr : RoomG 8 (A.deeper (envOfC "law" (defScope s_law) s.heap.objs.size T.f_law cdv))) : CS T.ca (cxOf (L2.CX P w) P w K mg base ["_law_script", "_law_k", "_law_source_here", "_law_width"] "law" (defScope s_law) T.f_law cdv A outer s H E) [0] (nthS (forB (nthS (defBody s_law) 0)) 1) st2_law :=
  (cs_set 3 sc_law.nd (ce_bin op_addA os_add (co_v ce_int) (co_v (ce_callLG _ _ _ (ok__law_draw T) (hr.mono (by decide)) (by rfl) T.g__law_draw T.F__law_draw.kp cl_nil (pv 2) (cl_cons ce_int cl_nil) rfl ⟨fun _ => rfl, ⟨fun _ => rfl, trivial⟩⟩))))
theorem os3_law (T : Tx K mg) {cdv : Value} {A : Around} {outer : List Env} {s : Shared} {H : Hp} {E : XK} (hr : RoomG 8 (A.deeper (envOfC "law" (defScope s_law) s.heap.objs.size T.f_law cdv))) : CS T.ca (cxOf (L2.CX P w) P w K mg base ["_law_script", "_law_k", "_law_source_here", "_law_width"] "law" (defScope s_law) T.f_law cdv A outer s H E) [0] (nthS (ifB (nthS (forB (nthS (defBody s_law) 0)) 2)) 0) st3_law :=
  (cs_ret ce_bl)
theorem os4_law (T : Tx K mg) {cdv : Value} {A : Around} {outer : List Env} {s : Shared} {H : Hp} {E : XK} (hr : RoomG 8 (A.deeper (envOfC "law" (defScope s_law) s.heap.objs.size T.f_law cdv))) : CS T.ca (cxOf (L2.CX P w) P w K mg base ["_law_script", "_law_k", "_law_source_here", "_law_width"] "law" (defScope s_law) T.f_law cdv A outer s H E) [0] (nthS (forB (nthS (defBody s_law) 0)) 2) st4_law :=
  (cs_if (ct_not (ct_val (ce_callR (ok__law_holds T) (hr.mono (by decide)) (by rfl) T.g__law_holds T.F__law_holds.kp (cl_cons (en 3) (cl_cons (ce_callLG _ _ _ (ok__law_steps T) (hr.mono (by decide)) (by rfl) T.g__law_steps T.F__law_steps.kp cl_nil (pv 2) (cl_cons (en 3) (cl_cons ce_int cl_nil)) rfl ⟨fun _ => rfl, ⟨fun _ => rfl, ⟨fun _ => rfl, trivial⟩⟩⟩) cl_nil)) ⟨fun _ => rfl, ⟨fun _ => rfl, trivial⟩⟩))) (css_one (os3_law T hr)) css_nil)
theorem os5_law (T : Tx K mg) {cdv : Value} {A : Around} {outer : List Env} {s : Shared} {H : Hp} {E : XK} (hr : RoomG 8 (A.deeper (envOfC "law" (defScope s_law) s.heap.objs.size T.f_law cdv))) : CS T.ca (cxOf (L2.CX P w) P w K mg base ["_law_script", "_law_k", "_law_source_here", "_law_width"] "law" (defScope s_law) T.f_law cdv A outer s H E) [0] (nthS (forB (nthS (defBody s_law) 0)) 3) st5_law :=
  (cs_set 3 sc_law.nd (ce_bin op_addA os_add (co_v ce_int) (co_v (ce_callLG _ _ _ (ok__law_draw T) (hr.mono (by decide)) (by rfl) T.g__law_draw T.F__law_draw.kp cl_nil (pv 2) (cl_cons ce_int cl_nil) rfl ⟨fun _ => rfl, ⟨fun _ => rfl, trivial⟩⟩))))
theorem os6_law (T : Tx K mg) {cdv : Value} {A : Around} {outer : List Env} {s : Shared} {H : Hp} {E : XK} (hr : RoomG 8 (A.deeper (envOfC "law" (defScope s_law) s.heap.objs.size T.f_law cdv))) : CS T.ca (cxOf (L2.CX P w) P w K mg base ["_law_script", "_law_k", "_law_source_here", "_law_width"] "law" (defScope s_law) T.f_law cdv A outer s H E) [0] (nthS (ifB (nthS (forB (nthS (defBody s_law) 0)) 4)) 0) st6_law :=
  (cs_ret ce_bl)
theorem os7_law (T : Tx K mg) {cdv : Value} {A : Around} {outer : List Env} {s : Shared} {H : Hp} {E : XK} (hr : RoomG 8 (A.deeper (envOfC "law" (defScope s_law) s.heap.objs.size T.f_law cdv))) : CS T.ca (cxOf (L2.CX P w) P w K mg base ["_law_script", "_law_k", "_law_source_here", "_law_width"] "law" (defScope s_law) T.f_law cdv A outer s H E) [0] (nthS (forB (nthS (defBody s_law) 0)) 4) st7_law :=
  (cs_if (ct_not (ct_val (ce_callR (ok__law_holds T) (hr.mono (by decide)) (by rfl) T.g__law_holds T.F__law_holds.kp (cl_cons (en 3) (cl_cons (ce_callLG _ _ _ (ok__law_steps T) (hr.mono (by decide)) (by rfl) T.g__law_steps T.F__law_steps.kp cl_nil (pv 2) (cl_cons (en 3) (cl_cons ce_int cl_nil)) rfl ⟨fun _ => rfl, ⟨fun _ => rfl, ⟨fun _ => rfl, trivial⟩⟩⟩) cl_nil)) ⟨fun _ => rfl, ⟨fun _ => rfl, trivial⟩⟩))) (css_one (os6_law T hr)) css_nil)
theorem os9_law (T : Tx K mg) {cdv : Value} {A : Around} {outer : List Env} {s : Shared} {H : Hp} {E : XK} (hr : RoomG 8 (A.deeper (envOfC "law" (defScope s_law) s.heap.objs.size T.f_law cdv))) : CS T.ca (cxOf (L2.CX P w) P w K mg base ["_law_script", "_law_k", "_law_source_here", "_law_width"] "law" (defScope s_law) T.f_law cdv A outer s H E) [0] (nthS (defBody s_law) 0) (sFor (iR1 (eOp oMax2 [.v (eC (.int 1)), .v (eOp oMin2 [.v (eOp oLen [.s 0]), .v (eC (.int 8))])])) fg8_law fb8_law) :=
  (cs_for (ci_range1 (by rfl) T.z_range (ce_callB (call_max2 rfl) (by rfl) T.z_max bt_max os_max2 (.cons (co_v ce_int) (.cons (co_v (ce_callB (call_min2 rfl) (by rfl) T.z_min bt_min os_min2 (.cons (co_v (ce_callB call_len_seq (by rfl) T.z_len bt_len os_len (.cons (es 0) .nil) (hst := ⟨fun _ => rfl, trivial⟩))) (.cons (co_v ce_int) .nil)) (hst := ⟨fun _ => rfl, ⟨fun _ => rfl, trivial⟩⟩))) .nil)) (hst := ⟨fun _ => rfl, ⟨fun _ => rfl, trivial⟩⟩))) (gn 1 sc_law.nd) (css_cons (os1_law T hr)
    (css_cons (os2_law T hr)
    (css_cons (os4_law T hr)
    (css_cons (os5_law T hr)
    (css_one (os7_law T hr)))))) (passes_of rfl) rfl)
theorem os10_law (T : Tx K mg) {cdv : Value} {A : Around} {outer : List Env} {s : Shared} {H : Hp} {E : XK} (hr : RoomG 8 (A.deeper (envOfC "law" (defScope s_law) s.heap.objs.size T.f_law cdv))) : CS T.ca (cxOf (L2.CX P w) P w K mg base ["_law_script", "_law_k", "_law_source_here", "_law_width"] "law" (defScope s_law) T.f_law cdv A outer s H E) [0] (nthS (defBody s_law) 1) st10_law :=
  (cs_ret (ce_and (ce_cmp (op_eqD hr.2.units) os_eq (co_v (ce_callR (ok_hardest T) (hr.mono (by decide)) (by rfl) T.g_hardest T.F_hardest.kp (cl_cons (ce_cmth (C := 0) (pl := _) (by rfl) T.g_Network T.rd_Network T.cm_Network_empty (ok_Network_empty T) (hr.mono (by decide)) (cl_cons ce_int cl_nil) ⟨fun _ => rfl, trivial⟩) cl_nil) ⟨fun _ => rfl, trivial⟩)) (co_v (ce_lst (cl_cons ce_int (cl_cons ce_int (cl_cons ce_int cl_nil))) ⟨fun _ => rfl, ⟨fun _ => rfl, ⟨fun _ => rfl, trivial⟩⟩⟩)) (nomark _)) (ce_cmp (op_eqD hr.2.units) os_eq (co_v (ce_callR (ok_hardest T) (hr.mono (by decide)) (by rfl) T.g_hardest T.F_hardest.kp (cl_cons (ce_cmth (C := 0) (pl := _) (by rfl) T.g_Network T.rd_Network T.cm_Network_full (ok_Network_full T) (hr.mono (by decide)) (cl_cons ce_int cl_nil) ⟨fun _ => rfl, trivial⟩) cl_nil) ⟨fun _ => rfl, trivial⟩)) (co_v (ce_lst (cl_cons ce_int (cl_cons ce_int (cl_cons ce_int (cl_cons ce_int cl_nil)))) ⟨fun _ => rfl, ⟨fun _ => rfl, ⟨fun _ => rfl, ⟨fun _ => rfl, trivial⟩⟩⟩⟩)) (nomark _))))
theorem ok_law (T : Tx K mg) : FnG P w K mg base (L2.CX P w) 9 T.f_law (spM T.ca K m_law) := fn_okG T.F_law T.B_law sc_law rfl fun cdv A outer s H E hr =>
  show CSs _ _ _ _ b_law from (css_cons (os9_law T hr)
    (css_one (os10_law T hr)))
end
theorem all_mk {l : PySem.W.OpenLaw} {w : World} {K : PySem.W.Frag} {h : Heap} {mg : Str → Option Value} {fa : Addr} (X : K.In h) (G : h.Ns mainGlobals mg) (hfa : mg "law" = some (.ref fa))
    {c_Network : Addr} (a_Network : PySem.W.nsIn K mainGlobals "Network" = some (some (.ref c_Network)))
    {f__law_source : Addr} (a__law_source : PySem.W.nsIn K mainGlobals "_law_source" = some (some (.ref f__law_source)))
    {od__law_source an__law_source : Option Addr} {sl__law_source : Array (Option Value)} {oc__law_source kV__law_source dc__law_source pm__law_source cd__law_source ct__law_source : Value}
    (l__law_source : K.lookup f__law_source = some ⟨oc__law_source, od__law_source, .func (PySem.W.fnOf "_law_source" "_law_source" (defArgs s__law_source) (defBody s__law_source) (defScope s__law_source) .none kV__law_source dc__law_source pm__law_source an__law_source cd__law_source ct__law_source), sl__law_source⟩) (q__law_source : PySem.W.codeIn K cd__law_source "_law_source" = true) (k__law_source : PySem.W.keepIn K (.ref f__law_source) = true)
    {f__law_draw : Addr} (a__law_draw : PySem.W.nsIn K mainGlobals "_law_draw" = some (some (.ref f__law_draw)))
    {od__law_draw an__law_draw : Option Addr} {sl__law_draw : Array (Option Value)} {oc__law_draw kV__law_draw dc__law_draw pm__law_draw cd__law_draw ct__law_draw : Value}
    (l__law_draw : K.lookup f__law_draw = some ⟨oc__law_draw, od__law_draw, .func (PySem.W.fnOf "_law_draw" "_law_draw" (defArgs s__law_draw) (defBody s__law_draw) (defScope s__law_draw) .none kV__law_draw dc__law_draw pm__law_draw an__law_draw cd__law_draw ct__law_draw), sl__law_draw⟩) (q__law_draw : PySem.W.codeIn K cd__law_draw "_law_draw" = true) (k__law_draw : PySem.W.keepIn K (.ref f__law_draw) = true)
    {f_is_integer : Addr} (a_is_integer : PySem.W.nsIn K mainGlobals "is_integer" = some (some (.ref f_is_integer)))
    {od_is_integer an_is_integer : Option Addr} {sl_is_integer : Array (Option Value)} {oc_is_integer kV_is_integer dc_is_integer pm_is_integer cd_is_integer ct_is_integer : Value}
    (l_is_integer : K.lookup f_is_integer = some ⟨oc_is_integer, od_is_integer, .func (PySem.W.fnOf "is_integer" "is_integer" (defArgs s_is_integer) (defBody s_is_integer) (defScope s_is_integer) .none kV_is_integer dc_is_integer pm_is_integer an_is_integer cd_is_integer ct_is_integer), sl_is_integer⟩) (q_is_integer : PySem.W.codeIn K cd_is_integer "is_integer" = true) (k_is_integer : PySem.W.keepIn K (.ref f_is_integer) = true)
    {f_check_width : Addr} (a_check_width : PySem.W.nsIn K mainGlobals "check_width" = some (some (.ref f_check_width)))
    {od_check_width an_check_width : Option Addr} {sl_check_width : Array (Option Value)} {oc_check_width kV_check_width dc_check_width pm_check_width cd_check_width ct_check_width : Value}
    (l_check_width : K.lookup f_check_width = some ⟨oc_check_width, od_check_width, .func (PySem.W.fnOf "check_width" "check_width" (defArgs s_check_width) (defBody s_check_width) (defScope s_check_width) .none kV_check_width dc_check_width pm_check_width an_check_width cd_check_width ct_check_width), sl_check_width⟩) (q_check_width : PySem.W.codeIn K cd_check_width "check_width" = true) (k_check_width : PySem.W.keepIn K (.ref f_check_width) = true)
    {f_check_steps : Addr} (a_check_steps : PySem.W.nsIn K mainGlobals "check_steps" = some (some (.ref f_check_steps)))
    {od_check_steps an_check_steps : Option Addr} {sl_check_steps : Array (Option Value)} {oc_check_steps kV_check_steps dc_check_steps pm_check_steps cd_check_steps ct_check_steps : Value}
    (l_check_steps : K.lookup f_check_steps = some ⟨oc_check_steps, od_check_steps, .func (PySem.W.fnOf "check_steps" "check_steps" (defArgs s_check_steps) (defBody s_check_steps) (defScope s_check_steps) .none kV_check_steps dc_check_steps pm_check_steps an_check_steps cd_check_steps ct_check_steps), sl_check_steps⟩) (q_check_steps : PySem.W.codeIn K cd_check_steps "check_steps" = true) (k_check_steps : PySem.W.keepIn K (.ref f_check_steps) = true)
    {f_Network___init__ : Addr} (a_Network___init__ : PySem.W.findIn K (.ref c_Network) "__init__" = some (some (.ref f_Network___init__))) (i_Network___init__ : PySem.W.isFn K (.ref f_Network___init__) = true)
    {od_Network___init__ an_Network___init__ : Option Addr} {sl_Network___init__ : Array (Option Value)} {kV_Network___init__ dc_Network___init__ pm_Network___init__ cd_Network___init__ ct_Network___init__ : Value}
    (l_Network___init__ : K.lookup f_Network___init__ = some ⟨(.type "function"), od_Network___init__, .func (PySem.W.fnOf "__init__" "Network.__init__" (defArgs s_Network___init__) (defBody s_Network___init__) (defScope s_Network___init__) .none kV_Network___init__ dc_Network___init__ pm_Network___init__ an_Network___init__ cd_Network___init__ ct_Network___init__), sl_Network___init__⟩) (q_Network___init__ : PySem.W.codeIn K cd_Network___init__ "Network.__init__" = true) (k_Network___init__ : PySem.W.keepIn K (.ref f_Network___init__) = true)
    {f_Network_backwards : Addr} (a_Network_backwards : PySem.W.findIn K (.ref c_Network) "backwards" = some (some (.ref f_Network_backwards))) (i_Network_backwards : PySem.W.isFn K (.ref f_Network_backwards) = true)
    {od_Network_backwards an_Network_backwards : Option Addr} {sl_Network_backwards : Array (Option Value)} {kV_Network_backwards dc_Network_backwards pm_Network_backwards cd_Network_backwards ct_Network_backwards : Value}
    (l_Network_backwards : K.lookup f_Network_backwards = some ⟨(.type "function"), od_Network_backwards, .func (PySem.W.fnOf "backwards" "Network.backwards" (defArgs s_Network_backwards) (defBody s_Network_backwards) (defScope s_Network_backwards) .none kV_Network_backwards dc_Network_backwards pm_Network_backwards an_Network_backwards cd_Network_backwards ct_Network_backwards), sl_Network_backwards⟩) (q_Network_backwards : PySem.W.codeIn K cd_Network_backwards "Network.backwards" = true) (k_Network_backwards : PySem.W.keepIn K (.ref f_Network_backwards) = true)
    {f_hardest : Addr} (a_hardest : PySem.W.nsIn K mainGlobals "hardest" = some (some (.ref f_hardest)))
    {od_hardest an_hardest : Option Addr} {sl_hardest : Array (Option Value)} {oc_hardest kV_hardest dc_hardest pm_hardest cd_hardest ct_hardest : Value}
    (l_hardest : K.lookup f_hardest = some ⟨oc_hardest, od_hardest, .func (PySem.W.fnOf "hardest" "hardest" (defArgs s_hardest) (defBody s_hardest) (defScope s_hardest) .none kV_hardest dc_hardest pm_hardest an_hardest cd_hardest ct_hardest), sl_hardest⟩) (q_hardest : PySem.W.codeIn K cd_hardest "hardest" = true) (k_hardest : PySem.W.keepIn K (.ref f_hardest) = true)
    {f__law_hardest : Addr} (a__law_hardest : PySem.W.nsIn K mainGlobals "_law_hardest" = some (some (.ref f__law_hardest)))
    {od__law_hardest an__law_hardest : Option Addr} {sl__law_hardest : Array (Option Value)} {oc__law_hardest kV__law_hardest dc__law_hardest pm__law_hardest cd__law_hardest ct__law_hardest : Value}
    (l__law_hardest : K.lookup f__law_hardest = some ⟨oc__law_hardest, od__law_hardest, .func (PySem.W.fnOf "_law_hardest" "_law_hardest" (defArgs s__law_hardest) (defBody s__law_hardest) (defScope s__law_hardest) .none kV__law_hardest dc__law_hardest pm__law_hardest an__law_hardest cd__law_hardest ct__law_hardest), sl__law_hardest⟩) (q__law_hardest : PySem.W.codeIn K cd__law_hardest "_law_hardest" = true) (k__law_hardest : PySem.W.keepIn K (.ref f__law_hardest) = true)
    {f__law_is_ascending : Addr} (a__law_is_ascending : PySem.W.nsIn K mainGlobals "_law_is_ascending" = some (some (.ref f__law_is_ascending)))
    {od__law_is_ascending an__law_is_ascending : Option Addr} {sl__law_is_ascending : Array (Option Value)} {oc__law_is_ascending kV__law_is_ascending dc__law_is_ascending pm__law_is_ascending cd__law_is_ascending ct__law_is_ascending : Value}
    (l__law_is_ascending : K.lookup f__law_is_ascending = some ⟨oc__law_is_ascending, od__law_is_ascending, .func (PySem.W.fnOf "_law_is_ascending" "_law_is_ascending" (defArgs s__law_is_ascending) (defBody s__law_is_ascending) (defScope s__law_is_ascending) .none kV__law_is_ascending dc__law_is_ascending pm__law_is_ascending an__law_is_ascending cd__law_is_ascending ct__law_is_ascending), sl__law_is_ascending⟩) (q__law_is_ascending : PySem.W.codeIn K cd__law_is_ascending "_law_is_ascending" = true) (k__law_is_ascending : PySem.W.keepIn K (.ref f__law_is_ascending) = true)
    {f__law_result : Addr} (a__law_result : PySem.W.nsIn K mainGlobals "_law_result" = some (some (.ref f__law_result)))
    {od__law_result an__law_result : Option Addr} {sl__law_result : Array (Option Value)} {oc__law_result kV__law_result dc__law_result pm__law_result cd__law_result ct__law_result : Value}
    (l__law_result : K.lookup f__law_result = some ⟨oc__law_result, od__law_result, .func (PySem.W.fnOf "_law_result" "_law_result" (defArgs s__law_result) (defBody s__law_result) (defScope s__law_result) .none kV__law_result dc__law_result pm__law_result an__law_result cd__law_result ct__law_result), sl__law_result⟩) (q__law_result : PySem.W.codeIn K cd__law_result "_law_result" = true) (k__law_result : PySem.W.keepIn K (.ref f__law_result) = true)
    {f_places_up_to : Addr} (a_places_up_to : PySem.W.nsIn K mainGlobals "places_up_to" = some (some (.ref f_places_up_to)))
    {od_places_up_to an_places_up_to : Option Addr} {sl_places_up_to : Array (Option Value)} {oc_places_up_to kV_places_up_to dc_places_up_to pm_places_up_to cd_places_up_to ct_places_up_to : Value}
    (l_places_up_to : K.lookup f_places_up_to = some ⟨oc_places_up_to, od_places_up_to, .func (PySem.W.fnOf "places_up_to" "places_up_to" (defArgs s_places_up_to) (defBody s_places_up_to) (defScope s_places_up_to) .none kV_places_up_to dc_places_up_to pm_places_up_to an_places_up_to cd_places_up_to ct_places_up_to), sl_places_up_to⟩) (q_places_up_to : PySem.W.codeIn K cd_places_up_to "places_up_to" = true) (k_places_up_to : PySem.W.keepIn K (.ref f_places_up_to) = true)
    {f_limits : Addr} (a_limits : PySem.W.nsIn K mainGlobals "limits" = some (some (.ref f_limits)))
    {od_limits an_limits : Option Addr} {sl_limits : Array (Option Value)} {oc_limits kV_limits dc_limits pm_limits cd_limits ct_limits : Value}
    (l_limits : K.lookup f_limits = some ⟨oc_limits, od_limits, .func (PySem.W.fnOf "limits" "limits" (defArgs s_limits) (defBody s_limits) (defScope s_limits) .none kV_limits dc_limits pm_limits an_limits cd_limits ct_limits), sl_limits⟩) (q_limits : PySem.W.codeIn K cd_limits "limits" = true) (k_limits : PySem.W.keepIn K (.ref f_limits) = true)
    {f__law_holds : Addr} (a__law_holds : PySem.W.nsIn K mainGlobals "_law_holds" = some (some (.ref f__law_holds)))
    {od__law_holds an__law_holds : Option Addr} {sl__law_holds : Array (Option Value)} {oc__law_holds kV__law_holds dc__law_holds pm__law_holds cd__law_holds ct__law_holds : Value}
    (l__law_holds : K.lookup f__law_holds = some ⟨oc__law_holds, od__law_holds, .func (PySem.W.fnOf "_law_holds" "_law_holds" (defArgs s__law_holds) (defBody s__law_holds) (defScope s__law_holds) .none kV__law_holds dc__law_holds pm__law_holds an__law_holds cd__law_holds ct__law_holds), sl__law_holds⟩) (q__law_holds : PySem.W.codeIn K cd__law_holds "_law_holds" = true) (k__law_holds : PySem.W.keepIn K (.ref f__law_holds) = true)
    {f__law_steps : Addr} (a__law_steps : PySem.W.nsIn K mainGlobals "_law_steps" = some (some (.ref f__law_steps)))
    {od__law_steps an__law_steps : Option Addr} {sl__law_steps : Array (Option Value)} {oc__law_steps kV__law_steps dc__law_steps pm__law_steps cd__law_steps ct__law_steps : Value}
    (l__law_steps : K.lookup f__law_steps = some ⟨oc__law_steps, od__law_steps, .func (PySem.W.fnOf "_law_steps" "_law_steps" (defArgs s__law_steps) (defBody s__law_steps) (defScope s__law_steps) .none kV__law_steps dc__law_steps pm__law_steps an__law_steps cd__law_steps ct__law_steps), sl__law_steps⟩) (q__law_steps : PySem.W.codeIn K cd__law_steps "_law_steps" = true) (k__law_steps : PySem.W.keepIn K (.ref f__law_steps) = true)
    {p_Network_empty f_Network_empty : Addr} {rs_Network_empty : List Value} (a_Network_empty : PySem.W.findCls K (.ref c_Network) (.type "type") "empty" = some (.get (.builtin "classmethod.__get__") (.ref p_Network_empty) .none (.ref c_Network))) (rc_Network_empty : PySem.W.recIn K p_Network_empty "classmethod" = some (.ref f_Network_empty :: rs_Network_empty)) (i_Network_empty : PySem.W.fnIn K f_Network_empty = true)
    {od_Network_empty an_Network_empty : Option Addr} {sl_Network_empty : Array (Option Value)} {kV_Network_empty dc_Network_empty pm_Network_empty cd_Network_empty ct_Network_empty : Value}
    (l_Network_empty : K.lookup f_Network_empty = some ⟨(.type "function"), od_Network_empty, .func (PySem.W.fnOf "empty" "Network.empty" (defArgs s_Network_empty) (defBody s_Network_empty) (defScope s_Network_empty) .none kV_Network_empty dc_Network_empty pm_Network_empty an_Network_empty cd_Network_empty ct_Network_empty), sl_Network_empty⟩) (q_Network_empty : PySem.W.codeIn K cd_Network_empty "Network.empty" = true) (k_Network_empty : PySem.W.keepIn K (.ref f_Network_empty) = true)
    {p_Network_full f_Network_full : Addr} {rs_Network_full : List Value} (a_Network_full : PySem.W.findCls K (.ref c_Network) (.type "type") "full" = some (.get (.builtin "classmethod.__get__") (.ref p_Network_full) .none (.ref c_Network))) (rc_Network_full : PySem.W.recIn K p_Network_full "classmethod" = some (.ref f_Network_full :: rs_Network_full)) (i_Network_full : PySem.W.fnIn K f_Network_full = true)
    {od_Network_full an_Network_full : Option Addr} {sl_Network_full : Array (Option Value)} {kV_Network_full dc_Network_full pm_Network_full cd_Network_full ct_Network_full : Value}
    (l_Network_full : K.lookup f_Network_full = some ⟨(.type "function"), od_Network_full, .func (PySem.W.fnOf "full" "Network.full" (defArgs s_Network_full) (defBody s_Network_full) (defScope s_Network_full) .none kV_Network_full dc_Network_full pm_Network_full an_Network_full cd_Network_full ct_Network_full), sl_Network_full⟩) (q_Network_full : PySem.W.codeIn K cd_Network_full "Network.full" = true) (k_Network_full : PySem.W.keepIn K (.ref f_Network_full) = true)
    {f_law : Addr} (a_law : PySem.W.nsIn K mainGlobals "law" = some (some (.ref f_law)))
    {od_law an_law : Option Addr} {sl_law : Array (Option Value)} {oc_law kV_law dc_law pm_law cd_law ct_law : Value}
    (l_law : K.lookup f_law = some ⟨oc_law, od_law, .func (PySem.W.fnOf "law" "law" (defArgs s_law) (defBody s_law) (defScope s_law) .none kV_law dc_law pm_law an_law cd_law ct_law), sl_law⟩) (q_law : PySem.W.codeIn K cd_law "law" = true) (k_law : PySem.W.keepIn K (.ref f_law) = true)
    {p_Network_steps f_Network_steps : Addr} {rs_Network_steps : List Value} (a_Network_steps : PySem.W.findIn K (.ref c_Network) "steps" = some (some (.ref p_Network_steps))) (ge_Network_steps : PySem.W.specialIn K (.ref p_Network_steps) "__get__" = some (some (.builtin "property.__get__"))) (ta_Network_steps : PySem.W.takesIn K (.ref p_Network_steps) = some true) (rc_Network_steps : PySem.W.recIn K p_Network_steps "property" = some (.ref f_Network_steps :: rs_Network_steps))
    {od_Network_steps an_Network_steps : Option Addr} {sl_Network_steps : Array (Option Value)} {oc_Network_steps kV_Network_steps dc_Network_steps pm_Network_steps cd_Network_steps ct_Network_steps : Value}
    (l_Network_steps : K.lookup f_Network_steps = some ⟨oc_Network_steps, od_Network_steps, .func (PySem.W.fnOf "steps" "Network.steps" (defArgs s_Network_steps) (defBody s_Network_steps) (defScope s_Network_steps) .none kV_Network_steps dc_Network_steps pm_Network_steps an_Network_steps cd_Network_steps ct_Network_steps), sl_Network_steps⟩) (q_Network_steps : PySem.W.codeIn K cd_Network_steps "Network.steps" = true) (k_Network_steps : PySem.W.keepIn K (.ref f_Network_steps) = true)
    {p_Network_width f_Network_width : Addr} {rs_Network_width : List Value} (a_Network_width : PySem.W.findIn K (.ref c_Network) "width" = some (some (.ref p_Network_width))) (ge_Network_width : PySem.W.specialIn K (.ref p_Network_width) "__get__" = some (some (.builtin "property.__get__"))) (ta_Network_width : PySem.W.takesIn K (.ref p_Network_width) = some true) (rc_Network_width : PySem.W.recIn K p_Network_width "property" = some (.ref f_Network_width :: rs_Network_width))
    {od_Network_width an_Network_width : Option Addr} {sl_Network_width : Array (Option Value)} {oc_Network_width kV_Network_width dc_Network_width pm_Network_width cd_Network_width ct_Network_width : Value}
    (l_Network_width : K.lookup f_Network_width = some ⟨oc_Network_width, od_Network_width, .func (PySem.W.fnOf "width" "Network.width" (defArgs s_Network_width) (defBody s_Network_width) (defScope s_Network_width) .none kV_Network_width dc_Network_width pm_Network_width an_Network_width cd_Network_width ct_Network_width), sl_Network_width⟩) (q_Network_width : PySem.W.codeIn K cd_Network_width "Network.width" = true) (k_Network_width : PySem.W.keepIn K (.ref f_Network_width) = true)
    (pg_Network : PySem.W.plainGet K c_Network Str.empty = true) (hd_Network : PySem.W.hasDictIn K c_Network = true) (po_Network : PySem.W.plainOver K c_Network = true) (sa_Network : PySem.W.findIn K (.ref c_Network) "__setattr__" = some (some (.builtin "object.__setattr__"))) (mk_Network : PySem.W.makesIn K c_Network = true) (kc_Network : PySem.W.keepIn K (.ref c_Network) = true)
    (na_Network_own_steps : PySem.W.findIn K (.ref c_Network) "own_steps" = some none)
    (na_Network_own_width : PySem.W.findIn K (.ref c_Network) "own_width" = some none)
    (rd_Network : PySem.W.readsIn K c_Network (.type "type") = true) (ga_Network : PySem.W.specialIn K (.ref c_Network) "__getattribute__" = some (some (.builtin "type.__getattribute__")))
    {t_Network_MAX_STEPS : Tok} (cv_Network_MAX_STEPS : PySem.W.findCls K (.ref c_Network) (.type "type") "MAX_STEPS" = some (.val (.int 1000 t_Network_MAX_STEPS)))
    {t_Network_MAX_WIDTH : Tok} (cv_Network_MAX_WIDTH : PySem.W.findCls K (.ref c_Network) (.type "type") "MAX_WIDTH" = some (.val (.int 40 t_Network_MAX_WIDTH)))
    (z_abs : PySem.W.nsIn K mainGlobals "abs" = some none)
    (z_bool : PySem.W.nsIn K mainGlobals "bool" = some none)
    (z_enumerate : PySem.W.nsIn K mainGlobals "enumerate" = some none)
    (z_int : PySem.W.nsIn K mainGlobals "int" = some none)
    (z_isinstance : PySem.W.nsIn K mainGlobals "isinstance" = some none)
    (z_len : PySem.W.nsIn K mainGlobals "len" = some none)
    (z_list : PySem.W.nsIn K mainGlobals "list" = some none)
    (z_max : PySem.W.nsIn K mainGlobals "max" = some none)
    (z_min : PySem.W.nsIn K mainGlobals "min" = some none)
    (z_range : PySem.W.nsIn K mainGlobals "range" = some none)
    (z_repr : PySem.W.nsIn K mainGlobals "repr" = some none)
    (z_sum : PySem.W.nsIn K mainGlobals "sum" = some none)
    (z_tuple : PySem.W.nsIn K mainGlobals "tuple" = some none) :
    ∃ (T : Tx K mg), ∀ base : Heap, K.In base → base.Ns mainGlobals mg → FnG l.prog w K mg base (L2.CX l.prog w) 9 fa (spM T.ca K m_law) := by
  have e : fa = f_law := by
    have := hfa.symm.trans (PySem.W.mg_of X G a_law)
    cases this
    rfl
  rw [e]
  let T : Tx K mg := {
    c_Network := c_Network
    g_Network := PySem.W.mg_of X G a_Network
    f__law_source := f__law_source
    d__law_source := PySem.W.fnOf "_law_source" "_law_source" (defArgs s__law_source) (defBody s__law_source) (defScope s__law_source) .none kV__law_source dc__law_source pm__law_source an__law_source cd__law_source ct__law_source
    F__law_source := fun_mk (st := s__law_source) l__law_source q__law_source k__law_source
    B__law_source := (fun_mk (st := s__law_source) l__law_source q__law_source k__law_source).binds (ps := ["_law_script", "_law_k"]) fun _ _ _ _ _ _ us hl => match us, hl with | [_, _], _ => rfl
    g__law_source := PySem.W.mg_of X G a__law_source
    f__law_draw := f__law_draw
    d__law_draw := PySem.W.fnOf "_law_draw" "_law_draw" (defArgs s__law_draw) (defBody s__law_draw) (defScope s__law_draw) .none kV__law_draw dc__law_draw pm__law_draw an__law_draw cd__law_draw ct__law_draw
    F__law_draw := fun_mk (st := s__law_draw) l__law_draw q__law_draw k__law_draw
    B__law_draw := (fun_mk (st := s__law_draw) l__law_draw q__law_draw k__law_draw).binds (ps := ["_law_source_here", "_law_count"]) fun _ _ _ _ _ _ us hl => match us, hl with | [_, _], _ => rfl
    g__law_draw := PySem.W.mg_of X G a__law_draw
    f_is_integer := f_is_integer
    d_is_integer := PySem.W.fnOf "is_integer" "is_integer" (defArgs s_is_integer) (defBody s_is_integer) (defScope s_is_integer) .none kV_is_integer dc_is_integer pm_is_integer an_is_integer cd_is_integer ct_is_integer
    F_is_integer := fun_mk (st := s_is_integer) l_is_integer q_is_integer k_is_integer
    B_is_integer := (fun_mk (st := s_is_integer) l_is_integer q_is_integer k_is_integer).binds (ps := ["value", "low", "high"]) fun _ _ _ _ _ _ us hl => match us, hl with | [_, _, _], _ => rfl
    g_is_integer := PySem.W.mg_of X G a_is_integer
    f_check_width := f_check_width
    d_check_width := PySem.W.fnOf "check_width" "check_width" (defArgs s_check_width) (defBody s_check_width) (defScope s_check_width) .none kV_check_width dc_check_width pm_check_width an_check_width cd_check_width ct_check_width
    F_check_width := fun_mk (st := s_check_width) l_check_width q_check_width k_check_width
    B_check_width := (fun_mk (st := s_check_width) l_check_width q_check_width k_check_width).binds (ps := ["width"]) fun _ _ _ _ _ _ us hl => match us, hl with | [_], _ => rfl
    g_check_width := PySem.W.mg_of X G a_check_width
    f_check_steps := f_check_steps
    d_check_steps := PySem.W.fnOf "check_steps" "check_steps" (defArgs s_check_steps) (defBody s_check_steps) (defScope s_check_steps) .none kV_check_steps dc_check_steps pm_check_steps an_check_steps cd_check_steps ct_check_steps
    F_check_steps := fun_mk (st := s_check_steps) l_check_steps q_check_steps k_check_steps
    B_check_steps := (fun_mk (st := s_check_steps) l_check_steps q_check_steps k_check_steps).binds (ps := ["width", "steps"]) fun _ _ _ _ _ _ us hl => match us, hl with | [_, _], _ => rfl
    g_check_steps := PySem.W.mg_of X G a_check_steps
    f_Network___init__ := f_Network___init__
    d_Network___init__ := PySem.W.fnOf "__init__" "Network.__init__" (defArgs s_Network___init__) (defBody s_Network___init__) (defScope s_Network___init__) .none kV_Network___init__ dc_Network___init__ pm_Network___init__ an_Network___init__ cd_Network___init__ ct_Network___init__
    F_Network___init__ := fun_mk (st := s_Network___init__) l_Network___init__ q_Network___init__ k_Network___init__
    B_Network___init__ := (fun_mk (st := s_Network___init__) l_Network___init__ q_Network___init__ k_Network___init__).binds (ps := ["self", "width", "steps"]) fun _ _ _ _ _ _ us hl => match us, hl with | [_, _, _], _ => rfl
    f_Network_backwards := f_Network_backwards
    d_Network_backwards := PySem.W.fnOf "backwards" "Network.backwards" (defArgs s_Network_backwards) (defBody s_Network_backwards) (defScope s_Network_backwards) .none kV_Network_backwards dc_Network_backwards pm_Network_backwards an_Network_backwards cd_Network_backwards ct_Network_backwards
    F_Network_backwards := fun_mk (st := s_Network_backwards) l_Network_backwards q_Network_backwards k_Network_backwards
    B_Network_backwards := (fun_mk (st := s_Network_backwards) l_Network_backwards q_Network_backwards k_Network_backwards).binds (ps := ["self"]) fun _ _ _ _ _ _ us hl => match us, hl with | [_], _ => rfl
    me_Network_backwards := ⟨a_Network_backwards, i_Network_backwards, k_Network_backwards⟩
    f_hardest := f_hardest
    d_hardest := PySem.W.fnOf "hardest" "hardest" (defArgs s_hardest) (defBody s_hardest) (defScope s_hardest) .none kV_hardest dc_hardest pm_hardest an_hardest cd_hardest ct_hardest
    F_hardest := fun_mk (st := s_hardest) l_hardest q_hardest k_hardest
    B_hardest := (fun_mk (st := s_hardest) l_hardest q_hardest k_hardest).binds (ps := ["network"]) fun _ _ _ _ _ _ us hl => match us, hl with | [_], _ => rfl
    g_hardest := PySem.W.mg_of X G a_hardest
    f__law_hardest := f__law_hardest
    d__law_hardest := PySem.W.fnOf "_law_hardest" "_law_hardest" (defArgs s__law_hardest) (defBody s__law_hardest) (defScope s__law_hardest) .none kV__law_hardest dc__law_hardest pm__law_hardest an__law_hardest cd__law_hardest ct__law_hardest
    F__law_hardest := fun_mk (st := s__law_hardest) l__law_hardest q__law_hardest k__law_hardest
    B__law_hardest := (fun_mk (st := s__law_hardest) l__law_hardest q__law_hardest k__law_hardest).binds (ps := ["_law_steps_here", "_law_width"]) fun _ _ _ _ _ _ us hl => match us, hl with | [_, _], _ => rfl
    g__law_hardest := PySem.W.mg_of X G a__law_hardest
    f__law_is_ascending := f__law_is_ascending
    d__law_is_ascending := PySem.W.fnOf "_law_is_ascending" "_law_is_ascending" (defArgs s__law_is_ascending) (defBody s__law_is_ascending) (defScope s__law_is_ascending) .none kV__law_is_ascending dc__law_is_ascending pm__law_is_ascending an__law_is_ascending cd__law_is_ascending ct__law_is_ascending
    F__law_is_ascending := fun_mk (st := s__law_is_ascending) l__law_is_ascending q__law_is_ascending k__law_is_ascending
    B__law_is_ascending := (fun_mk (st := s__law_is_ascending) l__law_is_ascending q__law_is_ascending k__law_is_ascending).binds (ps := ["_law_values"]) fun _ _ _ _ _ _ us hl => match us, hl with | [_], _ => rfl
    g__law_is_ascending := PySem.W.mg_of X G a__law_is_ascending
    f__law_result := f__law_result
    d__law_result := PySem.W.fnOf "_law_result" "_law_result" (defArgs s__law_result) (defBody s__law_result) (defScope s__law_result) .none kV__law_result dc__law_result pm__law_result an__law_result cd__law_result ct__law_result
    F__law_result := fun_mk (st := s__law_result) l__law_result q__law_result k__law_result
    B__law_result := (fun_mk (st := s__law_result) l__law_result q__law_result k__law_result).binds (ps := ["_law_steps_here", "_law_values"]) fun _ _ _ _ _ _ us hl => match us, hl with | [_, _], _ => rfl
    g__law_result := PySem.W.mg_of X G a__law_result
    f_places_up_to := f_places_up_to
    d_places_up_to := PySem.W.fnOf "places_up_to" "places_up_to" (defArgs s_places_up_to) (defBody s_places_up_to) (defScope s_places_up_to) .none kV_places_up_to dc_places_up_to pm_places_up_to an_places_up_to cd_places_up_to ct_places_up_to
    F_places_up_to := fun_mk (st := s_places_up_to) l_places_up_to q_places_up_to k_places_up_to
    B_places_up_to := (fun_mk (st := s_places_up_to) l_places_up_to q_places_up_to k_places_up_to).binds (ps := ["values", "threshold"]) fun _ _ _ _ _ _ us hl => match us, hl with | [_, _], _ => rfl
    g_places_up_to := PySem.W.mg_of X G a_places_up_to
    f_limits := f_limits
    d_limits := PySem.W.fnOf "limits" "limits" (defArgs s_limits) (defBody s_limits) (defScope s_limits) .none kV_limits dc_limits pm_limits an_limits cd_limits ct_limits
    F_limits := fun_mk (st := s_limits) l_limits q_limits k_limits
    B_limits := (fun_mk (st := s_limits) l_limits q_limits k_limits).binds (ps := ["network"]) fun _ _ _ _ _ _ us hl => match us, hl with | [_], _ => rfl
    g_limits := PySem.W.mg_of X G a_limits
    f__law_holds := f__law_holds
    d__law_holds := PySem.W.fnOf "_law_holds" "_law_holds" (defArgs s__law_holds) (defBody s__law_holds) (defScope s__law_holds) .none kV__law_holds dc__law_holds pm__law_holds an__law_holds cd__law_holds ct__law_holds
    F__law_holds := fun_mk (st := s__law_holds) l__law_holds q__law_holds k__law_holds
    B__law_holds := (fun_mk (st := s__law_holds) l__law_holds q__law_holds k__law_holds).binds (ps := ["_law_width", "_law_steps_here"]) fun _ _ _ _ _ _ us hl => match us, hl with | [_, _], _ => rfl
    g__law_holds := PySem.W.mg_of X G a__law_holds
    f__law_steps := f__law_steps
    d__law_steps := PySem.W.fnOf "_law_steps" "_law_steps" (defArgs s__law_steps) (defBody s__law_steps) (defScope s__law_steps) .none kV__law_steps dc__law_steps pm__law_steps an__law_steps cd__law_steps ct__law_steps
    F__law_steps := fun_mk (st := s__law_steps) l__law_steps q__law_steps k__law_steps
    B__law_steps := (fun_mk (st := s__law_steps) l__law_steps q__law_steps k__law_steps).binds (ps := ["_law_source_here", "_law_width", "_law_most"]) fun _ _ _ _ _ _ us hl => match us, hl with | [_, _, _], _ => rfl
    g__law_steps := PySem.W.mg_of X G a__law_steps
    f_Network_empty := f_Network_empty
    d_Network_empty := PySem.W.fnOf "empty" "Network.empty" (defArgs s_Network_empty) (defBody s_Network_empty) (defScope s_Network_empty) .none kV_Network_empty dc_Network_empty pm_Network_empty an_Network_empty cd_Network_empty ct_Network_empty
    F_Network_empty := fun_mk (st := s_Network_empty) l_Network_empty q_Network_empty k_Network_empty
    B_Network_empty := (fun_mk (st := s_Network_empty) l_Network_empty q_Network_empty k_Network_empty).binds (ps := ["cls", "width"]) fun _ _ _ _ _ _ us hl => match us, hl with | [_, _], _ => rfl
    p_Network_empty := p_Network_empty
    cm_Network_empty := ⟨a_Network_empty, ⟨rs_Network_empty, rc_Network_empty⟩, i_Network_empty⟩
    f_Network_full := f_Network_full
    d_Network_full := PySem.W.fnOf "full" "Network.full" (defArgs s_Network_full) (defBody s_Network_full) (defScope s_Network_full) .none kV_Network_full dc_Network_full pm_Network_full an_Network_full cd_Network_full ct_Network_full
    F_Network_full := fun_mk (st := s_Network_full) l_Network_full q_Network_full k_Network_full
    B_Network_full := (fun_mk (st := s_Network_full) l_Network_full q_Network_full k_Network_full).binds (ps := ["cls", "width"]) fun _ _ _ _ _ _ us hl => match us, hl with | [_, _], _ => rfl
    p_Network_full := p_Network_full
    cm_Network_full := ⟨a_Network_full, ⟨rs_Network_full, rc_Network_full⟩, i_Network_full⟩
    f_law := f_law
    d_law := PySem.W.fnOf "law" "law" (defArgs s_law) (defBody s_law) (defScope s_law) .none kV_law dc_law pm_law an_law cd_law ct_law
    F_law := fun_mk (st := s_law) l_law q_law k_law
    B_law := (fun_mk (st := s_law) l_law q_law k_law).binds (ps := ["_law_script"]) fun _ _ _ _ _ _ us hl => match us, hl with | [_], _ => rfl
    g_law := PySem.W.mg_of X G a_law
    f_Network_steps := f_Network_steps
    d_Network_steps := PySem.W.fnOf "steps" "Network.steps" (defArgs s_Network_steps) (defBody s_Network_steps) (defScope s_Network_steps) .none kV_Network_steps dc_Network_steps pm_Network_steps an_Network_steps cd_Network_steps ct_Network_steps
    F_Network_steps := fun_mk (st := s_Network_steps) l_Network_steps q_Network_steps k_Network_steps
    B_Network_steps := (fun_mk (st := s_Network_steps) l_Network_steps q_Network_steps k_Network_steps).binds (ps := ["self"]) fun _ _ _ _ _ _ us hl => match us, hl with | [_], _ => rfl
    p_Network_steps := p_Network_steps
    pr_Network_steps := ⟨a_Network_steps, ge_Network_steps, ta_Network_steps, rs_Network_steps, rc_Network_steps⟩
    f_Network_width := f_Network_width
    d_Network_width := PySem.W.fnOf "width" "Network.width" (defArgs s_Network_width) (defBody s_Network_width) (defScope s_Network_width) .none kV_Network_width dc_Network_width pm_Network_width an_Network_width cd_Network_width ct_Network_width
    F_Network_width := fun_mk (st := s_Network_width) l_Network_width q_Network_width k_Network_width
    B_Network_width := (fun_mk (st := s_Network_width) l_Network_width q_Network_width k_Network_width).binds (ps := ["self"]) fun _ _ _ _ _ _ us hl => match us, hl with | [_], _ => rfl
    p_Network_width := p_Network_width
    pr_Network_width := ⟨a_Network_width, ge_Network_width, ta_Network_width, rs_Network_width, rc_Network_width⟩
    cl_Network := ⟨pg_Network, hd_Network, po_Network, sa_Network⟩
    mk_Network := ⟨mk_Network, a_Network___init__, i_Network___init__, kc_Network⟩
    na_Network_own_steps := na_Network_own_steps
    na_Network_own_width := na_Network_own_width
    mc_Network := .type "type"
    rd_Network := ⟨rd_Network, ga_Network⟩
    v_Network_MAX_STEPS := .int 1000 t_Network_MAX_STEPS
    cv_Network_MAX_STEPS := ⟨cv_Network_MAX_STEPS, _, rfl⟩
    v_Network_MAX_WIDTH := .int 40 t_Network_MAX_WIDTH
    cv_Network_MAX_WIDTH := ⟨cv_Network_MAX_WIDTH, _, rfl⟩
    z_abs := PySem.W.mg_none_of X G z_abs
    z_bool := PySem.W.mg_none_of X G z_bool
    z_enumerate := PySem.W.mg_none_of X G z_enumerate
    z_int := PySem.W.mg_none_of X G z_int
    z_isinstance := PySem.W.mg_none_of X G z_isinstance
    z_len := PySem.W.mg_none_of X G z_len
    z_list := PySem.W.mg_none_of X G z_list
    z_max := PySem.W.mg_none_of X G z_max
    z_min := PySem.W.mg_none_of X G z_min
    z_range := PySem.W.mg_none_of X G z_range
    z_repr := PySem.W.mg_none_of X G z_repr
    z_sum := PySem.W.mg_none_of X G z_sum
    z_tuple := PySem.W.mg_none_of X G z_tuple }
  exact ⟨T, fun base _ _ => ok_law T⟩
theorem walk_fact {P : Program} {w : World} {K : PySem.W.Frag} {mg : Str → Option Value} {fa : Addr} (h : ∃ (T : Tx K mg), ∀ base : Heap, K.In base → base.Ns mainGlobals mg → FnG P w K mg base (L2.CX P w) 9 fa (spM T.ca K m_law)) :
    ∃ (ca : Nat → Addr), ∀ base : Heap, K.In base → base.Ns mainGlobals mg → FnG P w K mg base (L2.CX P w) 9 fa (spM ca K m_law) :=
  let ⟨T, h1⟩ := h
  ⟨T.ca, h1⟩
end Lw30

namespace Lw30
open PySem (Str)
open DL Nw
local macro_rules | `(tactic| walk_at "g") => `(tactic| first | exact rfl | (with_reducible assumption))
local macro_rules | `(tactic| walk_at "s") => `(tactic| first | (with_reducible exact set_0) | ((with_reducible apply set_s); walk_at "s") | (with_reducible assumption) | exact rfl)
local macro_rules | `(tactic| walk_at "fl") => `(tactic| first | (with_reducible exact nums_frz _) | (with_reducible exact fzL_n) | ((with_reducible apply fzL_c); walk_at "f"; walk_at "fl") | (with_reducible assumption))
local macro_rules | `(tactic| walk_at "f") => `(tactic| first | (with_reducible exact fz_i) | (with_reducible exact fz_b) | (with_reducible exact fz_n) | (with_reducible exact fz_s) | (with_reducible exact fz_l) | (with_reducible exact fz_t) | ((with_reducible apply fz_lst); walk_at "fl") | ((with_reducible apply fz_tup); walk_at "fl") | (with_reducible assumption) | exact rfl)
local macro_rules | `(tactic| walk_at "k") => `(tactic| first | (with_reducible assumption) | (with_reducible exact rfl) | omega | (intro z; omega) | decide)
local macro_rules | `(tactic| walk_at "d") => `(tactic| first | (with_reducible exact od_val) | (with_reducible exact od_newL) | (with_reducible exact od_newT) | ((with_reducible apply od_eq); first | (with_reducible exact rfl) | ((with_reducible apply nbl_n); walk_at "k") | ((with_reducible apply bl_n); walk_at "k") | ((with_reducible apply bl_y); walk_at "k") | ((with_reducible apply nbl_y); walk_at "k")))
local macro_rules | `(tactic| walk_at "h") => `(tactic| first | (with_reducible assumption) | (simp only [List.nil_append, List.cons_append]; with_reducible assumption))
local macro_rules | `(tactic| walk_at "o") => `(tactic| first | (with_reducible assumption) | (with_reducible exact add_i) | (with_reducible exact sub_i) | (with_reducible exact lt_i) | (with_reducible exact le_i) | (with_reducible exact gt_i) | (with_reducible exact ge_i) | (with_reducible exact int_i) | (with_reducible exact int_b) | (with_reducible exact abs_i) | (with_reducible exact neg_i) | (with_reducible exact oLen_l) | (with_reducible exact oLen_scr _) | (with_reducible exact len_t) | (with_reducible exact tup_t) | (with_reducible exact oSorted_l) | (with_reducible exact oSum_nums _ _) | (with_reducible exact eq_of (pEq_int _ _)) | (with_reducible exact ne_of (pNe_int _ _)) | (with_reducible exact eq_of (pEq_lst _ _ _ _)) | (with_reducible exact ne_of (pNe_lst _ _ _ _)) | (with_reducible exact eq_of (pEq_tup _ _)) | (with_reducible exact ne_of (pNe_tup _ _)) | (with_reducible exact eq_of (pEq_bl _ _)) | (with_reducible exact ne_of (pNe_bl _ _)) | ((with_reducible apply lst_o); omega) | ((with_reducible apply lst_t); omega) | ((with_reducible apply tup_l); omega) | ((with_reducible apply oMod_v); omega) | ((with_reducible apply oDiv_v); omega; omega) | ((with_reducible apply oDiv_w); omega; omega) | ((with_reducible apply oMul_v); omega) | ((with_reducible apply oMul_l); omega) | ((with_reducible apply oIx_nums); omega; omega) | ((with_reducible apply oIx_tup); omega; omega))
local macro_rules | `(tactic| walk_at "a") => `(tactic| first | (with_reducible exact xANil) | ((with_reducible apply xACons); walk_at "e"; walk_at "a"))
local macro_rules | `(tactic| walk_at "it") => `(tactic| first | (with_reducible exact lst_it) | (with_reducible exact tup_it) | exact rfl)
local macro_rules | `(tactic| walk_at "cd") => `(tactic| first | (with_reducible exact nums_colds _) | (with_reducible exact colds_range _ _) | (with_reducible assumption) | exact rfl)
local macro_rules | `(tactic| walk_at "w") => `(tactic| first | ((with_reducible apply wE); walk_at "e"; walk_at "it"; walk_at "cd") | (with_reducible assumption))
local macro_rules | `(tactic| walk_at "e") => `(tactic| first | (with_reducible assumption) | (with_reducible exact xC) | ((with_reducible apply xN); walk_at "g"; exact rfl) | ((with_reducible apply xNf); walk_at "g"; exact rfl; walk_at "f"; walk_at "s") | ((with_reducible apply xMv); walk_at "g"; walk_at "s") | ((with_reducible apply xOvv); walk_at "e"; walk_at "e"; walk_at "o"; walk_at "d") | ((with_reducible apply xOvs); walk_at "e"; walk_at "g"; walk_at "o"; walk_at "d") | ((with_reducible apply xOsv); walk_at "g"; walk_at "e"; walk_at "g"; walk_at "o"; walk_at "d") | ((with_reducible apply xOss); walk_at "g"; walk_at "g"; walk_at "o"; walk_at "d") | ((with_reducible apply xOv); walk_at "e"; walk_at "o"; walk_at "d") | ((with_reducible apply xOs); walk_at "g"; walk_at "o"; walk_at "d") | ((with_reducible apply xCall); walk_at "a"; walk_at "h") | ((with_reducible apply xCallL); walk_at "a"; walk_at "g"; walk_at "a"; walk_at "g"; exact rfl; walk_at "h"; exact rfl; walk_at "s") | ((with_reducible apply xCallLc); walk_at "a"; walk_at "g"; walk_at "a"; walk_at "g"; exact rfl; walk_at "h") | ((with_reducible apply xMake); walk_at "a"; walk_at "h") | ((with_reducible apply xFz); walk_at "e"; walk_at "f") | ((with_reducible apply xMth); walk_at "e"; walk_at "m"; walk_at "a"; walk_at "h") | ((with_reducible apply xLst); walk_at "a"; exact rfl) | ((with_reducible apply xTup); walk_at "a"; exact rfl; walk_at "fl") | ((with_reducible apply xNot); walk_at "e") | ((with_reducible apply xAndB); walk_at "e"; walk_at "e") | ((with_reducible apply xOrB); walk_at "e"; walk_at "e") | ((with_reducible apply xIfT); walk_at "c"; walk_at "e") | ((with_reducible apply xIfF); walk_at "c"; walk_at "e") | ((with_reducible apply xApp); walk_at "g"; exact rfl; walk_at "e"; walk_at "g"; walk_at "n"; walk_at "s") | ((with_reducible apply xExt); walk_at "g"; exact rfl; walk_at "e"; walk_at "g"; walk_at "n"; walk_at "s") | ((with_reducible apply xExtT); walk_at "g"; exact rfl; walk_at "e"; walk_at "g"; walk_at "n"; walk_at "s") | ((with_reducible apply xMtS); walk_at "g"; exact rfl; walk_at "g"; walk_at "o"; walk_at "d") | ((with_reducible apply xEqI); walk_at "e"; walk_at "e"; exact rfl; exact rfl; walk_at "h"; walk_at "i") | ((with_reducible apply xLenI); walk_at "e"; exact rfl; walk_at "h"; walk_at "n"))
local macro_rules | `(tactic| walk_at "i") => `(tactic| first | exact rfl | (show D.bl (decide _) = _; apply bl_y; walk_at "k") | (show D.bl (!decide _) = _; apply nbl_n; walk_at "k"))
local macro_rules | `(tactic| walk_at "n") => `(tactic| first | (simp only [nums_len, List.length_append, List.length_cons, List.length_nil]; omega) | omega | exact rfl)
local macro_rules | `(tactic| walk_at "c") => `(tactic| first | ((with_reducible apply cE); walk_at "e") | ((with_reducible apply cNotF); walk_at "c") | ((with_reducible apply cNotT); walk_at "c") | ((with_reducible apply cOrT); walk_at "c") | ((with_reducible apply cAndF); walk_at "c") | ((with_reducible apply cOrF); walk_at "c"; walk_at "c") | ((with_reducible apply cAndT); walk_at "c"; walk_at "c"))
local macro_rules | `(tactic| walk_at "t") => `(tactic| first | ((with_reducible apply gN_r); walk_at "s") | ((with_reducible apply gIx_r); exact rfl; walk_at "g"; walk_at "e"; walk_at "g"; walk_at "j"; walk_at "s"))
local macro_rules | `(tactic| walk_at "j") => `(tactic| first | exact rfl | (simp only [nums_len]; apply ixN_nat <;> omega))
local macro_rules | `(tactic| walk_at "z") => `(tactic| first | ((with_reducible apply zAsg); walk_at "e"; walk_at "t") | ((with_reducible apply zExpr); walk_at "e") | ((with_reducible apply zRet); walk_at "e") | ((with_reducible apply zPar); walk_at "a"; walk_at "s"; walk_at "s") | ((with_reducible apply zAug); walk_at "g"; exact rfl; walk_at "e"; walk_at "o"; walk_at "s") | (with_reducible exact zSkip) | ((with_reducible apply zNo); walk_at "c"; walk_at "z") | ((with_reducible apply zYes); walk_at "c"; walk_at "z") | ((with_reducible apply zSeq); walk_at "z"; walk_at "z") | ((with_reducible apply zSeqR); walk_at "z"))
local macro_rules | `(tactic| walk_at "m") => `(tactic| first | (with_reducible assumption) | exact rfl)
theorem fw_ne : (("own_width" : Str) = "own_steps") = False := eq_false (by decide +kernel)
theorem fs_ne : (("own_steps" : Str) = "own_width") = False := eq_false (by decide +kernel)
theorem fs_beq : (("own_steps" : Str) == "own_width") = false := by decide +kernel
theorem fw_beq : (("own_width" : Str) == "own_steps") = false := by decide +kernel
abbrev net (o : Bool) (w : Int) (ss : List Int) : D := .ins o 0 [("own_width", .int w), ("own_steps", .tup (nums ss))]
theorem is_integer_ok (a lo hi : Int) : m_is_integer [.int a, .int lo, .int hi] = .ok (.bl (decide (lo ≤ a ∧ a ≤ hi))) [some (.int a), some (.int lo), some (.int hi)] := by
  by_cases h1 : lo ≤ a <;> by_cases h2 : a ≤ hi <;> simp [m_is_integer, b_is_integer, h1, h2, fn, sSeq, SR.thn, sAsg, sExpr, sRet, sRetN, sIf, sNext, sFail, sBrk, sCont, Res.toS, Res.toN, Res.bind, tE, tNotM, tOrM, tAndM, tYesM, eC, eN, eMv, eOp, opds, eAnd, eOr, eNot, eIf, eChain, aNil, aCons, eLst, eTup, eCall, eCallL, eFz, eLc, eLc2, eApp, isLst, wipeS, eMake, eEqI, insC, keepL, getS, gN, gIx, gT, gTupM, sPar, sFor, iR1, iR2, iRD, iE, iEn, iEnT, iEnA, iEA, oIsiB, noScr, tyName, f2, pLe, pLt, pGe, pGt, oAdd, oSub, oMul, oMod, oDiv, oPow, oNeg, oAbs, oInt, oMax2, oMin2, oLen, items, lstItems, tupItems, hot, cold, Out.d, frz, frzL, frzF, List.range, List.range.loop, isN, oIsN, oNotN, oIsB, oNotB, pEq_int, pNe_int, pEq_bl, pNe_bl, pEq_lst, pNe_lst, pEq_tup, pNe_tup, kb_NoneType_int, kb_NoneType_bool, kb_NoneType_list, kb_NoneType_tuple, kb_NoneType_str, kb_bool_int, kb_bool_bool, kb_bool_list, kb_bool_tuple, kb_bool_str, kb_int_int, kb_int_bool, kb_int_list, kb_int_tuple, kb_int_str, kb_str_int, kb_str_bool, kb_str_list, kb_str_tuple, kb_str_str, kb_list_int, kb_list_bool, kb_list_list, kb_list_tuple, kb_list_str, kb_tuple_int, kb_tuple_bool, kb_tuple_list, kb_tuple_tuple, kb_tuple_str, kb_dict_int, kb_dict_bool, kb_dict_list, kb_dict_tuple, kb_dict_str]
theorem check_width_ok {w : Int} (h1 : 1 ≤ w) (h2 : w ≤ 40) : m_check_width [.int w] = .ok .non [some (.int w)] := by
  simp [m_check_width, b_check_width, is_integer_ok, h1, h2, fn, sSeq, SR.thn, sAsg, sExpr, sRet, sRetN, sIf, sNext, sFail, sBrk, sCont, Res.toS, Res.toN, Res.bind, tE, tNotM, tOrM, tAndM, tYesM, eC, eN, eMv, eOp, opds, eAnd, eOr, eNot, eIf, eChain, aNil, aCons, eLst, eTup, eCall, eCallL, eFz, eLc, eLc2, eApp, isLst, wipeS, eMake, eEqI, insC, keepL, getS, gN, gIx, gT, gTupM, sPar, sFor, iR1, iR2, iRD, iE, iEn, iEnT, iEnA, iEA, oIsiB, noScr, tyName, f2, pLe, pLt, pGe, pGt, oAdd, oSub, oMul, oMod, oDiv, oPow, oNeg, oAbs, oInt, oMax2, oMin2, oLen, items, lstItems, tupItems, hot, cold, Out.d, frz, frzL, frzF, List.range, List.range.loop, isN, oIsN, oNotN, oIsB, oNotB, pEq_int, pNe_int, pEq_bl, pNe_bl, pEq_lst, pNe_lst, pEq_tup, pNe_tup, kb_NoneType_int, kb_NoneType_bool, kb_NoneType_list, kb_NoneType_tuple, kb_NoneType_str, kb_bool_int, kb_bool_bool, kb_bool_list, kb_bool_tuple, kb_bool_str, kb_int_int, kb_int_bool, kb_int_list, kb_int_tuple, kb_int_str, kb_str_int, kb_str_bool, kb_str_list, kb_str_tuple, kb_str_str, kb_list_int, kb_list_bool, kb_list_list, kb_list_tuple, kb_list_str, kb_tuple_int, kb_tuple_bool, kb_tuple_list, kb_tuple_tuple, kb_tuple_str, kb_dict_int, kb_dict_bool, kb_dict_list, kb_dict_tuple, kb_dict_str]
theorem okS_at {w : Int} {ss : List Int} {i : Nat} {s : Int} (h : okS w ss) (e : ss[i]? = some s) : 1 ≤ s ∧ s ≤ w - 1 := h s (List.mem_of_getElem? e)
theorem check_steps_ok {w : Int} {ss : List Int} (h : okS w ss) (hl : ss.length ≤ 1000) : m_check_steps [.int w, .lst false (nums ss)] = .ok .non [some (.int w), some (.lst false (nums ss))] := by
  obtain ⟨st', e, x, y, hst⟩ := forD_ok (g := fg1_check_steps) (body := fb1_check_steps) (fun _ st => ∃ x y, st = [some (.int w), some (.lst false (nums ss)), x, y]) (enumD 0 (nums ss)) 0
    [some (.int w), some (.lst false (nums ss)), none, none] ⟨none, none, rfl⟩ (fun i d st e hI => by
      obtain ⟨x, y, rfl⟩ := hI
      obtain ⟨d', e1, rfl⟩ := enumD_get e
      obtain ⟨s, e2, rfl⟩ := nums_get e1
      obtain ⟨h1, h2⟩ := okS_at h e2
      refine ⟨_, [some (.int w), some (.lst false (nums ss)), some (.int ((0 + i : Nat) : Int)), some (.int s)], rfl, .inl ?_, _, _, rfl⟩
      have h3 : s ≤ w - 1 := h2
      simp [fb1_check_steps, is_integer_ok, h1, h3, fn, sSeq, SR.thn, sAsg, sExpr, sRet, sRetN, sIf, sNext, sFail, sBrk, sCont, Res.toS, Res.toN, Res.bind, tE, tNotM, tOrM, tAndM, tYesM, eC, eN, eMv, eOp, opds, eAnd, eOr, eNot, eIf, eChain, aNil, aCons, eLst, eTup, eCall, eCallL, eFz, eLc, eLc2, eApp, isLst, wipeS, eMake, eEqI, insC, keepL, getS, gN, gIx, gT, gTupM, sPar, sFor, iR1, iR2, iRD, iE, iEn, iEnT, iEnA, iEA, oIsiB, noScr, tyName, f2, pLe, pLt, pGe, pGt, oAdd, oSub, oMul, oMod, oDiv, oPow, oNeg, oAbs, oInt, oMax2, oMin2, oLen, items, lstItems, tupItems, hot, cold, Out.d, frz, frzL, frzF, List.range, List.range.loop, isN, oIsN, oNotN, oIsB, oNotB, pEq_int, pNe_int, pEq_bl, pNe_bl, pEq_lst, pNe_lst, pEq_tup, pNe_tup, kb_NoneType_int, kb_NoneType_bool, kb_NoneType_list, kb_NoneType_tuple, kb_NoneType_str, kb_bool_int, kb_bool_bool, kb_bool_list, kb_bool_tuple, kb_bool_str, kb_int_int, kb_int_bool, kb_int_list, kb_int_tuple, kb_int_str, kb_str_int, kb_str_bool, kb_str_list, kb_str_tuple, kb_str_str, kb_list_int, kb_list_bool, kb_list_list, kb_list_tuple, kb_list_str, kb_tuple_int, kb_tuple_bool, kb_tuple_list, kb_tuple_tuple, kb_tuple_str, kb_dict_int, kb_dict_bool, kb_dict_list, kb_dict_tuple, kb_dict_str])
  subst hst
  have h4 : ¬ (1000 < (ss.length : Int)) := by omega
  simp [m_check_steps, b_check_steps, oIsi2, nums_len, nums_colds, e, h4, fn, sSeq, SR.thn, sAsg, sExpr, sRet, sRetN, sIf, sNext, sFail, sBrk, sCont, Res.toS, Res.toN, Res.bind, tE, tNotM, tOrM, tAndM, tYesM, eC, eN, eMv, eOp, opds, eAnd, eOr, eNot, eIf, eChain, aNil, aCons, eLst, eTup, eCall, eCallL, eFz, eLc, eLc2, eApp, isLst, wipeS, eMake, eEqI, insC, keepL, getS, gN, gIx, gT, gTupM, sPar, sFor, iR1, iR2, iRD, iE, iEn, iEnT, iEnA, iEA, oIsiB, noScr, tyName, f2, pLe, pLt, pGe, pGt, oAdd, oSub, oMul, oMod, oDiv, oPow, oNeg, oAbs, oInt, oMax2, oMin2, oLen, items, lstItems, tupItems, hot, cold, Out.d, frz, frzL, frzF, List.range, List.range.loop, isN, oIsN, oNotN, oIsB, oNotB, pEq_int, pNe_int, pEq_bl, pNe_bl, pEq_lst, pNe_lst, pEq_tup, pNe_tup, kb_NoneType_int, kb_NoneType_bool, kb_NoneType_list, kb_NoneType_tuple, kb_NoneType_str, kb_bool_int, kb_bool_bool, kb_bool_list, kb_bool_tuple, kb_bool_str, kb_int_int, kb_int_bool, kb_int_list, kb_int_tuple, kb_int_str, kb_str_int, kb_str_bool, kb_str_list, kb_str_tuple, kb_str_str, kb_list_int, kb_list_bool, kb_list_list, kb_list_tuple, kb_list_str, kb_tuple_int, kb_tuple_bool, kb_tuple_list, kb_tuple_tuple, kb_tuple_str, kb_dict_int, kb_dict_bool, kb_dict_list, kb_dict_tuple, kb_dict_str]
theorem init_ok {w : Int} {ss : List Int} (h1 : 1 ≤ w) (h2 : w ≤ 40) (h : okS w ss) (hl : ss.length ≤ 1000) (o : Bool) : ∃ ps, m_Network___init__ [.ins true 0 [], .int w, .lst o (nums ss)] = .ok .non (some (net true w ss) :: ps) := by
  have h3 : ss.length ≤ 16777216 := by omega
  cases o <;> simp [m_Network___init__, b_Network___init__, check_width_ok h1 h2, check_steps_ok h hl, sFldM, oTuple, putD, fw_ne, fs_ne, nums_frz, nums_len, nums_colds, h3, net, fn, sSeq, SR.thn, sAsg, sExpr, sRet, sRetN, sIf, sNext, sFail, sBrk, sCont, Res.toS, Res.toN, Res.bind, tE, tNotM, tOrM, tAndM, tYesM, eC, eN, eMv, eOp, opds, eAnd, eOr, eNot, eIf, eChain, aNil, aCons, eLst, eTup, eCall, eCallL, eFz, eLc, eLc2, eApp, isLst, wipeS, eMake, eEqI, insC, keepL, getS, gN, gIx, gT, gTupM, sPar, sFor, iR1, iR2, iRD, iE, iEn, iEnT, iEnA, iEA, oIsiB, noScr, tyName, f2, pLe, pLt, pGe, pGt, oAdd, oSub, oMul, oMod, oDiv, oPow, oNeg, oAbs, oInt, oMax2, oMin2, oLen, items, lstItems, tupItems, hot, cold, Out.d, frz, frzL, frzF, List.range, List.range.loop, isN, oIsN, oNotN, oIsB, oNotB, pEq_int, pNe_int, pEq_bl, pNe_bl, pEq_lst, pNe_lst, pEq_tup, pNe_tup, kb_NoneType_int, kb_NoneType_bool, kb_NoneType_list, kb_NoneType_tuple, kb_NoneType_str, kb_bool_int, kb_bool_bool, kb_bool_list, kb_bool_tuple, kb_bool_str, kb_int_int, kb_int_bool, kb_int_list, kb_int_tuple, kb_int_str, kb_str_int, kb_str_bool, kb_str_list, kb_str_tuple, kb_str_str, kb_list_int, kb_list_bool, kb_list_list, kb_list_tuple, kb_list_str, kb_tuple_int, kb_tuple_bool, kb_tuple_list, kb_tuple_tuple, kb_tuple_str, kb_dict_int, kb_dict_bool, kb_dict_list, kb_dict_tuple, kb_dict_str]
theorem check_steps_tup {w : Int} {ss : List Int} (h : okS w ss) (hl : ss.length ≤ 1000) : m_check_steps [.int w, .tup (nums ss)] = .ok .non [some (.int w), some (.tup (nums ss))] := by
  obtain ⟨st', e, x, y, hst⟩ := forD_ok (g := fg1_check_steps) (body := fb1_check_steps) (fun _ st => ∃ x y, st = [some (.int w), some (.tup (nums ss)), x, y]) (enumD 0 (nums ss)) 0
    [some (.int w), some (.tup (nums ss)), none, none] ⟨none, none, rfl⟩ (fun i d st e hI => by
      obtain ⟨x, y, rfl⟩ := hI
      obtain ⟨d', e1, rfl⟩ := enumD_get e
      obtain ⟨s, e2, rfl⟩ := nums_get e1
      obtain ⟨h1, h2⟩ := okS_at h e2
      refine ⟨_, [some (.int w), some (.tup (nums ss)), some (.int ((0 + i : Nat) : Int)), some (.int s)], rfl, .inl ?_, _, _, rfl⟩
      have h3 : s ≤ w - 1 := h2
      simp [fb1_check_steps, is_integer_ok, h1, h3, fn, sSeq, SR.thn, sAsg, sExpr, sRet, sRetN, sIf, sNext, sFail, sBrk, sCont, Res.toS, Res.toN, Res.bind, tE, tNotM, tOrM, tAndM, tYesM, eC, eN, eMv, eOp, opds, eAnd, eOr, eNot, eIf, eChain, aNil, aCons, eLst, eTup, eCall, eCallL, eFz, eLc, eLc2, eApp, isLst, wipeS, eMake, eEqI, insC, keepL, getS, gN, gIx, gT, gTupM, sPar, sFor, iR1, iR2, iRD, iE, iEn, iEnT, iEnA, iEA, oIsiB, noScr, tyName, f2, pLe, pLt, pGe, pGt, oAdd, oSub, oMul, oMod, oDiv, oPow, oNeg, oAbs, oInt, oMax2, oMin2, oLen, items, lstItems, tupItems, hot, cold, Out.d, frz, frzL, frzF, List.range, List.range.loop, isN, oIsN, oNotN, oIsB, oNotB, pEq_int, pNe_int, pEq_bl, pNe_bl, pEq_lst, pNe_lst, pEq_tup, pNe_tup, kb_NoneType_int, kb_NoneType_bool, kb_NoneType_list, kb_NoneType_tuple, kb_NoneType_str, kb_bool_int, kb_bool_bool, kb_bool_list, kb_bool_tuple, kb_bool_str, kb_int_int, kb_int_bool, kb_int_list, kb_int_tuple, kb_int_str, kb_str_int, kb_str_bool, kb_str_list, kb_str_tuple, kb_str_str, kb_list_int, kb_list_bool, kb_list_list, kb_list_tuple, kb_list_str, kb_tuple_int, kb_tuple_bool, kb_tuple_list, kb_tuple_tuple, kb_tuple_str, kb_dict_int, kb_dict_bool, kb_dict_list, kb_dict_tuple, kb_dict_str])
  subst hst
  have h4 : ¬ (1000 < (ss.length : Int)) := by omega
  simp [m_check_steps, b_check_steps, oIsi2, nums_len, nums_colds, e, h4, fn, sSeq, SR.thn, sAsg, sExpr, sRet, sRetN, sIf, sNext, sFail, sBrk, sCont, Res.toS, Res.toN, Res.bind, tE, tNotM, tOrM, tAndM, tYesM, eC, eN, eMv, eOp, opds, eAnd, eOr, eNot, eIf, eChain, aNil, aCons, eLst, eTup, eCall, eCallL, eFz, eLc, eLc2, eApp, isLst, wipeS, eMake, eEqI, insC, keepL, getS, gN, gIx, gT, gTupM, sPar, sFor, iR1, iR2, iRD, iE, iEn, iEnT, iEnA, iEA, oIsiB, noScr, tyName, f2, pLe, pLt, pGe, pGt, oAdd, oSub, oMul, oMod, oDiv, oPow, oNeg, oAbs, oInt, oMax2, oMin2, oLen, items, lstItems, tupItems, hot, cold, Out.d, frz, frzL, frzF, List.range, List.range.loop, isN, oIsN, oNotN, oIsB, oNotB, pEq_int, pNe_int, pEq_bl, pNe_bl, pEq_lst, pNe_lst, pEq_tup, pNe_tup, kb_NoneType_int, kb_NoneType_bool, kb_NoneType_list, kb_NoneType_tuple, kb_NoneType_str, kb_bool_int, kb_bool_bool, kb_bool_list, kb_bool_tuple, kb_bool_str, kb_int_int, kb_int_bool, kb_int_list, kb_int_tuple, kb_int_str, kb_str_int, kb_str_bool, kb_str_list, kb_str_tuple, kb_str_str, kb_list_int, kb_list_bool, kb_list_list, kb_list_tuple, kb_list_str, kb_tuple_int, kb_tuple_bool, kb_tuple_list, kb_tuple_tuple, kb_tuple_str, kb_dict_int, kb_dict_bool, kb_dict_list, kb_dict_tuple, kb_dict_str]
theorem init_tup {w : Int} {ss : List Int} (h1 : 1 ≤ w) (h2 : w ≤ 40) (h : okS w ss) (hl : ss.length ≤ 1000) : ∃ ps, m_Network___init__ [.ins true 0 [], .int w, .tup (nums ss)] = .ok .non (some (net true w ss) :: ps) := by
  have h3 : ss.length ≤ 16777216 := by omega
  simp [m_Network___init__, b_Network___init__, check_width_ok h1 h2, check_steps_tup h hl, sFldM, oTuple, putD, fw_ne, fs_ne, nums_frz, nums_len, nums_colds, h3, net, fn, sSeq, SR.thn, sAsg, sExpr, sRet, sRetN, sIf, sNext, sFail, sBrk, sCont, Res.toS, Res.toN, Res.bind, tE, tNotM, tOrM, tAndM, tYesM, eC, eN, eMv, eOp, opds, eAnd, eOr, eNot, eIf, eChain, aNil, aCons, eLst, eTup, eCall, eCallL, eFz, eLc, eLc2, eApp, isLst, wipeS, eMake, eEqI, insC, keepL, getS, gN, gIx, gT, gTupM, sPar, sFor, iR1, iR2, iRD, iE, iEn, iEnT, iEnA, iEA, oIsiB, noScr, tyName, f2, pLe, pLt, pGe, pGt, oAdd, oSub, oMul, oMod, oDiv, oPow, oNeg, oAbs, oInt, oMax2, oMin2, oLen, items, lstItems, tupItems, hot, cold, Out.d, frz, frzL, frzF, List.range, List.range.loop, isN, oIsN, oNotN, oIsB, oNotB, pEq_int, pNe_int, pEq_bl, pNe_bl, pEq_lst, pNe_lst, pEq_tup, pNe_tup, kb_NoneType_int, kb_NoneType_bool, kb_NoneType_list, kb_NoneType_tuple, kb_NoneType_str, kb_bool_int, kb_bool_bool, kb_bool_list, kb_bool_tuple, kb_bool_str, kb_int_int, kb_int_bool, kb_int_list, kb_int_tuple, kb_int_str, kb_str_int, kb_str_bool, kb_str_list, kb_str_tuple, kb_str_str, kb_list_int, kb_list_bool, kb_list_list, kb_list_tuple, kb_list_str, kb_tuple_int, kb_tuple_bool, kb_tuple_list, kb_tuple_tuple, kb_tuple_str, kb_dict_int, kb_dict_bool, kb_dict_list, kb_dict_tuple, kb_dict_str]
theorem desc_range (n : Nat) : rangeC (n : Int) (-1) n = nums (desc n) := by
  induction n with
  | zero => rfl
  | succ n ih =>
    rw [desc, nums_cons, ← ih]
    unfold rangeC
    rw [List.range_succ_eq_map,
        List.map_cons, List.map_map]
    have e0 : D.int (((n + 1 : Nat) : Int) + ((0 : Nat) : Int) * (-1)) = D.int ((n + 1 : Nat) : Int) := by
      simp
    have e1 : List.map ((fun (i : Nat) => D.int (((n + 1 : Nat) : Int) + (i : Int) * (-1))) ∘ Nat.succ) (List.range n) = List.map (fun (i : Nat) => D.int ((n : Int) + (i : Int) * (-1))) (List.range n) := by
      apply List.map_congr_left
      intro i _
      show D.int (((n + 1 : Nat) : Int) + ((i + 1 : Nat) : Int) * (-1)) = D.int ((n : Int) + (i : Int) * (-1))
      congr 1
      omega
    rw [e0, e1]
theorem oFld_w {o : Bool} {w : Int} {ss : List Int} : oFld 0 "own_width" [net o w ss] = some (.val (.int w)) := by
  simp [oFld, cold, hot]
theorem oFld_s {o : Bool} {w : Int} {ss : List Int} : oFld 0 "own_steps" [net o w ss] = some (.val (.tup (nums ss))) := by
  simp [oFld, List.lookup, fs_beq, cold, hot]
theorem take_snoc {ss : List Int} {i : Nat} {s : Int} (e : ss[i]? = some s) : ss.take (i + 1) = ss.take i ++ [s] := by
  rw [List.take_succ, e]; rfl
theorem desc_w {w : Int} (h1 : 1 ≤ w) : ((desc w.toNat).length : Int) = w := by rw [desc_len]; omega
theorem cnt_le (x : Int) (p : List Int) : cnt x p ≤ p.length := List.length_filter_le _ _
theorem invP_le : ∀ (r p : List Int), invP p r ≤ r.length * (p.length + r.length)
  | [], _ => Nat.zero_le _
  | x :: r, p => by
    have h1 := cnt_le x p
    have h2 := invP_le r (p ++ [x])
    rw [List.length_append, List.length_singleton] at h2
    rw [invP, List.length_cons]
    have e : (r.length + 1) * (p.length + (r.length + 1)) = r.length * (p.length + 1 + r.length) + (p.length + (r.length + 1)) := by
      rw [Nat.add_mul, Nat.one_mul, show p.length + (r.length + 1) = p.length + 1 + r.length by omega]
    omega
theorem ones_sum (n : Nat) : (List.replicate n (1 : Int)).sum = n := by
  induction n with
  | zero => rfl
  | succ n ih => rw [List.replicate_succ, List.sum_cons, ih]; omega
theorem ones_snoc (n : Nat) : nums (List.replicate n 1) ++ [D.int 1] = nums (List.replicate (n + 1) 1) := by
  rw [List.replicate_succ', nums_app]; rfl
theorem small62_nat {n : Nat} (h : n ≤ 1000) : small62 (n : Int) = true := by
  unfold small62
  exact decide_eq_true (by
      omega)
theorem desc_up (n : Nat) : (rangeD 1 n).reverse = nums (desc n) := by
  induction n with
  | zero => rfl
  | succ n ih =>
    have e : rangeD 1 (n + 1) = rangeD 1 n ++ [.int ((n + 1 : Nat) : Int)] := by
      unfold rangeD
      rw [List.range_succ, List.map_append]
      congr 1
      show [D.int (1 + (n : Int))] = _
      congr 2
      omega
    rw [e, List.reverse_append, ih, desc, nums_cons]
    rfl
theorem colds_rev2 {xs : List D} (h : colds xs = true) : colds xs.reverse = true := by
  unfold colds at *
  rw [List.all_reverse]
  exact h
theorem oRev_up {w : Int} (h1 : 1 ≤ w) (h2 : w ≤ 40) : eOp oRevA [.v (eOp oLRg [.v (eC (.int 1)), .v (eOp oAdd [.s 0, .v (eC (.int 1))])])] [some (.int w), some (.lst false x), none, none, none, none] = .ok (.lst true (nums (desc w.toNat))) [some (.int w), some (.lst false x), none, none, none, none] := by
  have r : rgOk 1 (w + 1) = true := by unfold rgOk; exact decide_eq_true (by omega)
  have e1 : (w + 1 - 1).toNat = w.toNat := by omega
  have e2 := desc_up w.toNat
  have e3 := colds_rev2 (colds_range 1 w.toNat)
  have e4 : (rangeD 1 w.toNat).length ≤ 16777216 := by rw [rangeD_len]; omega
  simp [oRevA, oRev, oLRg, r, e1, e2, e3, e4, newLc, nums_colds, nums_len, desc_len, show w.toNat ≤ 16777216 by omega, fn, sSeq, SR.thn, sAsg, sExpr, sRet, sRetN, sIf, sNext, sFail, sBrk, sCont, Res.toS, Res.toN, Res.bind, tE, tNotM, tOrM, tAndM, tYesM, eC, eN, eMv, eOp, opds, eAnd, eOr, eNot, eIf, eChain, aNil, aCons, eLst, eTup, eCall, eCallL, eFz, eLc, eLc2, eApp, isLst, wipeS, eMake, eEqI, insC, keepL, getS, gN, gIx, gT, gTupM, sPar, sFor, iR1, iR2, iRD, iE, iEn, iEnT, iEnA, iEA, oIsiB, noScr, tyName, f2, pLe, pLt, pGe, pGt, oAdd, oSub, oMul, oMod, oDiv, oPow, oNeg, oAbs, oInt, oMax2, oMin2, oLen, items, lstItems, tupItems, hot, cold, Out.d, frz, frzL, frzF, List.range, List.range.loop, isN, oIsN, oNotN, oIsB, oNotB, pEq_int, pNe_int, pEq_bl, pNe_bl, pEq_lst, pNe_lst, pEq_tup, pNe_tup, kb_NoneType_int, kb_NoneType_bool, kb_NoneType_list, kb_NoneType_tuple, kb_NoneType_str, kb_bool_int, kb_bool_bool, kb_bool_list, kb_bool_tuple, kb_bool_str, kb_int_int, kb_int_bool, kb_int_list, kb_int_tuple, kb_int_str, kb_str_int, kb_str_bool, kb_str_list, kb_str_tuple, kb_str_str, kb_list_int, kb_list_bool, kb_list_list, kb_list_tuple, kb_list_str, kb_tuple_int, kb_tuple_bool, kb_tuple_list, kb_tuple_tuple, kb_tuple_str, kb_dict_int, kb_dict_bool, kb_dict_list, kb_dict_tuple, kb_dict_str]
theorem draw_ok (a b m : Int) (h1 : 0 < m) (h2 : m < 9000) : ∃ r a' b', 0 ≤ r ∧ r < m ∧ m__law_draw [.lst true [.int a, .int b], .int m] = .ok (.int r) [some (.lst true [.int a', .int b']), some (.int m)] := by
  by_cases ha : 0 < a
  · refine ⟨a % m, a / m, b, Int.emod_nonneg _ (by omega), Int.emod_lt_of_pos _ h1, ?_⟩
    simp [m__law_draw, b__law_draw, ix2_0, ix2_1, ixN2_0, ixN2_1, ha, oMod_v h1, oDiv_v h1 h2, fn, sSeq, SR.thn, sAsg, sExpr, sRet, sRetN, sIf, sNext, sFail, sBrk, sCont, Res.toS, Res.toN, Res.bind, tE, tNotM, tOrM, tAndM, tYesM, eC, eN, eMv, eOp, opds, eAnd, eOr, eNot, eIf, eChain, aNil, aCons, eLst, eTup, eCall, eCallL, eFz, eLc, eLc2, eApp, isLst, wipeS, eMake, eEqI, insC, keepL, getS, gN, gIx, gT, gTupM, sPar, sFor, iR1, iR2, iRD, iE, iEn, iEnT, iEnA, iEA, oIsiB, noScr, tyName, f2, pLe, pLt, pGe, pGt, oAdd, oSub, oNeg, oAbs, oInt, oMax2, oMin2, oLen, items, lstItems, tupItems, hot, cold, Out.d, frz, frzL, frzF, List.range, List.range.loop, isN, oIsN, oNotN, oIsB, oNotB, pEq_int, pNe_int, pEq_bl, pNe_bl, pEq_lst, pNe_lst, pEq_tup, pNe_tup, kb_NoneType_int, kb_NoneType_bool, kb_NoneType_list, kb_NoneType_tuple, kb_NoneType_str, kb_bool_int, kb_bool_bool, kb_bool_list, kb_bool_tuple, kb_bool_str, kb_int_int, kb_int_bool, kb_int_list, kb_int_tuple, kb_int_str, kb_str_int, kb_str_bool, kb_str_list, kb_str_tuple, kb_str_str, kb_list_int, kb_list_bool, kb_list_list, kb_list_tuple, kb_list_str, kb_tuple_int, kb_tuple_bool, kb_tuple_list, kb_tuple_tuple, kb_tuple_str, kb_dict_int, kb_dict_bool, kb_dict_list, kb_dict_tuple, kb_dict_str]
  · have m1 := oMul_v (i := b) (j := 48271) (by omega)
    have m2 := oMod_v (i := b * 48271 + 11) (j := 2147483647) (by omega)
    have n0 : 0 ≤ (b * 48271 + 11) % 2147483647 := Int.emod_nonneg _ (by omega)
    have n1 : (b * 48271 + 11) % 2147483647 < 2147483647 := Int.emod_lt_of_pos _ (by omega)
    generalize (b * 48271 + 11) % 2147483647 = c at *
    have m3 := oMul_v (i := c) (j := c) (by omega)
    have m4 := oMod_v (i := c * c) (j := 2147483629) (by omega)
    have m5 := oDiv_v (i := c * c % 2147483629) (j := 16) (by omega) (by omega)
    have m6 := oMod_v (i := c * c % 2147483629 / 16) h1
    refine ⟨c * c % 2147483629 / 16 % m, a, c, Int.emod_nonneg _ (by omega), Int.emod_lt_of_pos _ h1, ?_⟩
    simp [m__law_draw, b__law_draw, ix2_0, ix2_1, ixN2_0, ixN2_1, ha, m1, m2, m3, m4, m5, m6, fn, sSeq, SR.thn, sAsg, sExpr, sRet, sRetN, sIf, sNext, sFail, sBrk, sCont, Res.toS, Res.toN, Res.bind, tE, tNotM, tOrM, tAndM, tYesM, eC, eN, eMv, eOp, opds, eAnd, eOr, eNot, eIf, eChain, aNil, aCons, eLst, eTup, eCall, eCallL, eFz, eLc, eLc2, eApp, isLst, wipeS, eMake, eEqI, insC, keepL, getS, gN, gIx, gT, gTupM, sPar, sFor, iR1, iR2, iRD, iE, iEn, iEnT, iEnA, iEA, oIsiB, noScr, tyName, f2, pLe, pLt, pGe, pGt, oAdd, oSub, oNeg, oAbs, oInt, oMax2, oMin2, oLen, items, lstItems, tupItems, hot, cold, Out.d, frz, frzL, frzF, List.range, List.range.loop, isN, oIsN, oNotN, oIsB, oNotB, pEq_int, pNe_int, pEq_bl, pNe_bl, pEq_lst, pNe_lst, pEq_tup, pNe_tup, kb_NoneType_int, kb_NoneType_bool, kb_NoneType_list, kb_NoneType_tuple, kb_NoneType_str, kb_bool_int, kb_bool_bool, kb_bool_list, kb_bool_tuple, kb_bool_str, kb_int_int, kb_int_bool, kb_int_list, kb_int_tuple, kb_int_str, kb_str_int, kb_str_bool, kb_str_list, kb_str_tuple, kb_str_str, kb_list_int, kb_list_bool, kb_list_list, kb_list_tuple, kb_list_str, kb_tuple_int, kb_tuple_bool, kb_tuple_list, kb_tuple_tuple, kb_tuple_str, kb_dict_int, kb_dict_bool, kb_dict_list, kb_dict_tuple, kb_dict_str]
theorem source_ok (l : List Int) (k : Int) (h0 : 0 ≤ k) (hk : k < 100) (hl : l.length ≤ 63) : ∃ a b ps, m__law_source [.scr l, .int k] = .ok (.lst true [.int a, .int b]) ps := by
  obtain ⟨kk, e1⟩ := oS01_scr l 63 hl
  have e2 := oSum_nums true kk
  generalize kk.sum = S at *
  have e3 := oMul_l (i := 7) (j := S) (by omega)
  have step : ∀ cell : Int, ∃ a b st, (sSeq (sAsg (eOp oAbs [.s 2]) (gN 3)) (sSeq (sAsg (eOp oMod [.v (eOp oMul [.v (eOp oAdd [.v (eOp oAdd [.v (eOp oAdd [.v (eOp oMod [.s 3, .v (eC (.int 2147483629))]), .v (eOp oMul [.v (eOp oMul [.v (eC (.int 7919)), .s 1]), .s 1])]), .v (eOp oMul [.v (eC (.int 31)), .s 1])]), .v (eC (.int 17))]), .v (eC (.int 48271))]), .v (eC (.int 2147483647))]) (gN 4)) (sRet (eLst (aCons (eOp oMul [.s 3, .v (eOp oInt [.v (eOp (f2 pGe) [.s 3, .v (eOp oPow [.v (eC (.int 10)), .v (eC (.int 18))])])])]) (aCons (eOp oMod [.v (eOp oMul [.s 4, .s 4]), .v (eC (.int 2147483629))]) aNil)))))) [some (.scr l), some (.int k), some (.int cell), none, none] = .ret (.lst true [.int a, .int b]) st := fun cell => by
    generalize hz : (if cell < 0 then -cell else cell) = z
    have m1 := oMod_v (i := z) (j := 2147483629) (by omega)
    have m2 := oMul_l (i := 7919) (j := k) (by omega)
    have m3 := oMul_v (i := 7919 * k) (j := k) (by omega)
    have m4 := oMul_l (i := 31) (j := k) (by omega)
    have m5 := oMul_v (i := z % 2147483629 + 7919 * k * k + 31 * k + 17) (j := 48271) (by omega)
    have m6 := oMod_v (i := (z % 2147483629 + 7919 * k * k + 31 * k + 17) * 48271) (j := 2147483647) (by omega)
    have n0 : 0 ≤ (z % 2147483629 + 7919 * k * k + 31 * k + 17) * 48271 % 2147483647 := Int.emod_nonneg _ (by omega)
    have n1 : (z % 2147483629 + 7919 * k * k + 31 * k + 17) * 48271 % 2147483647 < 2147483647 := Int.emod_lt_of_pos _ (by omega)
    generalize (z % 2147483629 + 7919 * k * k + 31 * k + 17) * 48271 % 2147483647 = c at *
    have m7 := oMul_v (i := c) (j := c) (by omega)
    have m8 := oMod_v (i := c * c) (j := 2147483629) (by omega)
    have m9 := oPow_v (i := 10) (j := 18) (by omega) (by decide)
    generalize (10 : Int) ^ (18 : Int).toNat = t at *
    have m10 := oMul_v (i := z) (j := if t ≤ z then 1 else 0) (by split <;> omega)
    refine ⟨z * (if t ≤ z then 1 else 0), c * c % 2147483629, [some (.scr l), some (.int k), some (.int cell), some (.int z), some (.int c)], ?_⟩
    simp [hz, m1, m2, m3, m4, m5, m6, m7, m8, m9, m10, fn, sSeq, SR.thn, sAsg, sExpr, sRet, sRetN, sIf, sNext, sFail, sBrk, sCont, Res.toS, Res.toN, Res.bind, tE, tNotM, tOrM, tAndM, tYesM, eC, eN, eMv, eOp, opds, eAnd, eOr, eNot, eIf, eChain, aNil, aCons, eLst, eTup, eCall, eCallL, eFz, eLc, eLc2, eApp, isLst, wipeS, eMake, eEqI, insC, keepL, getS, gN, gIx, gT, gTupM, sPar, sFor, iR1, iR2, iRD, iE, iEn, iEnT, iEnA, iEA, oIsiB, noScr, tyName, f2, pLe, pLt, pGe, pGt, oAdd, oSub, oNeg, oAbs, oInt, oMax2, oMin2, oLen, items, lstItems, tupItems, hot, cold, Out.d, frz, frzL, frzF, List.range, List.range.loop, isN, oIsN, oNotN, oIsB, oNotB, pEq_int, pNe_int, pEq_bl, pNe_bl, pEq_lst, pNe_lst, pEq_tup, pNe_tup, kb_NoneType_int, kb_NoneType_bool, kb_NoneType_list, kb_NoneType_tuple, kb_NoneType_str, kb_bool_int, kb_bool_bool, kb_bool_list, kb_bool_tuple, kb_bool_str, kb_int_int, kb_int_bool, kb_int_list, kb_int_tuple, kb_int_str, kb_str_int, kb_str_bool, kb_str_list, kb_str_tuple, kb_str_str, kb_list_int, kb_list_bool, kb_list_list, kb_list_tuple, kb_list_str, kb_tuple_int, kb_tuple_bool, kb_tuple_list, kb_tuple_tuple, kb_tuple_str, kb_dict_int, kb_dict_bool, kb_dict_list, kb_dict_tuple, kb_dict_str]
  by_cases hkl : k < (l.length : Int)
  · have e4 := oIx_scr (l := l) (i := k) h0 hkl
    obtain ⟨a, b, st, e5⟩ := step (l.getD k.toNat 0)
    generalize l.getD k.toNat 0 = cell at *
    have q1 : (sAsg (eOp oAdd [.v (eOp oMul [.v (eC (.int 7)), .v (eOp oSum [.v (eOp oS01 [.s 0, .v (eC (.int 63))])])]), .s 1]) (gN 2)) [some (.scr l), some (.int k), none, none, none] = .next [some (.scr l), some (.int k), some (.int (7 * S + k)), none, none] := by
      simp [e1, e2, e3, fn, sSeq, SR.thn, sAsg, sExpr, sRet, sRetN, sIf, sNext, sFail, sBrk, sCont, Res.toS, Res.toN, Res.bind, tE, tNotM, tOrM, tAndM, tYesM, eC, eN, eMv, eOp, opds, eAnd, eOr, eNot, eIf, eChain, aNil, aCons, eLst, eTup, eCall, eCallL, eFz, eLc, eLc2, eApp, isLst, wipeS, eMake, eEqI, insC, keepL, getS, gN, gIx, gT, gTupM, sPar, sFor, iR1, iR2, iRD, iE, iEn, iEnT, iEnA, iEA, oIsiB, noScr, tyName, f2, pLe, pLt, pGe, pGt, oAdd, oSub, oNeg, oAbs, oInt, oMax2, oMin2, oLen, items, lstItems, tupItems, hot, cold, Out.d, frz, frzL, frzF, List.range, List.range.loop, isN, oIsN, oNotN, oIsB, oNotB, pEq_int, pNe_int, pEq_bl, pNe_bl, pEq_lst, pNe_lst, pEq_tup, pNe_tup, kb_NoneType_int, kb_NoneType_bool, kb_NoneType_list, kb_NoneType_tuple, kb_NoneType_str, kb_bool_int, kb_bool_bool, kb_bool_list, kb_bool_tuple, kb_bool_str, kb_int_int, kb_int_bool, kb_int_list, kb_int_tuple, kb_int_str, kb_str_int, kb_str_bool, kb_str_list, kb_str_tuple, kb_str_str, kb_list_int, kb_list_bool, kb_list_list, kb_list_tuple, kb_list_str, kb_tuple_int, kb_tuple_bool, kb_tuple_list, kb_tuple_tuple, kb_tuple_str, kb_dict_int, kb_dict_bool, kb_dict_list, kb_dict_tuple, kb_dict_str]
    have q2 : (sIf (tE (eOp (f2 pLt) [.s 1, .v (eOp oLen [.s 0])])) (sAsg (eOp oIx [.s 0, .s 1]) (gN 2)) sNext) [some (.scr l), some (.int k), some (.int (7 * S + k)), none, none] = .next [some (.scr l), some (.int k), some (.int cell), none, none] := by
      simp [e4, hkl, fn, sSeq, SR.thn, sAsg, sExpr, sRet, sRetN, sIf, sNext, sFail, sBrk, sCont, Res.toS, Res.toN, Res.bind, tE, tNotM, tOrM, tAndM, tYesM, eC, eN, eMv, eOp, opds, eAnd, eOr, eNot, eIf, eChain, aNil, aCons, eLst, eTup, eCall, eCallL, eFz, eLc, eLc2, eApp, isLst, wipeS, eMake, eEqI, insC, keepL, getS, gN, gIx, gT, gTupM, sPar, sFor, iR1, iR2, iRD, iE, iEn, iEnT, iEnA, iEA, oIsiB, noScr, tyName, f2, pLe, pLt, pGe, pGt, oAdd, oSub, oNeg, oAbs, oInt, oMax2, oMin2, oLen, items, lstItems, tupItems, hot, cold, Out.d, frz, frzL, frzF, List.range, List.range.loop, isN, oIsN, oNotN, oIsB, oNotB, pEq_int, pNe_int, pEq_bl, pNe_bl, pEq_lst, pNe_lst, pEq_tup, pNe_tup, kb_NoneType_int, kb_NoneType_bool, kb_NoneType_list, kb_NoneType_tuple, kb_NoneType_str, kb_bool_int, kb_bool_bool, kb_bool_list, kb_bool_tuple, kb_bool_str, kb_int_int, kb_int_bool, kb_int_list, kb_int_tuple, kb_int_str, kb_str_int, kb_str_bool, kb_str_list, kb_str_tuple, kb_str_str, kb_list_int, kb_list_bool, kb_list_list, kb_list_tuple, kb_list_str, kb_tuple_int, kb_tuple_bool, kb_tuple_list, kb_tuple_tuple, kb_tuple_str, kb_dict_int, kb_dict_bool, kb_dict_list, kb_dict_tuple, kb_dict_str]
    exact ⟨a, b, _, fn_ret rfl (sSeq_next q1 (sSeq_next q2 e5))⟩
  · obtain ⟨a, b, st, e5⟩ := step (7 * S + k)
    have q1 : (sAsg (eOp oAdd [.v (eOp oMul [.v (eC (.int 7)), .v (eOp oSum [.v (eOp oS01 [.s 0, .v (eC (.int 63))])])]), .s 1]) (gN 2)) [some (.scr l), some (.int k), none, none, none] = .next [some (.scr l), some (.int k), some (.int (7 * S + k)), none, none] := by
      simp [e1, e2, e3, fn, sSeq, SR.thn, sAsg, sExpr, sRet, sRetN, sIf, sNext, sFail, sBrk, sCont, Res.toS, Res.toN, Res.bind, tE, tNotM, tOrM, tAndM, tYesM, eC, eN, eMv, eOp, opds, eAnd, eOr, eNot, eIf, eChain, aNil, aCons, eLst, eTup, eCall, eCallL, eFz, eLc, eLc2, eApp, isLst, wipeS, eMake, eEqI, insC, keepL, getS, gN, gIx, gT, gTupM, sPar, sFor, iR1, iR2, iRD, iE, iEn, iEnT, iEnA, iEA, oIsiB, noScr, tyName, f2, pLe, pLt, pGe, pGt, oAdd, oSub, oNeg, oAbs, oInt, oMax2, oMin2, oLen, items, lstItems, tupItems, hot, cold, Out.d, frz, frzL, frzF, List.range, List.range.loop, isN, oIsN, oNotN, oIsB, oNotB, pEq_int, pNe_int, pEq_bl, pNe_bl, pEq_lst, pNe_lst, pEq_tup, pNe_tup, kb_NoneType_int, kb_NoneType_bool, kb_NoneType_list, kb_NoneType_tuple, kb_NoneType_str, kb_bool_int, kb_bool_bool, kb_bool_list, kb_bool_tuple, kb_bool_str, kb_int_int, kb_int_bool, kb_int_list, kb_int_tuple, kb_int_str, kb_str_int, kb_str_bool, kb_str_list, kb_str_tuple, kb_str_str, kb_list_int, kb_list_bool, kb_list_list, kb_list_tuple, kb_list_str, kb_tuple_int, kb_tuple_bool, kb_tuple_list, kb_tuple_tuple, kb_tuple_str, kb_dict_int, kb_dict_bool, kb_dict_list, kb_dict_tuple, kb_dict_str]
    have q2 : (sIf (tE (eOp (f2 pLt) [.s 1, .v (eOp oLen [.s 0])])) (sAsg (eOp oIx [.s 0, .s 1]) (gN 2)) sNext) [some (.scr l), some (.int k), some (.int (7 * S + k)), none, none] = .next [some (.scr l), some (.int k), some (.int (7 * S + k)), none, none] := by
      simp [hkl, fn, sSeq, SR.thn, sAsg, sExpr, sRet, sRetN, sIf, sNext, sFail, sBrk, sCont, Res.toS, Res.toN, Res.bind, tE, tNotM, tOrM, tAndM, tYesM, eC, eN, eMv, eOp, opds, eAnd, eOr, eNot, eIf, eChain, aNil, aCons, eLst, eTup, eCall, eCallL, eFz, eLc, eLc2, eApp, isLst, wipeS, eMake, eEqI, insC, keepL, getS, gN, gIx, gT, gTupM, sPar, sFor, iR1, iR2, iRD, iE, iEn, iEnT, iEnA, iEA, oIsiB, noScr, tyName, f2, pLe, pLt, pGe, pGt, oAdd, oSub, oNeg, oAbs, oInt, oMax2, oMin2, oLen, items, lstItems, tupItems, hot, cold, Out.d, frz, frzL, frzF, List.range, List.range.loop, isN, oIsN, oNotN, oIsB, oNotB, pEq_int, pNe_int, pEq_bl, pNe_bl, pEq_lst, pNe_lst, pEq_tup, pNe_tup, kb_NoneType_int, kb_NoneType_bool, kb_NoneType_list, kb_NoneType_tuple, kb_NoneType_str, kb_bool_int, kb_bool_bool, kb_bool_list, kb_bool_tuple, kb_bool_str, kb_int_int, kb_int_bool, kb_int_list, kb_int_tuple, kb_int_str, kb_str_int, kb_str_bool, kb_str_list, kb_str_tuple, kb_str_str, kb_list_int, kb_list_bool, kb_list_list, kb_list_tuple, kb_list_str, kb_tuple_int, kb_tuple_bool, kb_tuple_list, kb_tuple_tuple, kb_tuple_str, kb_dict_int, kb_dict_bool, kb_dict_list, kb_dict_tuple, kb_dict_str]
    exact ⟨a, b, _, fn_ret rfl (sSeq_next q1 (sSeq_next q2 e5))⟩
theorem draw_big (a b m : Int) (h1 : 0 < m) (h2 : m.natAbs < 2 ^ 80) : ∃ r a' b', 0 ≤ r ∧ r < m ∧ m__law_draw [.lst true [.int a, .int b], .int m] = .ok (.int r) [some (.lst true [.int a', .int b']), some (.int m)] := by
  by_cases ha : 0 < a
  · refine ⟨a % m, a / m, b, Int.emod_nonneg _ (by omega), Int.emod_lt_of_pos _ h1, ?_⟩
    simp [m__law_draw, b__law_draw, ix2_0, ix2_1, ixN2_0, ixN2_1, ha, oMod_v h1, oDiv_w h1 h2, fn, sSeq, SR.thn, sAsg, sExpr, sRet, sRetN, sIf, sNext, sFail, sBrk, sCont, Res.toS, Res.toN, Res.bind, tE, tNotM, tOrM, tAndM, tYesM, eC, eN, eMv, eOp, opds, eAnd, eOr, eNot, eIf, eChain, aNil, aCons, eLst, eTup, eCall, eCallL, eFz, eLc, eLc2, eApp, isLst, wipeS, eMake, eEqI, insC, keepL, getS, gN, gIx, gT, gTupM, sPar, sFor, iR1, iR2, iRD, iE, iEn, iEnT, iEnA, iEA, oIsiB, noScr, tyName, f2, pLe, pLt, pGe, pGt, oAdd, oSub, oNeg, oAbs, oInt, oMax2, oMin2, oLen, items, lstItems, tupItems, hot, cold, Out.d, frz, frzL, frzF, List.range, List.range.loop, isN, oIsN, oNotN, oIsB, oNotB, pEq_int, pNe_int, pEq_bl, pNe_bl, pEq_lst, pNe_lst, pEq_tup, pNe_tup, kb_NoneType_int, kb_NoneType_bool, kb_NoneType_list, kb_NoneType_tuple, kb_NoneType_str, kb_bool_int, kb_bool_bool, kb_bool_list, kb_bool_tuple, kb_bool_str, kb_int_int, kb_int_bool, kb_int_list, kb_int_tuple, kb_int_str, kb_str_int, kb_str_bool, kb_str_list, kb_str_tuple, kb_str_str, kb_list_int, kb_list_bool, kb_list_list, kb_list_tuple, kb_list_str, kb_tuple_int, kb_tuple_bool, kb_tuple_list, kb_tuple_tuple, kb_tuple_str, kb_dict_int, kb_dict_bool, kb_dict_list, kb_dict_tuple, kb_dict_str]
  · have m1 := oMul_v (i := b) (j := 48271) (by omega)
    have m2 := oMod_v (i := b * 48271 + 11) (j := 2147483647) (by omega)
    have n0 : 0 ≤ (b * 48271 + 11) % 2147483647 := Int.emod_nonneg _ (by omega)
    have n1 : (b * 48271 + 11) % 2147483647 < 2147483647 := Int.emod_lt_of_pos _ (by omega)
    generalize (b * 48271 + 11) % 2147483647 = c at *
    have m3 := oMul_v (i := c) (j := c) (by omega)
    have m4 := oMod_v (i := c * c) (j := 2147483629) (by omega)
    have m5 := oDiv_v (i := c * c % 2147483629) (j := 16) (by omega) (by omega)
    have m6 := oMod_v (i := c * c % 2147483629 / 16) h1
    refine ⟨c * c % 2147483629 / 16 % m, a, c, Int.emod_nonneg _ (by omega), Int.emod_lt_of_pos _ h1, ?_⟩
    simp [m__law_draw, b__law_draw, ix2_0, ix2_1, ixN2_0, ixN2_1, ha, m1, m2, m3, m4, m5, m6, fn, sSeq, SR.thn, sAsg, sExpr, sRet, sRetN, sIf, sNext, sFail, sBrk, sCont, Res.toS, Res.toN, Res.bind, tE, tNotM, tOrM, tAndM, tYesM, eC, eN, eMv, eOp, opds, eAnd, eOr, eNot, eIf, eChain, aNil, aCons, eLst, eTup, eCall, eCallL, eFz, eLc, eLc2, eApp, isLst, wipeS, eMake, eEqI, insC, keepL, getS, gN, gIx, gT, gTupM, sPar, sFor, iR1, iR2, iRD, iE, iEn, iEnT, iEnA, iEA, oIsiB, noScr, tyName, f2, pLe, pLt, pGe, pGt, oAdd, oSub, oNeg, oAbs, oInt, oMax2, oMin2, oLen, items, lstItems, tupItems, hot, cold, Out.d, frz, frzL, frzF, List.range, List.range.loop, isN, oIsN, oNotN, oIsB, oNotB, pEq_int, pNe_int, pEq_bl, pNe_bl, pEq_lst, pNe_lst, pEq_tup, pNe_tup, kb_NoneType_int, kb_NoneType_bool, kb_NoneType_list, kb_NoneType_tuple, kb_NoneType_str, kb_bool_int, kb_bool_bool, kb_bool_list, kb_bool_tuple, kb_bool_str, kb_int_int, kb_int_bool, kb_int_list, kb_int_tuple, kb_int_str, kb_str_int, kb_str_bool, kb_str_list, kb_str_tuple, kb_str_str, kb_list_int, kb_list_bool, kb_list_list, kb_list_tuple, kb_list_str, kb_tuple_int, kb_tuple_bool, kb_tuple_list, kb_tuple_tuple, kb_tuple_str, kb_dict_int, kb_dict_bool, kb_dict_list, kb_dict_tuple, kb_dict_str]
theorem frz_net {o : Bool} {w : Int} {ss : List Int} : frz (net o w ss) = net false w ss := by simp [frz, frzF, nums_frz]
theorem eqv {w : Nat} {a b l : List Int} (hw : 1 ≤ w) (ha : okS w a) (hb : okS w b) (h : runL a (desc w) = runL b (desc w)) (hl : l.length = w) : runL a l = runL b l := by
  obtain ⟨f, rfl, hf⟩ := up1_of ha
  obtain ⟨g, rfl, hg⟩ := up1_of hb
  rw [up1_run, up1_run] at h
  rw [up1_run, up1_run]
  exact decides hw (fun i hi => by have := hf i hi; omega) (fun i hi => by have := hg i hi; omega) h l hl
theorem desc_eq : ∀ n : Nat, desc n = (List.range n).map fun (i : Nat) => (n : Int) - (i : Int)
  | 0 => rfl
  | n + 1 => by
    rw [desc_succ, desc_eq n, List.range_succ_eq_map, List.map_cons, List.map_map]
    refine congr (congrArg List.cons (by simp)) (List.map_congr_left fun i _ => ?_)
    show (n : Int) - (i : Int) = ((n + 1 : Nat) : Int) - ((i + 1 : Nat) : Int)
    omega
theorem count_ok (ns : List Int) (c : Int) (hc : 1 ≤ c) (hc2 : c ≤ 100) {st : Sl} (h : getS st 0 = some (.scr ns)) : ∃ N : Nat, N ≤ c ∧ iR1 (eOp oMax2 [.v (eC (.int 1)), .v (eOp oMin2 [.v (eOp oLen [.s 0]), .v (eC (.int c))])]) st = .ok (rangeD 0 N) st := by
  have q1 := eOp1_s (f := oLen) (i := 0) (st := st) h (oLen_scr ns)
  obtain ⟨z, hz⟩ : ∃ z : Int, z = ((ns.length : Nat) : Int) := ⟨_, rfl⟩
  have hz0 : 0 ≤ z := by omega
  rw [← hz] at q1
  have q2 := eOp2_v (f := oMin2) q1 (show eC (.int c) _ = .ok (.int c) _ from rfl) (show oMin2 [.int z, .int c] = some (.val (.int (if c < z then c else z))) from rfl)
  have q3 := eOp2_v (f := oMax2) (show eC (.int 1) st = .ok (.int 1) _ from rfl) q2 (show oMax2 [.int 1, .int (if c < z then c else z)] = some (.val (.int (if (if c < z then c else z) > 1 then (if c < z then c else z) else 1))) from rfl)
  generalize hy : (if (if c < z then c else z) > 1 then (if c < z then c else z) else 1) = y at q3
  have y1 : 1 ≤ y ∧ y ≤ c := by
    rw [← hy]
    split <;> split <;> omega
  exact ⟨y.toNat, by omega, iR1_v (j := y) (by omega) q3 (sm62 (by omega) (by omega))⟩
theorem tail_ok {ns : List Int} {n : Nat} {c : Int} (hc : 1 ≤ c) (hc2 : c ≤ 100) {g : MG} {B : MS} {fin : MS} (hfin : ∀ st, fin st = .ret (.bl true) st) {I : Sl → Prop} (I0 : ∀ st, I st → getS st 0 = some (.scr ns))
    (step : ∀ (st : Sl) (i : Nat), (i : Int) < c → I st → ∃ st1 st2, g (.int (i : Int)) st = .ok () st1 ∧ B st1 = .next st2 ∧ I st2) {st : Sl} (h : I st) :
    ∃ st', sSeq (sFor (iR1 (eOp oMax2 [.v (eC (.int 1)), .v (eOp oMin2 [.v (eOp oLen [.s 0]), .v (eC (.int c))])])) g B) fin st = .ret (.bl true) st' := by
  obtain ⟨N, hN, e0⟩ := count_ok ns c hc hc2 (I0 st h)
  obtain ⟨st', e, hst⟩ := forD_ok (g := g) (body := B) (fun _ st => I st) (rangeD 0 N) 0 st h (fun i d st e hI => by
    obtain ⟨hi, rfl⟩ := rangeD_get e
    rw [Int.zero_add]
    obtain ⟨s1, s2, q1, q2, q3⟩ := step st i (by omega) hI
    exact ⟨s1, s2, q1, .inl q2, q3⟩)
  exact ⟨st', zSeq (zFor e0 e) (hfin _)⟩
theorem ins_net {o : Bool} {w : Int} {ss : List Int} {nm : Str} (h1 : (nm == "own_width") = false) (h2 : (nm == "own_steps") = false) : insOf 0 nm (net o w ss) = true := by
  show (decide (0 = 0) && (List.lookup nm [(("own_width" : Str), D.int w), ("own_steps", D.tup (nums ss))]).isNone) = true
  simp only [List.lookup, h1, h2]
  rfl
local macro_rules | `(tactic| walk_at "f") => `(tactic| with_reducible exact frz_net)
local macro_rules | `(tactic| walk_at "o") => `(tactic| first | (with_reducible exact oFld_w) | (with_reducible exact oFld_s))
theorem law_result_ps {ss l : List Int} {o p : Bool} (h : okS l.length ss) (hl : l.length ≤ 1000) : m__law_result [.lst o (nums ss), .lst p (nums l)] = .ok (.lst true (nums (runL ss l))) [some (.lst false (nums ss)), some (.lst p (nums l))] := by
  obtain ⟨st', e, ⟨y3, y4, y5, rfl⟩, _⟩ := forD_rel (g := fg1__law_result) (body := fb1__law_result) D.int (fun (k : List Int) st => (∃ y3 y4 y5, st = [some (.lst false (nums ss)), some (.lst p (nums l)), some (.lst true (nums k)), y3, y4, y5]) ∧ k.length = l.length) stp ss l
    [some (.lst false (nums ss)), some (.lst p (nums l)), some (.lst true (nums l)), none, none, none] ⟨⟨none, none, none, rfl⟩, rfl⟩ (fun k s st hs hI => by
      obtain ⟨⟨y3, y4, y5, rfl⟩, hk⟩ := hI
      have h12 := h s hs
      have h1 : 1 ≤ s := h12.1
      have h2' : s < k.length := by omega
      have a1 : oIx [.lst true (nums k), .int (s - 1)] = some (.val (.int (k.getD (s - 1).toNat 0))) := oIx_nums (by omega) (by omega)
      have a2 : oIx [.lst true (nums k), .int s] = some (.val (.int (k.getD s.toNat 0))) := oIx_nums (by omega) h2'
      have a3 : L2.ixN (nums k).length (s - 1) = some (s - 1).toNat := by rw [nums_len]; exact ixN_nat (by omega) (by omega)
      have a4 : L2.ixN (nums (k.set (s - 1).toNat (k.getD s.toNat 0))).length s = some s.toNat := by rw [nums_len, List.length_set]; exact ixN_nat (by omega) h2'
      have d1 : stp k s = if hit k s then (k.set (s - 1).toNat (k.getD s.toNat 0)).set s.toNat (k.getD (s - 1).toNat 0) else k := rfl
      have d2 : hit k s = decide (k.getD s.toNat 0 < k.getD (s - 1).toNat 0) := rfl
      have d3 := stp_len k s
      refine ⟨_, [some (.lst false (nums ss)), some (.lst p (nums l)), some (.lst true (nums (stp k s))), some (.int s), some (.int (k.getD (s - 1).toNat 0)), some (.int (k.getD s.toNat 0))], rfl, ?_, ⟨_, _, _, rfl⟩, by omega⟩
      rw [d1, d2]
      clear d1 d2 d3 h12
      generalize k.getD (s - 1).toNat 0 = p1 at *
      generalize k.getD s.toNat 0 = q1 at *
      generalize (s - 1).toNat = i1 at *
      generalize s.toNat = j1 at *
      by_cases hq : q1 < p1
      · simp [fb1__law_result, a1, a2, a3, a4, hq, nums_set, fn, sSeq, SR.thn, sAsg, sExpr, sRet, sRetN, sIf, sNext, sFail, sBrk, sCont, Res.toS, Res.toN, Res.bind, tE, tNotM, tOrM, tAndM, tYesM, eC, eN, eMv, eOp, opds, eAnd, eOr, eNot, eIf, eChain, aNil, aCons, eLst, eTup, eCall, eCallL, eFz, eLc, eLc2, eApp, isLst, wipeS, eMake, eEqI, insC, keepL, getS, gN, gIx, gT, gTupM, sPar, sFor, iR1, iR2, iRD, iE, iEn, iEnT, iEnA, iEA, oIsiB, noScr, tyName, f2, pLe, pLt, pGe, pGt, oAdd, oSub, oMul, oMod, oDiv, oPow, oNeg, oAbs, oInt, oMax2, oMin2, oLen, items, lstItems, tupItems, hot, cold, Out.d, frz, frzL, frzF, List.range, List.range.loop, isN, oIsN, oNotN, oIsB, oNotB, pEq_int, pNe_int, pEq_bl, pNe_bl, pEq_lst, pNe_lst, pEq_tup, pNe_tup, kb_NoneType_int, kb_NoneType_bool, kb_NoneType_list, kb_NoneType_tuple, kb_NoneType_str, kb_bool_int, kb_bool_bool, kb_bool_list, kb_bool_tuple, kb_bool_str, kb_int_int, kb_int_bool, kb_int_list, kb_int_tuple, kb_int_str, kb_str_int, kb_str_bool, kb_str_list, kb_str_tuple, kb_str_str, kb_list_int, kb_list_bool, kb_list_list, kb_list_tuple, kb_list_str, kb_tuple_int, kb_tuple_bool, kb_tuple_list, kb_tuple_tuple, kb_tuple_str, kb_dict_int, kb_dict_bool, kb_dict_list, kb_dict_tuple, kb_dict_str]
      · simp [fb1__law_result, a1, a2, hq, fn, sSeq, SR.thn, sAsg, sExpr, sRet, sRetN, sIf, sNext, sFail, sBrk, sCont, Res.toS, Res.toN, Res.bind, tE, tNotM, tOrM, tAndM, tYesM, eC, eN, eMv, eOp, opds, eAnd, eOr, eNot, eIf, eChain, aNil, aCons, eLst, eTup, eCall, eCallL, eFz, eLc, eLc2, eApp, isLst, wipeS, eMake, eEqI, insC, keepL, getS, gN, gIx, gT, gTupM, sPar, sFor, iR1, iR2, iRD, iE, iEn, iEnT, iEnA, iEA, oIsiB, noScr, tyName, f2, pLe, pLt, pGe, pGt, oAdd, oSub, oMul, oMod, oDiv, oPow, oNeg, oAbs, oInt, oMax2, oMin2, oLen, items, lstItems, tupItems, hot, cold, Out.d, frz, frzL, frzF, List.range, List.range.loop, isN, oIsN, oNotN, oIsB, oNotB, pEq_int, pNe_int, pEq_bl, pNe_bl, pEq_lst, pNe_lst, pEq_tup, pNe_tup, kb_NoneType_int, kb_NoneType_bool, kb_NoneType_list, kb_NoneType_tuple, kb_NoneType_str, kb_bool_int, kb_bool_bool, kb_bool_list, kb_bool_tuple, kb_bool_str, kb_int_int, kb_int_bool, kb_int_list, kb_int_tuple, kb_int_str, kb_str_int, kb_str_bool, kb_str_list, kb_str_tuple, kb_str_str, kb_list_int, kb_list_bool, kb_list_list, kb_list_tuple, kb_list_str, kb_tuple_int, kb_tuple_bool, kb_tuple_list, kb_tuple_tuple, kb_tuple_str, kb_dict_int, kb_dict_bool, kb_dict_list, kb_dict_tuple, kb_dict_str])
  have e' : forD fg1__law_result fb1__law_result (nums ss) [some (.lst false (nums ss)), some (.lst p (nums l)), some (.lst true (nums l)), none, none, none] = _ := e
  refine fn_go (body := b__law_result) (L := [0, 1]) (w := 6) (n := 2) (st := [some (.lst false (nums ss)), some (.lst p (nums l)), none, y3, y4, y5]) rfl ?_
  show b__law_result [some (.lst o (nums ss)), some (.lst p (nums l)), none, none, none, none] = SR.ret (.lst true (nums (ss.foldl stp l))) _
  unfold b__law_result
  apply zSeq
  · walk_at "z"
  · apply zSeq
    · apply zFor
      · cases o <;> walk_at "w"
      · exact e'
    · walk_at "z"
theorem law_result_ok {ss l : List Int} {o p : Bool} (h : okS l.length ss) (hl : l.length ≤ 1000) : ∃ ps, m__law_result [.lst o (nums ss), .lst p (nums l)] = .ok (.lst true (nums (runL ss l))) ps := ⟨_, law_result_ps h hl⟩
theorem len_iR2 {l : List Int} {o : Bool} (hl : l.length ≤ 1000) {st : Sl} {i : Nat} (h : getS st i = some (.lst o (nums l))) : iR2 (eC (.int 1)) (eOp oLen [.s i]) st = .ok (rangeD 1 (l.length - 1)) st := by
  apply wR2 (i := 1) (j := (l.length : Int))
  · exact xC
  · exact xOs h oLen_l rfl
  · rfl
  · exact small62_nat (n := l.length) hl
  · omega
theorem law_asc_ok {l : List Int} {o : Bool} (hl : l.length ≤ 1000) : ∃ ps, m__law_is_ascending [.lst o (nums l)] = .ok (.bl (ascB l)) ps := by
  have hf : ((List.range (l.length - 1)).map fun (i : Nat) => (1 : Int) + i).filter (fun p => decide (l.getD p.toNat 0 < l.getD (p - 1).toNat 0)) = falls l := rfl
  have q1 : f2 pEq [.lst true (nums (falls l)), .lst true []] = some (.val (.bl (ascB l))) := by
    rw [← decide_falls]
    exact eq_of (pEq_lst true true (falls l) [])
  refine ⟨_, fn_go rfl (?_ : b__law_is_ascending [some (.lst o (nums l)), none] = SR.ret _ [some (.lst o (nums l)), none])⟩
  unfold b__law_is_ascending lg1__law_is_ascending
  apply zRet
  apply xOvv
  · apply xLc D.int D.int (fun p => decide (l.getD p.toNat 0 < l.getD (p - 1).toNat 0)) ((List.range (l.length - 1)).map fun (i : Nat) => (1 : Int) + i)
    · exact len_iR2 (o := o) hl rfl
    · exact range1_nums _
    · rw [List.length_map, List.length_range]; omega
    · exact (by decide : 1 < 2)
    · walk_at "s"
    · exact fun x _ => rfl
    · intro x hx
      obtain ⟨i, hi, rfl⟩ := List.mem_map.mp hx
      rw [List.mem_range] at hi
      have a1 : oIx [.lst o (nums l), .int (1 + (i : Int) - 1)] = some (.val (.int (l.getD (1 + (i : Int) - 1).toNat 0))) := oIx_nums (by omega) (by omega)
      have a2 : oIx [.lst o (nums l), .int (1 + (i : Int))] = some (.val (.int (l.getD (1 + (i : Int)).toNat 0))) := oIx_nums (by omega) (by omega)
      unfold lt1__law_is_ascending
      walk_at "c"
    · intro x hx hp
      unfold le1__law_is_ascending
      walk_at "e"
    · exact congrArg nums hf
  · walk_at "e"
  · exact q1
  · rfl
theorem bitAnd_1 (n : Nat) : PySem.Builtin.bitAnd (n : Int) 1 = ((n % 2 : Nat) : Int) := by
  have h1 : decide ((0 : Int) ≤ (n : Int)) = true := decide_eq_true (by omega)
  unfold PySem.Builtin.bitAnd
  rw [h1]
  show ((((n : Int).toNat &&& (1 : Int).toNat : Nat)) : Int) = _
  rw [Int.toNat_natCast, show (1 : Int).toNat = 1 from rfl, Nat.and_one_is_mod]
theorem neg_ix {o : Bool} {l : List Int} (h : l ≠ []) : ∃ z, oIx [.lst o (nums l), .int (-1)] = some (.val (.int z)) := by
  have hl : 0 < l.length := List.length_pos_iff.mpr h
  refine ⟨l.getD (l.length - 1) 0, ?_⟩
  have e : L2.atI (nums l) (-1) = some (.int (l.getD (l.length - 1) 0)) := by
    unfold L2.atI L2.ixN
    rw [nums_len, if_neg (by decide), if_pos (by omega), Option.bind_some, show ((-1 : Int) + (l.length : Int)).toNat = l.length - 1 by omega]
    unfold nums
    rw [List.getElem?_map, List.getElem?_eq_getElem (by omega), Option.map_some, List.getD_eq_getElem?_getD, List.getElem?_eq_getElem (by omega), Option.getD_some]
  simp [oIx, items, e, cold, hot]
theorem max_i {i j : Int} : oMax2 [.int i, .int j] = some (.val (.int (if j > i then j else i))) := rfl
theorem min_i {i j : Int} : oMin2 [.int i, .int j] = some (.val (.int (if j < i then j else i))) := rfl
section
local macro_rules | `(tactic| walk_at "o") => `(tactic| first | (with_reducible exact max_i) | (with_reducible exact min_i))
theorem steps2_ok (a b : Int) {w : Int} {n : Nat} (h1 : 1 ≤ w) (h2 : w ≤ 40) (h4 : n ≤ 1000) : ∃ ss a' b', okS w ss ∧ ss.length ≤ n ∧ m__law_steps [.lst true [.int a, .int b], .int w, .int (n : Int)] = .ok (.lst true (nums ss)) [some (.lst true [.int a', .int b']), some (.int w), some (.int (n : Int))] := by
  by_cases hw : w = 1
  · subst hw
    refine ⟨[], a, b, (fun s hs => by cases hs), Nat.zero_le _, ?_⟩
    refine fn_go (body := b__law_steps) (L := [0, 1, 2]) (w := 7) (n := 3) (st := [some (.lst true [.int a, .int b]), some (.int 1), some (.int (n : Int)), none, none, none, none]) rfl ?_
    show b__law_steps [some (.lst true [.int a, .int b]), some (.int 1), some (.int (n : Int)), none, none, none, none] = SR.ret (.lst true []) _
    unfold b__law_steps
    apply zSeqR
    unfold st2__law_steps st1__law_steps
    walk_at "z"
  · obtain ⟨kd, a1, b1, k1, k2, e1⟩ := draw_ok a b 4 (by decide) (by decide)
    obtain ⟨m, a2, b2, m1, m2, e2⟩ := draw_ok a1 b1 ((n : Int) + 1) (by omega) (by omega)
    obtain ⟨M, hM⟩ : ∃ M : Nat, m = (M : Int) := ⟨m.toNat, by omega⟩
    subst hM
    obtain ⟨st', e, ss, a', b', y5, y6, g1, g2, rfl⟩ := forD_ok (g := fg11__law_steps) (body := fb11__law_steps) (fun i st => ∃ ss a' b' y5 y6, okS w ss ∧ ss.length = i ∧ st = [some (.lst true [.int a', .int b']), some (.int w), some (.int (n : Int)), some (.int kd), some (.lst true (nums ss)), y5, y6]) (rangeD 0 M) 0
      [some (.lst true [.int a2, .int b2]), some (.int w), some (.int (n : Int)), some (.int kd), some (.lst true (nums [])), none, none] ⟨[], a2, b2, none, none, (fun s hs => by cases hs), rfl, rfl⟩ (fun i d st e hI => by
        obtain ⟨ss, a', b', y5, y6, g1, g2, rfl⟩ := hI
        obtain ⟨hi, rfl⟩ := rangeD_get e
        obtain ⟨K, hK⟩ : ∃ K : Int, 0 + (i : Int) = K := ⟨_, rfl⟩
        have hK0 : 0 ≤ K := by omega
        rw [hK]
        obtain ⟨r, a3, b3, r1, r2, ed⟩ := draw_ok a' b' (w - 1) (by omega) (by omega)
        obtain ⟨s, hs⟩ : ∃ s : Int, 1 + r = s := ⟨_, rfl⟩
        have q5 : st5__law_steps [some (.lst true [.int a', .int b']), some (.int w), some (.int (n : Int)), some (.int kd), some (.lst true (nums ss)), some (.int K), y6] = .next [some (.lst true [.int a3, .int b3]), some (.int w), some (.int (n : Int)), some (.int kd), some (.lst true (nums ss)), some (.int K), some (.int s)] := by
          rw [← hs]
          unfold st5__law_steps
          walk_at "z"
        have q7 : ∃ s2 a4 b4, 1 ≤ s2 ∧ s2 ≤ w - 1 ∧ st7__law_steps [some (.lst true [.int a3, .int b3]), some (.int w), some (.int (n : Int)), some (.int kd), some (.lst true (nums ss)), some (.int K), some (.int s)] = .next [some (.lst true [.int a4, .int b4]), some (.int w), some (.int (n : Int)), some (.int kd), some (.lst true (nums ss)), some (.int K), some (.int s2)] := by
          by_cases hk : kd = 0
          · by_cases hss : ss = []
            · refine ⟨s, a3, b3, by omega, by omega, ?_⟩
              have z1 : ¬ ¬ (ss = []) := fun z => z hss
              have z2 : f2 pNe [.lst true (nums ss), .lst true []] = some (.val (.bl false)) := by
                show f2 pNe [.lst true (nums ss), .lst true (nums [])] = _
                rw [ne_of (pNe_lst true true ss []), decide_eq_true hss]
                rfl
              unfold st7__law_steps
              walk_at "z"
            · obtain ⟨z, hz⟩ := neg_ix (o := true) hss
              obtain ⟨x, a4, b4, x1, x2, ex⟩ := draw_ok a3 b3 4 (by decide) (by decide)
              have z2 : f2 pNe [.lst true (nums ss), .lst true []] = some (.val (.bl true)) := by
                show f2 pNe [.lst true (nums ss), .lst true (nums [])] = _
                rw [ne_of (pNe_lst true true ss []), decide_eq_false hss]
                rfl
              have hx : oIx [.lst true [.int 0, .int 1, .int (-1), .int 2], .int x] = some (.val (.int (([0, 1, -1, 2] : List Int).getD x.toNat 0))) := oIx_nums (l := [0, 1, -1, 2]) x1 (by show x < ((4 : Nat) : Int); omega)
              obtain ⟨y, hy⟩ : ∃ y : Int, ([0, 1, -1, 2] : List Int).getD x.toNat 0 = y := ⟨_, rfl⟩
              rw [hy] at hx
              obtain ⟨u, hu⟩ : ∃ u : Int, (if z + y > 1 then z + y else 1) = u := ⟨_, rfl⟩
              obtain ⟨v, hv⟩ : ∃ v : Int, (if u < w - 1 then u else w - 1) = v := ⟨_, rfl⟩
              have u1 : 1 ≤ u := by rw [← hu]; split <;> omega
              have v1 : 1 ≤ v := by rw [← hv]; split <;> omega
              have v2 : v ≤ w - 1 := by rw [← hv]; split <;> omega
              refine ⟨v, a4, b4, v1, v2, ?_⟩
              rw [← hv, ← hu]
              unfold st7__law_steps st6__law_steps
              walk_at "z"
          · refine ⟨s, a3, b3, by omega, by omega, ?_⟩
            unfold st7__law_steps
            walk_at "z"
        obtain ⟨s2, a4, b4, s21, s22, q7⟩ := q7
        have q9 : ∃ s3, 1 ≤ s3 ∧ s3 ≤ w - 1 ∧ st9__law_steps [some (.lst true [.int a4, .int b4]), some (.int w), some (.int (n : Int)), some (.int kd), some (.lst true (nums ss)), some (.int K), some (.int s2)] = .next [some (.lst true [.int a4, .int b4]), some (.int w), some (.int (n : Int)), some (.int kd), some (.lst true (nums ss)), some (.int K), some (.int s3)] := by
          by_cases hk : kd = 1
          · have t1 : 0 ≤ K % (w - 1) := Int.emod_nonneg _ (by omega)
            have t2 : K % (w - 1) < w - 1 := Int.emod_lt_of_pos _ (by omega)
            refine ⟨1 + K % (w - 1), by omega, by omega, ?_⟩
            unfold st9__law_steps st8__law_steps
            walk_at "z"
          · refine ⟨s2, s21, s22, ?_⟩
            unfold st9__law_steps
            walk_at "z"
        obtain ⟨s3, s31, s32, q9⟩ := q9
        refine ⟨_, [some (.lst true [.int a4, .int b4]), some (.int w), some (.int (n : Int)), some (.int kd), some (.lst true (nums (ss ++ [s3]))), some (.int K), some (.int s3)], rfl, .inl ?_, ss ++ [s3], a4, b4, some (.int K), some (.int s3), ?_, by rw [List.length_append, g2]; rfl, rfl⟩
        · unfold fb11__law_steps
          refine zSeq q5 (zSeq q7 (zSeq q9 ?_))
          unfold st10__law_steps
          rw [nums_app]
          have hn : (nums ss).length < 16777216 := by rw [nums_len]; omega
          walk_at "z"
        · intro x hx
          rcases List.mem_append.mp hx with hx | hx
          · exact g1 x hx
          · rw [List.mem_singleton.mp hx]
            exact ⟨s31, s32⟩)
    rw [Nat.zero_add, rangeD_len] at g2
    refine ⟨ss, a', b', g1, by omega, ?_⟩
    refine fn_go (body := b__law_steps) (L := [0, 1, 2]) (w := 7) (n := 3) (st := [some (.lst true [.int a', .int b']), some (.int w), some (.int (n : Int)), some (.int kd), none, y5, y6]) rfl ?_
    show b__law_steps [some (.lst true [.int a, .int b]), some (.int w), some (.int (n : Int)), none, none, none, none] = _
    unfold b__law_steps
    apply zSeq
    · unfold st2__law_steps
      walk_at "z"
    apply zSeq
    · unfold st3__law_steps
      walk_at "z"
    apply zSeq
    · unfold st4__law_steps
      walk_at "z"
    apply zSeq
    · apply zFor
      · apply wR1 (n := M) (z := (M : Int))
        · walk_at "e"
        · rfl
        · exact small62_nat (by omega)
      · exact e
    · unfold st13__law_steps
      walk_at "z"
end
theorem frz_rows : ∀ (L : List (List Int)), frzL (L.map fun r => D.lst true (nums r)) = L.map fun r => D.lst false (nums r)
  | [] => by rw [List.map_nil, frzL, List.map_nil]
  | r :: L => by rw [List.map_cons, frzL, frz_rows L, fz_l, List.map_cons]
theorem lrgD_desc {w : Nat} (h2 : w ≤ 40) : oLRgD [.int (w : Int), .int 0] = some (.newL (nums (desc w))) := by
  have e : rangeC (w : Int) (-1) w = nums (desc w) := desc_range w
  have h3 : small62 (w : Int) = true := small62_nat (by omega)
  have h4 : w ≤ 16777216 := by omega
  simp [oLRgD, h3, show small62 0 = true from rfl, h4, e]
theorem cp_len (t : Int) (l : List Int) (p : Nat) : ((l.take p).filter fun x => decide (x ≤ t)).length = cp t l p := rfl
theorem mono_ok {v w : Int} {a : List Int} (h : okS v a) (hv : v ≤ w) : okS w a := fun s hs => by have := h s hs; omega
theorem rev_t {ss : List Int} (h : ss.length ≤ 1000) : oRevA [.tup (nums ss)] = some (.newT (nums ss.reverse)) := by
  show (if (nums ss).length ≤ 16777216 then some (Out.newT (nums ss).reverse) else none) = _
  rw [if_pos (by rw [nums_len]; omega), nums_rev]
theorem okS_rev {w : Int} {ss : List Int} (h : okS w ss) : okS w ss.reverse := fun s hs => h s (List.mem_reverse.mp hs)
theorem backwards_ok {w : Nat} {ss : List Int} (h1 : 1 ≤ w) (h2 : w ≤ 40) (h : okS w ss) (hs : ss.length ≤ 1000) : ∃ ps, m_Network_backwards [net false w ss] = .ok (net true w ss.reverse) ps := by
  obtain ⟨p1, e1⟩ := init_tup (w := (w : Int)) (ss := ss.reverse) (by omega) (by omega) (okS_rev h) (by rw [List.length_reverse]; exact hs)
  exact ⟨_, by simp [m_Network_backwards, b_Network_backwards, oFld_w, oFld_s, rev_t hs, nums_colds, nums_frz, e1, fn, sSeq, SR.thn, sAsg, sExpr, sRet, sRetN, sIf, sNext, sFail, sBrk, sCont, Res.toS, Res.toN, Res.bind, tE, tNotM, tOrM, tAndM, tYesM, eC, eN, eMv, eOp, opds, eAnd, eOr, eNot, eIf, eChain, aNil, aCons, eLst, eTup, eCall, eCallL, eFz, eLc, eLc2, eApp, isLst, wipeS, eMake, eEqI, insC, keepL, getS, gN, gIx, gT, gTupM, sPar, sFor, iR1, iR2, iRD, iE, iEn, iEnT, iEnA, iEA, oIsiB, noScr, tyName, f2, pLe, pLt, pGe, pGt, oAdd, oSub, oMul, oMod, oDiv, oPow, oNeg, oAbs, oInt, oMax2, oMin2, oLen, items, lstItems, tupItems, hot, cold, Out.d, frz, frzL, frzF, List.range, List.range.loop, isN, oIsN, oNotN, oIsB, oNotB, pEq_int, pNe_int, pEq_bl, pNe_bl, pEq_lst, pNe_lst, pEq_tup, pNe_tup, kb_NoneType_int, kb_NoneType_bool, kb_NoneType_list, kb_NoneType_tuple, kb_NoneType_str, kb_bool_int, kb_bool_bool, kb_bool_list, kb_bool_tuple, kb_bool_str, kb_int_int, kb_int_bool, kb_int_list, kb_int_tuple, kb_int_str, kb_str_int, kb_str_bool, kb_str_list, kb_str_tuple, kb_str_str, kb_list_int, kb_list_bool, kb_list_list, kb_list_tuple, kb_list_str, kb_tuple_int, kb_tuple_bool, kb_tuple_list, kb_tuple_tuple, kb_tuple_str, kb_dict_int, kb_dict_bool, kb_dict_list, kb_dict_tuple, kb_dict_str] <;> rfl⟩
theorem up_nums {w : Nat} (h : w ≤ 40) : oLRg [.int 1, .int ((w : Int) + 1)] = some (.newL (nums (asc w))) := by
  have c : rgOk 1 ((w : Int) + 1) = true := by unfold rgOk; exact decide_eq_true (by omega)
  show (if rgOk 1 ((w : Int) + 1) then some (Out.newL (rangeD 1 ((w : Int) + 1 - 1).toNat)) else none) = _
  rw [if_pos c, show ((w : Int) + 1 - 1).toNat = w by omega, range1_nums]
  rfl
theorem hardest_ok {w : Nat} {ss : List Int} (h1 : 1 ≤ w) (h2 : w ≤ 40) (h : okS w ss) (hs : ss.length ≤ 1000) : ∃ ps, m_hardest [net false w ss] = .ok (.lst true (nums (hard w ss))) ps := by
  obtain ⟨p1, e1⟩ := backwards_ok h1 h2 h hs
  have al := asc_len w
  obtain ⟨st', e, ⟨y, rfl⟩, _⟩ := forD_rel (g := fg1_hardest) (body := fb1_hardest) D.int (fun (k : List Int) st => (∃ y, st = [some (net false w ss), some (.lst true (nums k)), y]) ∧ k.length = w) stpU ss.reverse (asc w)
    [some (net false w ss), some (.lst true (nums (asc w))), none] ⟨⟨none, rfl⟩, al⟩ (fun k s st hs hI => by
      obtain ⟨⟨y, rfl⟩, hk⟩ := hI
      have h12 := okS_rev h s hs
      have a1 : oIx [.lst true (nums k), .int (s - 1)] = some (.val (.int (k.getD (s - 1).toNat 0))) := oIx_nums (by omega) (by omega)
      have a2 : oIx [.lst true (nums k), .int s] = some (.val (.int (k.getD s.toNat 0))) := oIx_nums (by omega) (by omega)
      have a3 : L2.ixN (nums k).length (s - 1) = some (s - 1).toNat := by rw [nums_len]; exact ixN_nat (by omega) (by omega)
      have a4 : L2.ixN (nums (k.set (s - 1).toNat (k.getD s.toNat 0))).length s = some s.toNat := by rw [nums_len, List.length_set]; exact ixN_nat (by omega) (by omega)
      have d1 : stpU k s = if decide (k.getD (s - 1).toNat 0 < k.getD s.toNat 0) then (k.set (s - 1).toNat (k.getD s.toNat 0)).set s.toNat (k.getD (s - 1).toNat 0) else k := rfl
      refine ⟨_, [some (net false w ss), some (.lst true (nums (stpU k s))), some (.int s)], rfl, ?_, ⟨_, rfl⟩, by rw [stpU_len]; exact hk⟩
      rw [d1]
      clear d1 h12
      generalize k.getD (s - 1).toNat 0 = p1 at *
      generalize k.getD s.toNat 0 = q1 at *
      generalize (s - 1).toNat = i1 at *
      generalize s.toNat = j1 at *
      by_cases hq : p1 < q1
      · simp [fb1_hardest, a1, a2, a3, a4, hq, nums_set, fn, sSeq, SR.thn, sAsg, sExpr, sRet, sRetN, sIf, sNext, sFail, sBrk, sCont, Res.toS, Res.toN, Res.bind, tE, tNotM, tOrM, tAndM, tYesM, eC, eN, eMv, eOp, opds, eAnd, eOr, eNot, eIf, eChain, aNil, aCons, eLst, eTup, eCall, eCallL, eFz, eLc, eLc2, eApp, isLst, wipeS, eMake, eEqI, insC, keepL, getS, gN, gIx, gT, gTupM, sPar, sFor, iR1, iR2, iRD, iE, iEn, iEnT, iEnA, iEA, oIsiB, noScr, tyName, f2, pLe, pLt, pGe, pGt, oAdd, oSub, oMul, oMod, oDiv, oPow, oNeg, oAbs, oInt, oMax2, oMin2, oLen, items, lstItems, tupItems, hot, cold, Out.d, frz, frzL, frzF, List.range, List.range.loop, isN, oIsN, oNotN, oIsB, oNotB, pEq_int, pNe_int, pEq_bl, pNe_bl, pEq_lst, pNe_lst, pEq_tup, pNe_tup, kb_NoneType_int, kb_NoneType_bool, kb_NoneType_list, kb_NoneType_tuple, kb_NoneType_str, kb_bool_int, kb_bool_bool, kb_bool_list, kb_bool_tuple, kb_bool_str, kb_int_int, kb_int_bool, kb_int_list, kb_int_tuple, kb_int_str, kb_str_int, kb_str_bool, kb_str_list, kb_str_tuple, kb_str_str, kb_list_int, kb_list_bool, kb_list_list, kb_list_tuple, kb_list_str, kb_tuple_int, kb_tuple_bool, kb_tuple_list, kb_tuple_tuple, kb_tuple_str, kb_dict_int, kb_dict_bool, kb_dict_list, kb_dict_tuple, kb_dict_str]
      · simp [fb1_hardest, a1, a2, hq, fn, sSeq, SR.thn, sAsg, sExpr, sRet, sRetN, sIf, sNext, sFail, sBrk, sCont, Res.toS, Res.toN, Res.bind, tE, tNotM, tOrM, tAndM, tYesM, eC, eN, eMv, eOp, opds, eAnd, eOr, eNot, eIf, eChain, aNil, aCons, eLst, eTup, eCall, eCallL, eFz, eLc, eLc2, eApp, isLst, wipeS, eMake, eEqI, insC, keepL, getS, gN, gIx, gT, gTupM, sPar, sFor, iR1, iR2, iRD, iE, iEn, iEnT, iEnA, iEA, oIsiB, noScr, tyName, f2, pLe, pLt, pGe, pGt, oAdd, oSub, oMul, oMod, oDiv, oPow, oNeg, oAbs, oInt, oMax2, oMin2, oLen, items, lstItems, tupItems, hot, cold, Out.d, frz, frzL, frzF, List.range, List.range.loop, isN, oIsN, oNotN, oIsB, oNotB, pEq_int, pNe_int, pEq_bl, pNe_bl, pEq_lst, pNe_lst, pEq_tup, pNe_tup, kb_NoneType_int, kb_NoneType_bool, kb_NoneType_list, kb_NoneType_tuple, kb_NoneType_str, kb_bool_int, kb_bool_bool, kb_bool_list, kb_bool_tuple, kb_bool_str, kb_int_int, kb_int_bool, kb_int_list, kb_int_tuple, kb_int_str, kb_str_int, kb_str_bool, kb_str_list, kb_str_tuple, kb_str_str, kb_list_int, kb_list_bool, kb_list_list, kb_list_tuple, kb_list_str, kb_tuple_int, kb_tuple_bool, kb_tuple_list, kb_tuple_tuple, kb_tuple_str, kb_dict_int, kb_dict_bool, kb_dict_list, kb_dict_tuple, kb_dict_str])
  have e' : forD fg1_hardest fb1_hardest (nums ss.reverse) [some (net false w ss), some (.lst true (nums (asc w))), none] = _ := e
  rw [hard_fold] at e'
  have q0 := up_nums h2
  refine ⟨_, fn_go rfl (?_ : b_hardest [some (net false w ss), none, none] = SR.ret _ [some (net false w ss), none, y])⟩
  unfold b_hardest
  apply zSeq
  · walk_at "z"
  · apply zSeq
    · apply zFor
      · walk_at "w"
      · exact e'
    · walk_at "z"
theorem law_hardest_ok {w : Nat} {ss : List Int} {o : Bool} (h2 : w ≤ 40) (h : okS w ss) (hs : ss.length ≤ 1000) : ∃ ps, m__law_hardest [.lst o (nums ss), .int (w : Int)] = .ok (.lst true (nums (hard w ss))) ps := by
  have al := asc_len w
  obtain ⟨st', e, ⟨y3, y4, y5, rfl⟩, _⟩ := forD_rel (g := fg1__law_hardest) (body := fb1__law_hardest) D.int (fun (k : List Int) st => (∃ y3 y4 y5, st = [some (.lst o (nums ss)), some (.int (w : Int)), some (.lst true (nums k)), y3, y4, y5]) ∧ k.length = w) stpU ss.reverse (asc w)
    [some (.lst o (nums ss)), some (.int (w : Int)), some (.lst true (nums (asc w))), none, none, none] ⟨⟨none, none, none, rfl⟩, al⟩ (fun k s st hs hI => by
      obtain ⟨⟨y3, y4, y5, rfl⟩, hk⟩ := hI
      have h12 := h s (List.mem_reverse.mp hs)
      have a1 : oIx [.lst true (nums k), .int (s - 1)] = some (.val (.int (k.getD (s - 1).toNat 0))) := oIx_nums (by omega) (by omega)
      have a2 : oIx [.lst true (nums k), .int s] = some (.val (.int (k.getD s.toNat 0))) := oIx_nums (by omega) (by omega)
      have a3 : L2.ixN (nums k).length (s - 1) = some (s - 1).toNat := by rw [nums_len]; exact ixN_nat (by omega) (by omega)
      have a4 : L2.ixN (nums (k.set (s - 1).toNat (k.getD s.toNat 0))).length s = some s.toNat := by rw [nums_len, List.length_set]; exact ixN_nat (by omega) (by omega)
      have d1 : stpU k s = if decide (k.getD (s - 1).toNat 0 < k.getD s.toNat 0) then (k.set (s - 1).toNat (k.getD s.toNat 0)).set s.toNat (k.getD (s - 1).toNat 0) else k := rfl
      refine ⟨_, [some (.lst o (nums ss)), some (.int (w : Int)), some (.lst true (nums (stpU k s))), some (.int s), some (.int (k.getD (s - 1).toNat 0)), some (.int (k.getD s.toNat 0))], rfl, ?_, ⟨_, _, _, rfl⟩, by rw [stpU_len]; exact hk⟩
      rw [d1]
      clear d1 h12
      generalize k.getD (s - 1).toNat 0 = p1 at *
      generalize k.getD s.toNat 0 = q1 at *
      generalize (s - 1).toNat = i1 at *
      generalize s.toNat = j1 at *
      by_cases hq : p1 < q1
      · simp [fb1__law_hardest, a1, a2, a3, a4, hq, nums_set, fn, sSeq, SR.thn, sAsg, sExpr, sRet, sRetN, sIf, sNext, sFail, sBrk, sCont, Res.toS, Res.toN, Res.bind, tE, tNotM, tOrM, tAndM, tYesM, eC, eN, eMv, eOp, opds, eAnd, eOr, eNot, eIf, eChain, aNil, aCons, eLst, eTup, eCall, eCallL, eFz, eLc, eLc2, eApp, isLst, wipeS, eMake, eEqI, insC, keepL, getS, gN, gIx, gT, gTupM, sPar, sFor, iR1, iR2, iRD, iE, iEn, iEnT, iEnA, iEA, oIsiB, noScr, tyName, f2, pLe, pLt, pGe, pGt, oAdd, oSub, oMul, oMod, oDiv, oPow, oNeg, oAbs, oInt, oMax2, oMin2, oLen, items, lstItems, tupItems, hot, cold, Out.d, frz, frzL, frzF, List.range, List.range.loop, isN, oIsN, oNotN, oIsB, oNotB, pEq_int, pNe_int, pEq_bl, pNe_bl, pEq_lst, pNe_lst, pEq_tup, pNe_tup, kb_NoneType_int, kb_NoneType_bool, kb_NoneType_list, kb_NoneType_tuple, kb_NoneType_str, kb_bool_int, kb_bool_bool, kb_bool_list, kb_bool_tuple, kb_bool_str, kb_int_int, kb_int_bool, kb_int_list, kb_int_tuple, kb_int_str, kb_str_int, kb_str_bool, kb_str_list, kb_str_tuple, kb_str_str, kb_list_int, kb_list_bool, kb_list_list, kb_list_tuple, kb_list_str, kb_tuple_int, kb_tuple_bool, kb_tuple_list, kb_tuple_tuple, kb_tuple_str, kb_dict_int, kb_dict_bool, kb_dict_list, kb_dict_tuple, kb_dict_str]
      · simp [fb1__law_hardest, a1, a2, hq, fn, sSeq, SR.thn, sAsg, sExpr, sRet, sRetN, sIf, sNext, sFail, sBrk, sCont, Res.toS, Res.toN, Res.bind, tE, tNotM, tOrM, tAndM, tYesM, eC, eN, eMv, eOp, opds, eAnd, eOr, eNot, eIf, eChain, aNil, aCons, eLst, eTup, eCall, eCallL, eFz, eLc, eLc2, eApp, isLst, wipeS, eMake, eEqI, insC, keepL, getS, gN, gIx, gT, gTupM, sPar, sFor, iR1, iR2, iRD, iE, iEn, iEnT, iEnA, iEA, oIsiB, noScr, tyName, f2, pLe, pLt, pGe, pGt, oAdd, oSub, oMul, oMod, oDiv, oPow, oNeg, oAbs, oInt, oMax2, oMin2, oLen, items, lstItems, tupItems, hot, cold, Out.d, frz, frzL, frzF, List.range, List.range.loop, isN, oIsN, oNotN, oIsB, oNotB, pEq_int, pNe_int, pEq_bl, pNe_bl, pEq_lst, pNe_lst, pEq_tup, pNe_tup, kb_NoneType_int, kb_NoneType_bool, kb_NoneType_list, kb_NoneType_tuple, kb_NoneType_str, kb_bool_int, kb_bool_bool, kb_bool_list, kb_bool_tuple, kb_bool_str, kb_int_int, kb_int_bool, kb_int_list, kb_int_tuple, kb_int_str, kb_str_int, kb_str_bool, kb_str_list, kb_str_tuple, kb_str_str, kb_list_int, kb_list_bool, kb_list_list, kb_list_tuple, kb_list_str, kb_tuple_int, kb_tuple_bool, kb_tuple_list, kb_tuple_tuple, kb_tuple_str, kb_dict_int, kb_dict_bool, kb_dict_list, kb_dict_tuple, kb_dict_str])
  have e' : forD fg1__law_hardest fb1__law_hardest (nums ss.reverse) [some (.lst o (nums ss)), some (.int (w : Int)), some (.lst true (nums (asc w))), none, none, none] = _ := e
  rw [hard_fold] at e'
  have q0 := up_nums h2
  have q1 := rev_n (o := o) (p := ss) (by omega)
  refine ⟨_, fn_go rfl (?_ : b__law_hardest [some (.lst o (nums ss)), some (.int (w : Int)), none, none, none, none] = SR.ret _ [some (.lst o (nums ss)), some (.int (w : Int)), none, y3, y4, y5])⟩
  unfold b__law_hardest
  apply zSeq
  · walk_at "z"
  · apply zSeq
    · apply zFor
      · walk_at "w"
      · exact e'
    · walk_at "z"
def lows (t : Int) (l : List Int) : List Int := ((l.zipIdx 1).filter fun p => decide (p.1 ≤ t)).map fun p => ((p.2 : Nat) : Int)
theorem lows_len (t : Int) (l : List Int) : (lows t l).length ≤ l.length := by
  unfold lows
  rw [List.length_map]
  have := List.length_filter_le (fun p : Int × Nat => decide (p.1 ≤ t)) (l.zipIdx 1)
  rw [List.length_zipIdx] at this
  exact this
theorem lows_mem {t : Int} {l : List Int} {x : Int} (h : x ∈ lows t l) : 1 ≤ x ∧ x ≤ l.length := by
  unfold lows at h
  obtain ⟨p, hp, rfl⟩ := List.mem_map.mp h
  have := List.mem_zipIdx (List.mem_filter.mp hp).1
  omega
theorem enumD_idx (k : Nat) (l : List Int) : enumD k (nums l) = (l.zipIdx k).map fun p => D.tup [.int ((p.2 : Nat) : Int), .int p.1] := by
  induction l generalizing k with
  | nil => rfl
  | cons x l ih =>
    rw [nums_cons, List.zipIdx_cons, List.map_cons, ← ih (k + 1)]
    rfl
theorem places_ok {l : List Int} {t : Int} {o : Bool} (hl : l.length ≤ 1000) : ∃ ps, m_places_up_to [.lst o (nums l), .int t] = .ok (.lst true (nums (lows t l))) ps := by
  refine ⟨_, fn_go rfl (?_ : b_places_up_to [some (.lst o (nums l)), some (.int t), none, none] = SR.ret _ [some (.lst false (nums l)), some (.int t), none, none])⟩
  unfold b_places_up_to
  have q0 : aCons (eN 0) (aCons (eC (.int 1)) aNil) [some (.lst o (nums l)), some (.int t), none, none] = .ok [.lst false (nums l), .int ((1 : Nat) : Int)] [some (.lst false (nums l)), some (.int t), none, none] := by
    show _ = Res.ok [D.lst false (nums l), D.int 1] _
    cases o <;> walk_at "a"
  apply zRet
  apply xLc2n (fun p : Int × Nat => D.tup [.int ((p.2 : Nat) : Int), .int p.1]) (fun p => D.int ((p.2 : Nat) : Int)) (fun p => decide (p.1 ≤ t)) (l.zipIdx 1)
  · exact wEnK q0 (nums_colds l) (by decide)
  · exact enumD_idx 1 l
  · rw [List.length_zipIdx]; omega
  · rfl
  · intro p hp
    refine ⟨[some (.lst false (nums l)), some (.int t), some (.int ((p.2 : Nat) : Int)), some (.int p.1)], [some (.lst false (nums l)), some (.int t), some (.int ((p.2 : Nat) : Int)), some (.int p.1)], rfl, ?_, fun _ => rfl, fun _ => ⟨[some (.lst false (nums l)), some (.int t), some (.int ((p.2 : Nat) : Int)), some (.int p.1)], ?_, rfl⟩⟩
    · unfold lt1_places_up_to
      walk_at "c"
    · unfold le1_places_up_to
      walk_at "e"
  · unfold lows nums
    rw [List.map_map]
    rfl
def lims (w : Nat) (l : List Int) : List (List Int) := (List.range (w - 1)).map fun (i : Nat) => lows ((1 : Int) + i) l
theorem lims_ok {w : Nat} {l : List Int} (hl : l.length = w) (h2 : w ≤ 40) : Rp (Py.py (lims w l)) := by
  refine rp_rows (n := 40) (fun r hr => ?_) ?_
  · obtain ⟨i, _, rfl⟩ := List.mem_map.mp hr
    refine ⟨Nat.le_trans (lows_len _ _) (by omega), fun x hx => ?_⟩
    have := lows_mem hx
    have : (40 : Nat) < 10 ^ 25 := by decide
    omega
  · unfold lims
    rw [List.length_map, List.length_range]
    omega
theorem limits_ok {w : Nat} {ss : List Int} (h1 : 1 ≤ w) (h2 : w ≤ 40) (h : okS w ss) (hs : ss.length ≤ 1000) : ∃ ps, m_limits [net false w ss] = .ok (.lst true ((lims w (hard w ss)).map fun r => .lst true (nums r))) ps := by
  obtain ⟨p1, e1⟩ := hardest_ok h1 h2 h hs
  have hl := hard_len w ss
  have q0 : iR2 (eC (.int 1)) (eOp (oFld 0 "own_width") [.s 0]) [some (net false w ss), some (.lst true (nums (hard w ss))), none] = .ok (rangeD 1 (w - 1)) [some (net false w ss), some (.lst true (nums (hard w ss))), none] := by
    apply wR2 (i := 1) (j := (w : Int))
    · walk_at "e"
    · walk_at "e"
    · rfl
    · exact small62_nat (n := w) (by omega)
    · omega
  obtain ⟨acc, st', e, hst, hacc⟩ := compD_ok (g := lg1_limits) (t := tYesM) (e := le1_limits) (vs := [2]) (fun i st acc => (∃ o, st = [some (net false w ss), some (.lst o (nums (hard w ss))), none]) ∧ acc = ((List.range i).map fun (j : Nat) => D.lst true (nums (lows ((1 : Int) + j) (hard w ss))))) (rangeD 1 (w - 1)) 0
    [some (net false w ss), some (.lst true (nums (hard w ss))), none] [] ⟨⟨true, rfl⟩, rfl⟩ (fun i d st acc e hI => by
      obtain ⟨⟨o, rfl⟩, rfl⟩ := hI
      obtain ⟨hi, rfl⟩ := rangeD_get e
      rw [Nat.zero_add]
      obtain ⟨p2, e2⟩ := places_ok (l := hard w ss) (t := (1 : Int) + (i : Int)) (o := false) (by omega)
      refine ⟨[some (net false w ss), some (.lst o (nums (hard w ss))), some (.int ((1 : Int) + (i : Int)))], true, _, rfl, rfl, (fun h => by cases h), fun _ => ⟨?_, .lst true (nums (lows ((1 : Int) + (i : Int)) (hard w ss))), [some (net false w ss), some (.lst false (nums (hard w ss))), some (.int ((1 : Int) + (i : Int)))], ?_, ⟨false, rfl⟩, ?_⟩⟩
      · rw [List.length_map, List.length_range]; omega
      · unfold le1_limits
        cases o <;> walk_at "e"
      · rw [List.range_succ, List.map_append, List.map_singleton])
  obtain ⟨o, rfl⟩ := hst
  rw [Nat.zero_add, rangeD_len] at hacc
  have ha : acc = (lims w (hard w ss)).map fun r => .lst true (nums r) := by
    rw [hacc]
    unfold lims
    rw [List.map_map]
    rfl
  subst ha
  refine ⟨_, fn_go rfl (?_ : b_limits [some (net false w ss), none, none] = SR.ret _ [some (net false w ss), some (.lst o (nums (hard w ss))), none])⟩
  unfold b_limits
  apply zSeq
  · walk_at "z"
  · apply zRet
    exact eLc_v q0 e
end Lw30

namespace Lw30
open PySem (Str)
open DL Nw
local macro_rules | `(tactic| walk_at "g") => `(tactic| first | exact rfl | (with_reducible assumption))
local macro_rules | `(tactic| walk_at "s") => `(tactic| first | (with_reducible exact set_0) | ((with_reducible apply set_s); walk_at "s") | (with_reducible assumption) | exact rfl)
local macro_rules | `(tactic| walk_at "fl") => `(tactic| first | (with_reducible exact nums_frz _) | (with_reducible exact fzL_n) | ((with_reducible apply fzL_c); walk_at "f"; walk_at "fl") | (with_reducible assumption))
local macro_rules | `(tactic| walk_at "f") => `(tactic| first | (with_reducible exact fz_i) | (with_reducible exact fz_b) | (with_reducible exact fz_n) | (with_reducible exact fz_s) | (with_reducible exact fz_l) | (with_reducible exact fz_t) | ((with_reducible apply fz_lst); walk_at "fl") | ((with_reducible apply fz_tup); walk_at "fl") | (with_reducible assumption) | exact rfl)
local macro_rules | `(tactic| walk_at "k") => `(tactic| first | (with_reducible assumption) | (with_reducible exact rfl) | omega | (intro z; omega) | decide)
local macro_rules | `(tactic| walk_at "d") => `(tactic| first | (with_reducible exact od_val) | (with_reducible exact od_newL) | (with_reducible exact od_newT) | ((with_reducible apply od_eq); first | (with_reducible exact rfl) | ((with_reducible apply nbl_n); walk_at "k") | ((with_reducible apply bl_n); walk_at "k") | ((with_reducible apply bl_y); walk_at "k") | ((with_reducible apply nbl_y); walk_at "k")))
local macro_rules | `(tactic| walk_at "h") => `(tactic| first | (with_reducible assumption) | (simp only [List.nil_append, List.cons_append]; with_reducible assumption))
local macro_rules | `(tactic| walk_at "o") => `(tactic| first | (with_reducible assumption) | (with_reducible exact add_i) | (with_reducible exact sub_i) | (with_reducible exact lt_i) | (with_reducible exact le_i) | (with_reducible exact gt_i) | (with_reducible exact ge_i) | (with_reducible exact int_i) | (with_reducible exact int_b) | (with_reducible exact abs_i) | (with_reducible exact neg_i) | (with_reducible exact oLen_l) | (with_reducible exact oLen_scr _) | (with_reducible exact len_t) | (with_reducible exact tup_t) | (with_reducible exact oSorted_l) | (with_reducible exact oSum_nums _ _) | (with_reducible exact eq_of (pEq_int _ _)) | (with_reducible exact ne_of (pNe_int _ _)) | (with_reducible exact eq_of (pEq_lst _ _ _ _)) | (with_reducible exact ne_of (pNe_lst _ _ _ _)) | (with_reducible exact eq_of (pEq_tup _ _)) | (with_reducible exact ne_of (pNe_tup _ _)) | (with_reducible exact eq_of (pEq_bl _ _)) | (with_reducible exact ne_of (pNe_bl _ _)) | ((with_reducible apply lst_o); omega) | ((with_reducible apply lst_t); omega) | ((with_reducible apply tup_l); omega) | ((with_reducible apply oMod_v); omega) | ((with_reducible apply oDiv_v); omega; omega) | ((with_reducible apply oDiv_w); omega; omega) | ((with_reducible apply oMul_v); omega) | ((with_reducible apply oMul_l); omega) | ((with_reducible apply oIx_nums); omega; omega) | ((with_reducible apply oIx_tup); omega; omega))
local macro_rules | `(tactic| walk_at "a") => `(tactic| first | (with_reducible exact xANil) | ((with_reducible apply xACons); walk_at "e"; walk_at "a"))
local macro_rules | `(tactic| walk_at "it") => `(tactic| first | (with_reducible exact lst_it) | (with_reducible exact tup_it) | exact rfl)
local macro_rules | `(tactic| walk_at "cd") => `(tactic| first | (with_reducible exact nums_colds _) | (with_reducible exact colds_range _ _) | (with_reducible assumption) | exact rfl)
local macro_rules | `(tactic| walk_at "w") => `(tactic| first | ((with_reducible apply wE); walk_at "e"; walk_at "it"; walk_at "cd") | (with_reducible assumption))
local macro_rules | `(tactic| walk_at "e") => `(tactic| first | (with_reducible assumption) | (with_reducible exact xC) | ((with_reducible apply xN); walk_at "g"; exact rfl) | ((with_reducible apply xNf); walk_at "g"; exact rfl; walk_at "f"; walk_at "s") | ((with_reducible apply xMv); walk_at "g"; walk_at "s") | ((with_reducible apply xOvv); walk_at "e"; walk_at "e"; walk_at "o"; walk_at "d") | ((with_reducible apply xOvs); walk_at "e"; walk_at "g"; walk_at "o"; walk_at "d") | ((with_reducible apply xOsv); walk_at "g"; walk_at "e"; walk_at "g"; walk_at "o"; walk_at "d") | ((with_reducible apply xOss); walk_at "g"; walk_at "g"; walk_at "o"; walk_at "d") | ((with_reducible apply xOv); walk_at "e"; walk_at "o"; walk_at "d") | ((with_reducible apply xOs); walk_at "g"; walk_at "o"; walk_at "d") | ((with_reducible apply xCall); walk_at "a"; walk_at "h") | ((with_reducible apply xCallL); walk_at "a"; walk_at "g"; walk_at "a"; walk_at "g"; exact rfl; walk_at "h"; exact rfl; walk_at "s") | ((with_reducible apply xCallLc); walk_at "a"; walk_at "g"; walk_at "a"; walk_at "g"; exact rfl; walk_at "h") | ((with_reducible apply xMake); walk_at "a"; walk_at "h") | ((with_reducible apply xFz); walk_at "e"; walk_at "f") | ((with_reducible apply xMth); walk_at "e"; walk_at "m"; walk_at "a"; walk_at "h") | ((with_reducible apply xLst); walk_at "a"; exact rfl) | ((with_reducible apply xTup); walk_at "a"; exact rfl; walk_at "fl") | ((with_reducible apply xNot); walk_at "e") | ((with_reducible apply xAndB); walk_at "e"; walk_at "e") | ((with_reducible apply xOrB); walk_at "e"; walk_at "e") | ((with_reducible apply xIfT); walk_at "c"; walk_at "e") | ((with_reducible apply xIfF); walk_at "c"; walk_at "e") | ((with_reducible apply xApp); walk_at "g"; exact rfl; walk_at "e"; walk_at "g"; walk_at "n"; walk_at "s") | ((with_reducible apply xExt); walk_at "g"; exact rfl; walk_at "e"; walk_at "g"; walk_at "n"; walk_at "s") | ((with_reducible apply xExtT); walk_at "g"; exact rfl; walk_at "e"; walk_at "g"; walk_at "n"; walk_at "s") | ((with_reducible apply xMtS); walk_at "g"; exact rfl; walk_at "g"; walk_at "o"; walk_at "d") | ((with_reducible apply xEqI); walk_at "e"; walk_at "e"; exact rfl; exact rfl; walk_at "h"; walk_at "i") | ((with_reducible apply xLenI); walk_at "e"; exact rfl; walk_at "h"; walk_at "n"))
local macro_rules | `(tactic| walk_at "i") => `(tactic| first | exact rfl | (show D.bl (decide _) = _; apply bl_y; walk_at "k") | (show D.bl (!decide _) = _; apply nbl_n; walk_at "k"))
local macro_rules | `(tactic| walk_at "n") => `(tactic| first | (simp only [nums_len, List.length_append, List.length_cons, List.length_nil]; omega) | omega | exact rfl)
local macro_rules | `(tactic| walk_at "c") => `(tactic| first | ((with_reducible apply cE); walk_at "e") | ((with_reducible apply cNotF); walk_at "c") | ((with_reducible apply cNotT); walk_at "c") | ((with_reducible apply cOrT); walk_at "c") | ((with_reducible apply cAndF); walk_at "c") | ((with_reducible apply cOrF); walk_at "c"; walk_at "c") | ((with_reducible apply cAndT); walk_at "c"; walk_at "c"))
local macro_rules | `(tactic| walk_at "t") => `(tactic| first | ((with_reducible apply gN_r); walk_at "s") | ((with_reducible apply gIx_r); exact rfl; walk_at "g"; walk_at "e"; walk_at "g"; walk_at "j"; walk_at "s"))
local macro_rules | `(tactic| walk_at "j") => `(tactic| first | exact rfl | (simp only [nums_len]; apply ixN_nat <;> omega))
local macro_rules | `(tactic| walk_at "z") => `(tactic| first | ((with_reducible apply zAsg); walk_at "e"; walk_at "t") | ((with_reducible apply zExpr); walk_at "e") | ((with_reducible apply zRet); walk_at "e") | ((with_reducible apply zPar); walk_at "a"; walk_at "s"; walk_at "s") | ((with_reducible apply zAug); walk_at "g"; exact rfl; walk_at "e"; walk_at "o"; walk_at "s") | (with_reducible exact zSkip) | ((with_reducible apply zNo); walk_at "c"; walk_at "z") | ((with_reducible apply zYes); walk_at "c"; walk_at "z") | ((with_reducible apply zSeq); walk_at "z"; walk_at "z") | ((with_reducible apply zSeqR); walk_at "z"))
local macro_rules | `(tactic| walk_at "m") => `(tactic| first | (with_reducible assumption) | exact rfl)

local macro_rules | `(tactic| walk_at "f") => `(tactic| with_reducible exact frz_net)
local macro_rules | `(tactic| walk_at "o") => `(tactic| first | (with_reducible exact oFld_w) | (with_reducible exact oFld_s) | (with_reducible exact repr_bl _))
theorem xM0 {i : Nat} {f : List D → Option (D × List D)} {st st' : Sl} {xs ys : List D} {d : D} (h : getS st i = some (.lst true xs)) (hf : f xs = some (d, ys)) (hs : st.set i (some (.lst true ys)) = st') : eM0 i f st = .ok d st' := by
  unfold eM0
  rw [h]
  dsimp only
  rw [hf]
  show Res.ok d (st.set i (some (.lst true ys))) = _
  rw [hs]
/-- the places of the law -/
theorem rows_ok {w : Nat} {H ss : List Int} (h1 : 1 ≤ w) (h2 : w ≤ 40) (hl : H.length = w) (y4 y5 y6 y7 y8 y9 : Option D) :
    st7__law_holds [some (.int (w : Int)), some (.lst false (nums ss)), some (net false w ss), some (.lst true (nums H)), y4, none, y6, y7, none, none] =
      .next [some (.int (w : Int)), some (.lst false (nums ss)), some (net false w ss), some (.lst true (nums H)), some (.lst true ((lims w H).map fun r => .lst true (nums r))), none, y6, y7, none, none] := by
  have q0 : iR2 (eC (.int 1)) (eN 0) [some (.int (w : Int)), some (.lst false (nums ss)), some (net false w ss), some (.lst true (nums H)), y4, none, y6, y7, none, none] = .ok (rangeD 1 (w - 1)) [some (.int (w : Int)), some (.lst false (nums ss)), some (net false w ss), some (.lst true (nums H)), y4, none, y6, y7, none, none] :=
    wR2 (i := 1) (j := (w : Int)) xC (xN rfl rfl) rfl (small62_nat (n := w) (by omega)) (by omega)
  obtain ⟨acc, st', e, hst, hacc⟩ := compD_ok (g := lg6__law_holds) (t := tYesM) (e := le6__law_holds) (vs := [8]) (fun i st acc => st = [some (.int (w : Int)), some (.lst false (nums ss)), some (net false w ss), some (.lst true (nums H)), y4, none, y6, y7, none, none] ∧ acc = ((List.range i).map fun (j : Nat) => D.lst true (nums (lows ((1 : Int) + j) H)))) (rangeD 1 (w - 1)) 0
    [some (.int (w : Int)), some (.lst false (nums ss)), some (net false w ss), some (.lst true (nums H)), y4, none, y6, y7, none, none] [] ⟨rfl, rfl⟩ (fun i d st acc e hI => by
      obtain ⟨rfl, rfl⟩ := hI
      obtain ⟨hi, rfl⟩ := rangeD_get e
      rw [Nat.zero_add]
      refine ⟨[some (.int (w : Int)), some (.lst false (nums ss)), some (net false w ss), some (.lst true (nums H)), y4, none, y6, y7, some (.int ((1 : Int) + (i : Int))), none], true, _, rfl, rfl, (fun h => by cases h), fun _ => ⟨?_, .lst true (nums (lows ((1 : Int) + (i : Int)) H)), [some (.int (w : Int)), some (.lst false (nums ss)), some (net false w ss), some (.lst true (nums H)), y4, none, y6, y7, some (.int ((1 : Int) + (i : Int))), none], ?_, rfl, ?_⟩⟩
      · rw [List.length_map, List.length_range]; omega
      · unfold le6__law_holds
        refine xLcK (o := true) D.int (fun p => D.int ((p.2 : Nat) : Int)) (fun p => decide (p.1 ≤ (1 : Int) + (i : Int))) H (fun _ => rfl) (by decide) rfl (by omega) rfl (fun x k hk => ?_) ?_
        · refine ⟨[some (.int (w : Int)), some (.lst false (nums ss)), some (net false w ss), some (.lst true (nums H)), y4, some (.int ((1 + k : Nat) : Int)), y6, y7, some (.int ((1 : Int) + (i : Int))), some (.int x)], rfl, ?_, rfl, fun _ => ?_⟩
          · unfold lt5__law_holds
            walk_at "c"
          · unfold le5__law_holds
            walk_at "e"
        · unfold lows nums
          rw [List.map_map]
          rfl
      · rw [List.range_succ, List.map_append, List.map_singleton])
  subst hst
  rw [Nat.zero_add, rangeD_len] at hacc
  have ha : acc = (lims w H).map fun r => .lst true (nums r) := by
    rw [hacc]
    unfold lims
    rw [List.map_map]
    rfl
  subst ha
  unfold st7__law_holds
  apply zAsg
  · exact eLc_v q0 e
  · exact rfl
/-- no neighbours exchanged -/
theorem turn_ok {w : Nat} {ss : List Int} (h2 : w ≤ 40) (h : okS w ss) (hs : ss.length ≤ 1000) {i : Nat} (hi : 1 + i < w) (y4 y5 y6 y7 y8 y9 : Option D) :
    ∃ z6, fb14__law_holds [some (.int (w : Int)), some (.lst false (nums ss)), some (net false w ss), some (.lst true (nums (hard w ss))), y4, some (.int ((1 : Int) + (i : Int))), y6, y7, y8, y9] =
      .next [some (.int (w : Int)), some (.lst false (nums ss)), some (net false w ss), some (.lst true (nums (hard w ss))), y4, some (.int ((1 : Int) + (i : Int))), z6, y7, y8, y9] := by
  have hl := hard_len w ss
  obtain ⟨s, hsd⟩ : ∃ s : Int, (1 : Int) + (i : Int) = s := ⟨_, rfl⟩
  rw [hsd]
  have s1 : 1 ≤ s := by omega
  have s2 : s < (hard w ss).length := by omega
  have a1 : oIx [.lst true (nums (hard w ss)), .int (s - 1)] = some (.val (.int ((hard w ss).getD (s - 1).toNat 0))) := oIx_nums (by omega) (by omega)
  have a2 : oIx [.lst true (nums (hard w ss)), .int s] = some (.val (.int ((hard w ss).getD s.toNat 0))) := oIx_nums (by omega) (by omega)
  by_cases hq : (hard w ss).getD (s - 1).toNat 0 < (hard w ss).getD s.toNat 0
  · have hh := harder h s1 (by omega) (decide_eq_true hq)
    have hx := xch_cut s1 s2
    have hxl : (xch (hard w ss) s).length = w := by unfold xch; rw [List.length_set, List.length_set, hl]
    obtain ⟨p1, e1⟩ := law_result_ok (ss := ss) (l := xch (hard w ss) s) (o := false) (p := false) (by rw [hxl]; exact h) (by omega)
    obtain ⟨p2, e2⟩ := law_asc_ok (l := runL ss (xch (hard w ss) s)) (o := true) (by rw [runL_len]; omega)
    rw [hh] at e2
    have b1 : oS01 [.lst true (nums (hard w ss)), .int (s - 1)] = some (.newL (nums ((hard w ss).take (s - 1).toNat))) := s01_n (k := (s - 1).toNat) (by omega) (by omega)
    have b2 : oS10 [.lst true (nums (hard w ss)), .int (s + 1)] = some (.newL (nums ((hard w ss).drop (s + 1).toNat))) := s10_n (k := (s + 1).toNat) (by omega) (by omega)
    have b3 : oAdd [.lst true (nums ((hard w ss).take (s - 1).toNat)), .lst true [.int ((hard w ss).getD s.toNat 0), .int ((hard w ss).getD (s - 1).toNat 0)]] = some (.newL (nums ((hard w ss).take (s - 1).toNat ++ [(hard w ss).getD s.toNat 0, (hard w ss).getD (s - 1).toNat 0]))) :=
      add_l (q := [(hard w ss).getD s.toNat 0, (hard w ss).getD (s - 1).toNat 0]) (by rw [List.length_take]; show _ + 2 ≤ _; omega)
    have b4 : oAdd [.lst true (nums ((hard w ss).take (s - 1).toNat ++ [(hard w ss).getD s.toNat 0, (hard w ss).getD (s - 1).toNat 0])), .lst true (nums ((hard w ss).drop (s + 1).toNat))] = some (.newL (nums (xch (hard w ss) s))) := by
      rw [← hx]
      exact add_l (by rw [List.length_append, List.length_take, List.length_drop]; show _ + 2 + _ ≤ _; omega)
    generalize xch (hard w ss) s = Z at *
    generalize (hard w ss).getD (s - 1).toNat 0 = u at *
    generalize (hard w ss).getD s.toNat 0 = v at *
    generalize (hard w ss).take (s - 1).toNat = U at *
    generalize (hard w ss).drop (s + 1).toNat = V at *
    refine ⟨some (.lst false (nums Z)), ?_⟩
    unfold fb14__law_holds st13__law_holds
    apply zYes
    · walk_at "c"
    · apply zSeq (st1 := [some (.int (w : Int)), some (.lst false (nums ss)), some (net false w ss), some (.lst true (nums (hard w ss))), y4, some (.int s), some (.lst true (nums Z)), y7, y8, y9])
      · unfold st10__law_holds
        walk_at "z"
      · unfold st12__law_holds
        walk_at "z"
  · refine ⟨y6, ?_⟩
    generalize (hard w ss).getD (s - 1).toNat 0 = u at *
    generalize (hard w ss).getD s.toNat 0 = v at *
    unfold fb14__law_holds st13__law_holds
    walk_at "z"
theorem holds_ok {w : Nat} {ss : List Int} (h1 : 1 ≤ w) (h2 : w ≤ 40) (h : okS w ss) (hs : ss.length ≤ 1000) :
    ∃ ps, m__law_holds [.int (w : Int), .lst true (nums ss)] = .ok (.bl true) ps := by
  have hl := hard_len w ss
  obtain ⟨p1, e1⟩ := init_ok (w := (w : Int)) (ss := ss) (by omega) (by omega) h hs false
  obtain ⟨p2, e2⟩ := hardest_ok h1 h2 h hs
  obtain ⟨p3, e3⟩ := law_hardest_ok (o := false) h2 h hs
  have e4 := law_result_ps (ss := ss) (l := hard w ss) (o := false) (p := true) (by rw [hl]; exact h) (by omega)
  obtain ⟨p5, e5⟩ := law_asc_ok (l := runL ss (hard w ss)) (o := true) (by rw [runL_len]; omega)
  rw [hard_sorted h] at e5
  obtain ⟨p6, e6⟩ := limits_ok h1 h2 h hs
  have R : Rp (Py.py (hard w ss)) := rp_nums (fun x hx => by
    have := dom_base.desc_mem w x ((hard_perm h).mem_iff.mp hx)
    have : (40 : Nat) < 10 ^ 25 := by decide
    omega) (by omega)
  have r1 : oRepr [.lst true (nums (hard w ss))] = some (.val (.str (PySem.PyData.shown (Py.py (hard w ss))))) := R.repr (py_nums (hard w ss))
  have r3 := R.ne
  have r4 := R.eq
  have Q := lims_ok hl h2
  have r5 : oRepr [.lst true ((lims w (hard w ss)).map fun r => .lst true (nums r))] = some (.val (.str (PySem.PyData.shown (Py.py (lims w (hard w ss)))))) := Q.repr (py_rows (lims w (hard w ss)))
  have r6 := Q.ne
  have e7 := fun y4 y5 y6 y7 y8 y9 => rows_ok (ss := ss) h1 h2 hl y4 y5 y6 y7 y8 y9
  have T := fun (i : Nat) (hi : 1 + i < w) y4 y5 y6 y7 y8 y9 => turn_ok h2 h hs hi y4 y5 y6 y7 y8 y9
  generalize PySem.PyData.shown (Py.py (lims w (hard w ss))) = Y at *
  generalize (lims w (hard w ss)).map (fun r => D.lst true (nums r)) = B at *
  generalize PySem.PyData.shown (Py.py (hard w ss)) = X at *
  obtain ⟨st', L, ⟨y5, y6, rfl⟩⟩ := forD_inv (g := fg14__law_holds) (body := fb14__law_holds) (fun st => ∃ y5 y6, st = [some (.int (w : Int)), some (.lst false (nums ss)), some (net false w ss), some (.lst true (nums (hard w ss))), some (.lst true B), y5, y6, none, none, none]) (rangeD 1 (w - 1))
    [some (.int (w : Int)), some (.lst false (nums ss)), some (net false w ss), some (.lst true (nums (hard w ss))), some (.lst true B), none, none, none, none, none] ⟨none, none, rfl⟩ (fun d st hd hI => by
      obtain ⟨y5, y6, rfl⟩ := hI
      obtain ⟨i, hi, rfl⟩ := rangeD_mem hd
      obtain ⟨z6, e⟩ := T i (by omega) (some (.lst true B)) none y6 none none none
      exact ⟨_, _, rfl, e, _, _, rfl⟩)
  have q8 : iR2 (eC (.int 1)) (eN 0) [some (.int (w : Int)), some (.lst false (nums ss)), some (net false w ss), some (.lst true (nums (hard w ss))), some (.lst true B), none, none, none, none, none] = .ok (rangeD 1 (w - 1)) [some (.int (w : Int)), some (.lst false (nums ss)), some (net false w ss), some (.lst true (nums (hard w ss))), some (.lst true B), none, none, none, none, none] :=
    wR2 (i := 1) (j := (w : Int)) xC (xN rfl rfl) rfl (small62_nat (n := w) (by omega)) (by omega)
  have q9 : fReverse (nums (hard w ss)) = some (.non, nums (hard w ss).reverse) := by
    unfold fReverse
    rw [nums_colds, if_pos rfl, nums_rev]
  have q17 : st17__law_holds [some (.int (w : Int)), some (.lst false (nums ss)), some (net false w ss), some (.lst true (nums (hard w ss))), some (.lst true B), y5, y6, some (.str X), none, none] = .next [some (.int (w : Int)), some (.lst false (nums ss)), some (net false w ss), some (.lst true (nums (hard w ss).reverse)), some (.lst true B), y5, y6, some (.str X), none, none] := by
    unfold st17__law_holds
    apply zExpr
    exact xM0 rfl q9 rfl
  have q18 : st18__law_holds [some (.int (w : Int)), some (.lst false (nums ss)), some (net false w ss), some (.lst true (nums (hard w ss).reverse)), some (.lst true B), y5, y6, some (.str X), none, none] = .next [some (.int (w : Int)), some (.lst false (nums ss)), some (net false w ss), some (.lst true (nums ((hard w ss).reverse ++ [0]))), some (.lst true B), y5, y6, some (.str X), none, none] := by
    rw [nums_app]
    unfold st18__law_holds
    apply zExpr
    apply xApp
    · rfl
    · rfl
    · exact xC
    · rfl
    · rw [nums_len, List.length_reverse]; omega
    · rfl
  refine ⟨_, fn_go (body := b__law_holds) (L := [0, 1]) (w := 10) (n := 2) (st := [some (.int (w : Int)), some (.lst false (nums ss)), some (net false w ss), some (.lst true (nums ((hard w ss).reverse ++ [0]))), some (.lst true B), y5, y6, some (.str X), none, none]) rfl ?_⟩
  show b__law_holds [some (.int (w : Int)), some (.lst true (nums ss)), none, none, none, none, none, none, none, none] = _
  unfold b__law_holds
  apply zSeq
  · unfold st1__law_holds
    walk_at "z"
  apply zSeq
  · unfold st2__law_holds
    walk_at "z"
  apply zSeq
  · unfold st4__law_holds
    walk_at "z"
  refine zSeq (e7 none none none none none none) ?_
  apply zSeq
  · unfold st9__law_holds
    walk_at "z"
  refine zSeq (zFor q8 L) ?_
  apply zSeq
  · unfold st16__law_holds
    walk_at "z"
  refine zSeq q17 ?_
  refine zSeq q18 ?_
  unfold st19__law_holds
  walk_at "z"
theorem body_ok (ns : List Int) (hns : ns.length ≤ 63) (i : Int) (hi0 : 0 ≤ i) (hi : i < 100) (y2 y3 : Option D) :
    ∃ z2 z3, fb8_law [some (.scr ns), some (.int i), y2, y3] = .next [some (.scr ns), some (.int i), z2, z3] := by
  obtain ⟨a, b, ps1, e1⟩ := source_ok ns i hi0 hi hns
  obtain ⟨r, a1, b1, r1, r2, e2⟩ := draw_ok a b 40 (by decide) (by decide)
  obtain ⟨w, hw⟩ : ∃ w : Nat, 1 + r = (w : Int) := ⟨(1 + r).toNat, by omega⟩
  obtain ⟨ss, a2, b2, h, hsl, e3⟩ := steps2_ok a1 b1 (w := w) (n := 120) (by omega) (by omega) (by decide)
  obtain ⟨p4, e4⟩ := holds_ok (w := w) (ss := ss) (by omega) (by omega) h (by omega)
  obtain ⟨r', a4, b4, r3, r4, e5⟩ := draw_ok a2 b2 6 (by decide) (by decide)
  obtain ⟨v, hv⟩ : ∃ v : Nat, 1 + r' = (v : Int) := ⟨(1 + r').toNat, by omega⟩
  obtain ⟨tt, a5, b5, h', htl, e6⟩ := steps2_ok a4 b4 (w := v) (n := 14) (by omega) (by omega) (by decide)
  obtain ⟨p7, e7⟩ := holds_ok (w := v) (ss := tt) (by omega) (by omega) h' (by omega)
  have e3 : m__law_steps [.lst true [.int a1, .int b1], .int (w : Int), .int 120] = _ := e3
  have e6 : m__law_steps [.lst true [.int a4, .int b4], .int (v : Int), .int 14] = _ := e6
  refine ⟨_, _, (?_ : _ = SR.next [some (.scr ns), some (.int i), some (.lst true [.int a5, .int b5]), some (.int (v : Int))])⟩
  unfold fb8_law
  apply zSeq
  · unfold st1_law
    walk_at "z"
  apply zSeq
  · unfold st2_law
    walk_at "z"
  rw [hw]
  apply zSeq
  · unfold st4_law
    walk_at "z"
  apply zSeq
  · unfold st5_law
    walk_at "z"
  rw [hv]
  unfold st7_law
  walk_at "z"
theorem fin_ok (y0 y1 y2 y3 : Option D) : st10_law [y0, y1, y2, y3] = .ret (.bl true) [y0, y1, y2, y3] := by
  kernel_rfl
theorem law_ok (ns : List Int) (hns : ns.length ≤ 63) : ∃ ps, m_law [.scr ns] = .ok (.bl true) ps := by
  obtain ⟨N, hN, e0⟩ := count_ok ns 8 (by decide) (by decide) (st := [some (.scr ns), none, none, none]) rfl
  obtain ⟨st', L, ⟨y1, y2, y3, rfl⟩⟩ := forD_inv (g := fg8_law) (body := fb8_law) (fun st => ∃ y1 y2 y3, st = [some (.scr ns), y1, y2, y3]) (rangeD 0 N) [some (.scr ns), none, none, none] ⟨none, none, none, rfl⟩ (fun d st hd hI => by
    obtain ⟨y1, y2, y3, rfl⟩ := hI
    obtain ⟨i, hi, rfl⟩ := rangeD_mem hd
    rw [Int.zero_add]
    obtain ⟨z2, z3, e⟩ := body_ok ns hns (i : Int) (by omega) (by omega) y2 y3
    exact ⟨_, _, rfl, e, _, _, _, rfl⟩)
  exact ⟨_, fn_ret rfl (zSeq (zFor e0 L) (fin_ok _ _ _ _))⟩
end Lw30

set_option maxRecDepth 100000 in
set_option maxHeartbeats 0 in
theorem PySem.Challenge.cw_nearswap_k30_hardest_lists_holds : PySem.Challenge.rw_nearswap_k30_hardest_lists.Holds := by
  w_on; o_law; k_head; (case hw => w_witness2)
  k_fill
  refine DL.walk_lawG (l := PySem.Challenge.rw_nearswap_k30_hardest_lists) (k := 9) (m := Lw30.m_law) rfl rfl ⟨rfl, by decide, by decide⟩ (fun w h Y => PySem.W.kIn_of Y) ?F Lw30.law_ok
  case F =>
    intro w mg fa h KX G hmg
    refine' Lw30.walk_fact (Lw30.all_mk KX G hmg ?a_Network ?a__law_source ?l__law_source ?q__law_source ?k__law_source ?a__law_draw ?l__law_draw ?q__law_draw ?k__law_draw ?a_is_integer ?l_is_integer ?q_is_integer ?k_is_integer ?a_check_width ?l_check_width ?q_check_width ?k_check_width ?a_check_steps ?l_check_steps ?q_check_steps ?k_check_steps ?a_Network___init__ ?i_Network___init__ ?l_Network___init__ ?q_Network___init__ ?k_Network___init__ ?a_Network_backwards ?i_Network_backwards ?l_Network_backwards ?q_Network_backwards ?k_Network_backwards ?a_hardest ?l_hardest ?q_hardest ?k_hardest ?a__law_hardest ?l__law_hardest ?q__law_hardest ?k__law_hardest ?a__law_is_ascending ?l__law_is_ascending ?q__law_is_ascending ?k__law_is_ascending ?a__law_result ?l__law_result ?q__law_result ?k__law_result ?a_places_up_to ?l_places_up_to ?q_places_up_to ?k_places_up_to ?a_limits ?l_limits ?q_limits ?k_limits ?a__law_holds ?l__law_holds ?q__law_holds ?k__law_holds ?a__law_steps ?l__law_steps ?q__law_steps ?k__law_steps ?a_Network_empty ?rc_Network_empty ?i_Network_empty ?l_Network_empty ?q_Network_empty ?k_Network_empty ?a_Network_full ?rc_Network_full ?i_Network_full ?l_Network_full ?q_Network_full ?k_Network_full ?a_law ?l_law ?q_law ?k_law ?a_Network_steps ?ge_Network_steps ?ta_Network_steps ?rc_Network_steps ?l_Network_steps ?q_Network_steps ?k_Network_steps ?a_Network_width ?ge_Network_width ?ta_Network_width ?rc_Network_width ?l_Network_width ?q_Network_width ?k_Network_width ?pg_Network ?hd_Network ?po_Network ?sa_Network ?mk_Network ?kc_Network ?na_Network_own_steps ?na_Network_own_width ?rd_Network ?ga_Network ?cv_Network_MAX_STEPS ?cv_Network_MAX_WIDTH ?z_abs ?z_bool ?z_enumerate ?z_int ?z_isinstance ?z_len ?z_list ?z_max ?z_min ?z_range ?z_repr ?z_sum ?z_tuple)
    (case a_Network => k_is)
    (case a__law_source => k_is)
    (case l__law_source => k_is)
    (case q__law_source => k_is)
    (case k__law_source => k_is)
    (case a__law_draw => k_is)
    (case l__law_draw => k_is)
    (case q__law_draw => k_is)
    (case k__law_draw => k_is)
    (case a_is_integer => k_is)
    (case l_is_integer => k_is)
    (case q_is_integer => k_is)
    (case k_is_integer => k_is)
    (case a_check_width => k_is)
    (case l_check_width => k_is)
    (case q_check_width => k_is)
    (case k_check_width => k_is)
    (case a_check_steps => k_is)
    (case l_check_steps => k_is)
    (case q_check_steps => k_is)
    (case k_check_steps => k_is)
    (case a_Network___init__ => k_is)
    (case i_Network___init__ => k_is)
    (case l_Network___init__ => k_is)
    (case q_Network___init__ => k_is)
    (case k_Network___init__ => k_is)
    (case a_Network_backwards => k_is)
    (case i_Network_backwards => k_is)
    (case l_Network_backwards => k_is)
    (case q_Network_backwards => k_is)
    (case k_Network_backwards => k_is)
    (case a_hardest => k_is)
    (case l_hardest => k_is)
    (case q_hardest => k_is)
    (case k_hardest => k_is)
    (case a__law_hardest => k_is)
    (case l__law_hardest => k_is)
    (case q__law_hardest => k_is)
    (case k__law_hardest => k_is)
    (case a__law_is_ascending => k_is)
    (case l__law_is_ascending => k_is)
    (case q__law_is_ascending => k_is)
    (case k__law_is_ascending => k_is)
    (case a__law_result => k_is)
    (case l__law_result => k_is)
    (case q__law_result => k_is)
    (case k__law_result => k_is)
    (case a_places_up_to => k_is)
    (case l_places_up_to => k_is)
    (case q_places_up_to => k_is)
    (case k_places_up_to => k_is)
    (case a_limits => k_is)
    (case l_limits => k_is)
    (case q_limits => k_is)
    (case k_limits => k_is)
    (case a__law_holds => k_is)
    (case l__law_holds => k_is)
    (case q__law_holds => k_is)
    (case k__law_holds => k_is)
    (case a__law_steps => k_is)
    (case l__law_steps => k_is)
    (case q__law_steps => k_is)
    (case k__law_steps => k_is)
    (case a_Network_empty => k_is)
    (case rc_Network_empty => k_is)
    (case i_Network_empty => k_is)
    (case l_Network_empty => k_is)
    (case q_Network_empty => k_is)
    (case k_Network_empty => k_is)
    (case a_Network_full => k_is)
    (case rc_Network_full => k_is)
    (case i_Network_full => k_is)
    (case l_Network_full => k_is)
    (case q_Network_full => k_is)
    (case k_Network_full => k_is)
    (case a_law => k_is)
    (case l_law => k_is)
    (case q_law => k_is)
    (case k_law => k_is)
    (case a_Network_steps => k_is)
    (case ge_Network_steps => k_is)
    (case ta_Network_steps => k_is)
    (case rc_Network_steps => k_is)
    (case l_Network_steps => k_is)
    (case q_Network_steps => k_is)
    (case k_Network_steps => k_is)
    (case a_Network_width => k_is)
    (case ge_Network_width => k_is)
    (case ta_Network_width => k_is)
    (case rc_Network_width => k_is)
    (case l_Network_width => k_is)
    (case q_Network_width => k_is)
    (case k_Network_width => k_is)
    (case pg_Network => k_is)
    (case hd_Network => k_is)
    (case po_Network => k_is)
    (case sa_Network => k_is)
    (case mk_Network => k_is)
    (case kc_Network => k_is)
    (case na_Network_own_steps => k_is)
    (case na_Network_own_width => k_is)
    (case rd_Network => k_is)
    (case ga_Network => k_is)
    (case cv_Network_MAX_STEPS => k_is)
    (case cv_Network_MAX_WIDTH => k_is)
    (case z_abs => k_is)
    (case z_bool => k_is)
    (case z_enumerate => k_is)
    (case z_int => k_is)
    (case z_isinstance => k_is)
    (case z_len => k_is)
    (case z_list => k_is)
    (case z_max => k_is)
    (case z_min => k_is)
    (case z_range => k_is)
    (case z_repr => k_is)
    (case z_sum => k_is)
    (case z_tuple => k_is)
