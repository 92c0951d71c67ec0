import PyProof.Rows.All
import Wide.All
import OpenK.AllK
import Wide.FinOn
import HandS.ForMost
import HandS.IsInst
import PyProof.EqLayable
import HandS.ForExc
import HandS.CallSlots
import HandS.Wide
import HandS.Iter
import HandS.Comp
import HandS.Conv
import HandS.Style
import HandS.Property
import HandS.ClsMeth
import PyProof.InstNe
import PyProof.InstSpecial
import KE.GoesMore
import HandS.SortInts
import HandS.Star
import HandS.TupAny
import HandS.TupMul
import HandS.CallLocal
import HandS.RaiseMore
import PyProof.ReprRoads
import KE.GoesEnum
import HandS.ExcInit
import HandS.TryMany
import HandS.ExcField
import KE.KExcIs
import HandS.Deep
import HandS.DictComp
import HandS.SetFor
import HandS.Strs
import KE.KUnpackStar
import KE.KUnpack
import HandS.FStr
import HandS.More
import HandS.TupSets
import KE.KEqNest
import PyProof.NeKinds
import KE.DataMinMax
import HandS.SortKw
import PyProof.Rows.TupDisplay
import PyProof.SumAny
import HandS.WordsDict
import HandS.Text
import HandS.StrMore
import HandS.Codes
import HandS.OwnEq
import PyProof.GenRules
import PyProof.GenQ
import HandS.GenYield
import HandS.GenList
import HandS.Defaults
import PySem.Challenge.RW_nearswap_k70_bench_equality_and_copies
set_option Elab.async false
set_option linter.all false
set_option maxRecDepth 100000
/-! DL1: data, states, and the pure meanings of expressions and statements (own work: a data layer over HandS). -/
namespace DL
open PySem (Str)

/-- deep data; the Bool of a list, an instance, a dict: it is owned (nobody else has it) -/
inductive D where
  | non | bl (b : Bool) | int (i : Int) | str (x : Str)
  | lst (o : Bool) (xs : List D)
  | tup (xs : List D)
  | ins (o : Bool) (C : Nat) (fs : List (Str × D))
  | dic (o : Bool) (kvs : List (L2.Key × D))
  | dct (o : Bool) (kvs : List (List L2.Key × D))
  | scr (xs : List Int)
  | cls (C : Nat)
  | ty (n : String)
  | xc (C : Nat) (fs : List (Str × D))
  deriving Inhabited

/-- an exception: its class, its fields -/
structure Xc where
  C : Nat
  fs : List (Str × D)

abbrev Sl := List (Option D)

inductive Res (α : Type) where
  | ok (a : α) (st : Sl) | exc (x : Xc) (st : Sl) | fail

inductive SR where
  | next (st : Sl) | ret (d : D) (st : Sl) | brk (st : Sl) | cont (st : Sl) | exc (x : Xc) (st : Sl) | fail

inductive CR where
  | ok (d : D) (ps : Sl) | exc (x : Xc) (ps : Sl) | fail

abbrev ME := Sl → Res D
abbrev MA := Sl → Res (List D)
abbrev MT := Sl → Res Bool
abbrev MS := Sl → SR
abbrev MF := List D → CR
/-- an assignment's target -/
abbrev MG := D → Sl → Res Unit

mutual
def frz : D → D
  | .lst _ xs => .lst false (frzL xs)
  | .ins _ C fs => .ins false C (frzF fs)
  | .dic _ kvs => .dic false (frzK kvs)
  | .dct _ kvs => .dct false (frzT kvs)
  | .tup xs => .tup (frzL xs)
  | .non => .non
  | .bl b => .bl b
  | .int i => .int i
  | .str x => .str x
  | .scr xs => .scr xs
  | .cls C => .cls C
  | .ty n => .ty n
  | .xc C fs => .xc C fs
def frzL : List D → List D
  | [] => []
  | d :: ds => frz d :: frzL ds
def frzF : List (Str × D) → List (Str × D)
  | [] => []
  | (f, d) :: fs => (f, frz d) :: frzF fs
def frzK : List (L2.Key × D) → List (L2.Key × D)
  | [] => []
  | (f, d) :: fs => (f, frz d) :: frzK fs
def frzT : List (List L2.Key × D) → List (List L2.Key × D)
  | [] => []
  | (f, d) :: fs => (f, frz d) :: frzT fs
end

/-- owned at the top -/
def hot : D → Bool
  | .lst o _ => o
  | .ins o _ _ => o
  | .dic o _ => o
  | .dct o _ => o
  | _ => false

/-- what is read out of an owned thing must not be owned itself -/
def cold : D → Bool := fun d => !hot d

/-- the answer of an operation: a value without owned parts, a new list, a new tuple (of values without owned parts) -/
inductive Out where
  | val (d : D) | newL (ds : List D) | newT (ds : List D)
def Out.d : Out → D
  | .val d => d
  | .newL ds => .lst true ds
  | .newT ds => .tup ds

/-- an operand: any expression, or a slot that is only looked at (late) -/
inductive Opd where
  | v (m : ME) | s (i : Nat)

def Res.bind {α β : Type} (r : Res α) (k : α → Sl → Res β) : Res β :=
  match r with
  | .ok a st => k a st
  | .exc x st => .exc x st
  | .fail => .fail

def getS (st : Sl) (i : Nat) : Option D := (st[i]?).join

/-- operands from the left; k gets how their data is read at the end -/
def opds {β : Type} : List Opd → Sl → ((Sl → Option (List D)) → Sl → Res β) → Res β
  | [], st, k => k (fun _ => some []) st
  | .v m :: os, st, k => (m st).bind fun d st1 => opds os st1 fun gs st2 => k (fun s => (gs s).map (d :: ·)) st2
  | .s i :: os, st, k => if (getS st i).isSome then opds os st fun gs st2 => k (fun s => (getS s i).bind fun d => (gs s).map (d :: ·)) st2 else .fail

/-! ### expressions -/
def eC (d : D) : ME := fun st => .ok d st
/-- a name, its value handed on (frozen where it is owned) -/
def eN (i : Nat) : ME := fun st => match getS st i with
  | some d => if hot d then .ok (frz d) (st.set i (some (frz d))) else .ok d st
  | none => .fail
/-- a name for the last time -/
def eMv (i : Nat) : ME := fun st => match getS st i with
  | some d => .ok d (st.set i none)
  | none => .fail
/-- an operation that only looks at its operands -/
def eOp (f : List D → Option Out) (ks : List Opd) : ME := fun st => opds ks st fun gs st2 =>
  match (gs st2).bind f with
  | some o => .ok o.d st2
  | none => .fail
def eAnd (a b : ME) : ME := fun st => (a st).bind fun d st1 => match d with
  | .bl true => b st1
  | .bl false => .ok (.bl false) st1
  | _ => .fail
def eOr (a b : ME) : ME := fun st => (a st).bind fun d st1 => match d with
  | .bl true => .ok (.bl true) st1
  | .bl false => b st1
  | _ => .fail
def eNot (a : ME) : ME := fun st => (a st).bind fun d st1 => match d with
  | .bl b => .ok (.bl (!b)) st1
  | _ => .fail
def eIf (c : MT) (a b : ME) : ME := fun st => (c st).bind fun k st1 => if k then a st1 else b st1
/-- a op1 b op2 c -/
def eChain (f g : D → D → Option D) (a b c : ME) : ME := fun st => (a st).bind fun x st1 => (b st1).bind fun y st2 =>
  match f x y with
  | some (.bl true) => (c st2).bind fun z st3 => match g y z with
    | some r => .ok r st3
    | none => .fail
  | some (.bl false) => .ok (.bl false) st2
  | _ => .fail
/-- arguments whose values are handed over -/
def aNil : MA := fun st => .ok [] st
def aCons (m : ME) (ms : MA) : MA := fun st => (m st).bind fun d st1 => (ms st1).bind fun ds st2 => .ok (d :: ds) st2
/-- a list's display: its items may be owned -/
def eLst (ms : MA) : ME := fun st => (ms st).bind fun ds st1 => if ds.length ≤ 16777216 then .ok (.lst true ds) st1 else .fail
/-- a tuple's display: its items are frozen -/
def eTup (ms : MA) : ME := fun st => (ms st).bind fun ds st1 => if ds.length ≤ 16777216 then .ok (.tup (frzL ds)) st1 else .fail

/-! ### tests -/
def tE (m : ME) : MT := fun st => (m st).bind fun d st1 => match d with
  | .bl b => .ok b st1
  | _ => .fail
def tAndM (a b : MT) : MT := fun st => (a st).bind fun k st1 => if k then b st1 else .ok false st1
def tOrM (a b : MT) : MT := fun st => (a st).bind fun k st1 => if k then .ok true st1 else b st1
def tNotM (a : MT) : MT := fun st => (a st).bind fun k st1 => .ok (!k) st1

/-! ### calls of the text's defs -/
/-- a call; its arguments are handed over -/
def eCall (f : MF) (ms : MA) : ME := fun st => (ms st).bind fun ds st1 => match f ds with
  | .ok d _ => .ok d st1
  | .exc x _ => .exc x st1
  | .fail => .fail
/-- a call with a slot lent: ms the arguments ahead of it, ns behind it -/
def eCallL (f : MF) (ms : MA) (i : Nat) (ns : MA) : ME := fun st => (ms st).bind fun ds st1 => if (getS st1 i).isSome then (ns st1).bind fun es st2 =>
  (match getS st2 i with
  | some d => if hot d then (match f (ds ++ d :: es) with
      | .ok r ps => .ok r (st2.set i (getS ps ds.length))
      | .exc x ps => .exc x (st2.set i (getS ps ds.length))
      | .fail => .fail) else (match f (ds ++ d :: es) with
      | .ok r _ => .ok r st2
      | .exc x _ => .exc x st2
      | .fail => .fail)
  | none => .fail) else .fail

/-! ### statements -/
def Res.toS {α : Type} (r : Res α) (k : α → Sl → SR) : SR :=
  match r with
  | .ok a st => k a st
  | .exc x st => .exc x st
  | .fail => .fail
/-- a store's end: what a store raises is not followed -/
def Res.toN (r : Res Unit) (k : Sl → SR) : SR :=
  match r with
  | .ok _ st => k st
  | _ => .fail
def sNext : MS := fun st => .next st
def SR.thn (r : SR) (k : MS) : SR :=
  match r with
  | .next st => k st
  | r => r
def sSeq (a b : MS) : MS := fun st => (a st).thn b
def gN (i : Nat) : MG := fun d st => .ok () (st.set i (some d))
def sAsg (m : ME) (g : MG) : MS := fun st => (m st).toS fun d st1 => (g d st1).toN fun st2 => .next st2
def sExpr (m : ME) : MS := fun st => (m st).toS fun _ st1 => .next st1
def sRet (m : ME) : MS := fun st => (m st).toS fun d st1 => .ret d st1
def sRetN : MS := fun st => .ret .non st
def sIf (c : MT) (a b : MS) : MS := fun st => (c st).toS fun k st1 => if k then a st1 else b st1
def sBrk : MS := fun st => .brk st
def sCont : MS := fun st => .cont st
/-- a loop's turns -/
def forD (g : MG) (body : MS) : List D → Sl → SR
  | [], st => .next st
  | d :: ds, st => (g d st).toN fun st1 => match body st1 with
    | .next st2 => forD g body ds st2
    | .cont st2 => forD g body ds st2
    | .brk st2 => .next st2
    | r => r
/-! ### a def -/
/-- n parameters, w slots in all; L: the parameters that are never stored to -/
def keepL (L : List Nat) (n : Nat) (st : Sl) : Sl := (List.range n).map fun j => if j ∈ L then getS st j else none
def fn (n w : Nat) (L : List Nat) (body : MS) : MF := fun ds =>
  if ds.length = n then match body (ds.map some ++ List.replicate (w - n) none) with
    | .next st => .ok .non (keepL L n st)
    | .ret d st => .ok d (keepL L n st)
    | .exc x st => .exc x (keepL L n st)
    | _ => .fail
  else .fail
end DL

/-! DLO: the operations by data. -/
namespace DL
open PySem (Str)
/-- the items of a list or tuple that is read -/
def items : D → Option (List D)
  | .lst _ xs => some xs
  | .tup xs => some xs
  | .scr xs => some (xs.map .int)
  | _ => none
def colds (xs : List D) : Bool := xs.all cold
def newLc (xs : List D) : Option Out := if colds xs && decide (xs.length ≤ 16777216) then some (.newL xs) else none

def oAdd : List D → Option Out
  | [.int i, .int j] => some (.val (.int (i + j)))
  | [.lst _ xs, .lst _ ys] => newLc (xs ++ ys)
  | [.str x, .str y] => if x.length + y.length ≤ 16777216 then some (.val (.str (x ++ y))) else none
  | _ => none
def oSub : List D → Option Out
  | [.int i, .int j] => some (.val (.int (i - j)))
  | _ => none
def oMul : List D → Option Out
  | [.int i, .int j] => if (-(2 ^ 64) < i ∧ i < 2 ^ 64) ∨ (-(2 ^ 64) < j ∧ j < 2 ^ 64) then some (.val (.int (i * j))) else none
  | [.lst _ xs, .int k] => if colds xs && decide (-(2 ^ 63) ≤ k ∧ k < 2 ^ 63 ∧ xs.length * k.toNat ≤ 16777216) then some (.newL (List.replicate k.toNat xs).flatten) else none
  | _ => none
def oDiv : List D → Option Out
  | [.int i, .int j] => if 0 < j ∧ j.natAbs.log2 < 9000 then some (.val (.int (i / j))) else none
  | _ => none
def oMod : List D → Option Out
  | [.int i, .int j] => if 0 < j then some (.val (.int (i % j))) else none
  | _ => none
def oPow : List D → Option Out
  | [.int i, .int j] => if 0 ≤ j ∧ j ≤ 1000000 ∧ i.natAbs < 2 ^ 64 then some (.val (.int (i ^ j.toNat))) else none
  | _ => none
def oNeg : List D → Option Out
  | [.int i] => some (.val (.int (-i)))
  | _ => none
def pLt : D → D → Option D
  | .int i, .int j => some (.bl (decide (i < j)))
  | _, _ => none
def pLe : D → D → Option D
  | .int i, .int j => some (.bl (decide (i ≤ j)))
  | _, _ => none
def pGt : D → D → Option D
  | .int i, .int j => some (.bl (decide (j < i)))
  | _, _ => none
def pGe : D → D → Option D
  | .int i, .int j => some (.bl (decide (j ≤ i)))
  | _, _ => none
def o2 (p : D → D → Option D) : List D → Option Out
  | [x, y] => (p x y).map .val
  | _ => none

mutual
def toPy : D → PySem.PyData
  | .non => .none
  | .bl b => .bool b
  | .int i => .int i
  | .str x => .str x
  | .lst _ xs => .list (toPyL xs)
  | .tup xs => .tuple (toPyL xs)
  | .scr xs => .list (xs.map .int)
  | .ins _ _ _ => .dict []
  | .dic _ _ => .dict []
  | .dct _ _ => .dict []
  | .cls _ => .dict []
  | .ty _ => .dict []
  | .xc _ _ => .dict []
def toPyL : List D → List PySem.PyData
  | [] => []
  | d :: ds => toPy d :: toPyL ds
end
def pEq (x y : D) : Option D := if PySem.SeqAt.shaped (toPy x) && PySem.SeqAt.shaped (toPy y) then some (.bl (PySem.PyData.eqv (toPy x) (toPy y))) else none
def pNe (x y : D) : Option D := if PySem.SeqAt.shaped (toPy x) && PySem.SeqAt.shaped (toPy y) then some (.bl (!PySem.PyData.eqv (toPy x) (toPy y))) else none
def isN : D → Bool
  | .non => true
  | _ => false
def oIsN : List D → Option Out
  | [x, .non] => some (.val (.bl (isN x)))
  | _ => none
def oNotN : List D → Option Out
  | [x, .non] => some (.val (.bl (!isN x)))
  | _ => none
/-- flat data, for in -/
def flat : D → Bool
  | .non => true
  | .bl _ => true
  | .int _ => true
  | .str _ => true
  | _ => false
def eqF : D → D → Bool
  | .non, .non => true
  | .bl a, .bl b => a == b
  | .bl a, .int b => (if
      a then 1 else 0) == b
  | .int a, .bl b => a == (if
      b then 1 else 0)
  | .int a, .int b => a == b
  | .str a, .str b => a == b
  | _, _ => false
/-- xs[i] -/
def oIx : List D → Option Out
  | [x, .int i] => match items x with
    | some xs => match L2.atI xs i with
      | some d => if cold d then some (.val d) else none
      | none => none
    | none => none
  | _ => none
def oLen : List D → Option Out
  | [x] => (items x).map fun xs => .val (.int xs.length)
  | _ => none
def oAbs : List D → Option Out
  | [.int i] => some (.val (.int (if i < 0 then -i else i)))
  | _ => none
def oMax2 : List D → Option Out
  | [.int i, .int j] => some (.val (.int (if j > i then j else i)))
  | _ => none
def oMin2 : List D → Option Out
  | [.int i, .int j] => some (.val (.int (if j < i then j else i)))
  | _ => none
def oInt : List D → Option Out
  | [.int i] => some (.val (.int i))
  | [.bl b] => some (.val (.int (if b then 1 else 0)))
  | _ => none
def asInts : List D → Option (List Int)
  | [] => some []
  | .int i :: r => (asInts r).map (i :: ·)
  | _ => none
def lstItems : D → Option (List D)
  | .lst _ xs => some xs
  | .scr xs => some (xs.map .int)
  | _ => none
def oSum : List D → Option Out
  | [x] => ((lstItems x).bind asInts).map fun ns => .val (.int ns.sum)
  | _ => none
def oList : List D → Option Out
  | [x] => match items x with
    | some xs => newLc xs
    | none => none
  | _ => none
def oTuple : List D → Option Out
  | [.lst _ xs] => if colds xs && decide (xs.length ≤ 16777216) then some (.newT xs) else none
  | [.tup xs] => some (.val (.tup xs))
  | _ => none
/-- xs[lo:hi] of a list -/
def cutD (xs : List D) (lo hi : Option Int) : List D := (xs.drop (HT.sIx xs.length 0 lo)).take (HT.sIx xs.length xs.length hi - HT.sIx xs.length 0 lo)
def tyName : D → Option String
  | .non => some "NoneType"
  | .bl _ => some "bool"
  | .int _ => some "int"
  | .str _ => some "str"
  | .lst _ _ => some "list"
  | .scr _ => some "list"
  | .tup _ => some "tuple"
  | .dic _ _ => some "dict"
  | _ => none
end DL

/-! DL2: how data lie in the heap; the judgements. -/
namespace DL
open PySem L2

/-- all that was tracked is as it
    was -/
abbrev Ex (H H' : Hp) : Prop := ∀ a o, H a = some o → H' a = some o
/-- a region of addresses -/
abbrev Rg := Addr → Prop
abbrev Em : Rg := fun _ => False

theorem rd_ex {Hf Hf' : Hp} {a : Addr} {u : HO} (ef : Ex Hf Hf') (r : Rd Hf a u) : Rd Hf' a u := r.elim (fun e => .inl (ef _ _ e)) fun ⟨o, e⟩ => .inr ⟨o, ef _ _ e⟩
/-- a caught exception: its class, its dict -/
def XcO (a : Addr) (cls : Value) (d : Option Addr) : HO := .ext fun h => ∃ (o : Obj) (vs : Array Value), h.get? a = some o ∧ Zc cls d o ∧ o.data = .fields vs
section
variable (ca : Nat → Addr) (K : PySem.W.Frag)
mutual
/-- v is the datum d; what of it is owned lies in the region S -/
inductive Rep (Hf H : Hp) : Rg → V → D → Prop where
  | non {S} : Rep Hf H S .non .non
  | bl {S b} : Rep Hf H S (.bl b) (.bl b)
  | int {S i} : Rep Hf H S (.int i) (.int i)
  | str {S x} : Rep Hf H S (.str x) (.str x)
  | scr {S a xs} : SqL K Hf a (xs.map V.int) → Rep Hf H S (.ref a) (.scr xs)
  | cls {S C} : Rep Hf H S (.ref (ca C)) (.cls C)
  | ty {S n} : Rep Hf H S (.ty n) (.ty n)
  | lstF {S a vs ds} : Hf a = some (.lst vs) → RepL Hf H Em vs ds → Rep Hf H S (.ref a) (.lst false ds)
  | lstO {S a vs ds} : S a → H a = some (.lst vs) → RepL Hf H (fun b => S b ∧ b ≠ a) vs ds → Rep Hf H S (.ref a) (.lst true ds)
  | tup {S a vs ds} : Hf a = some (.tup vs) → RepL Hf H Em vs ds → Rep Hf H S (.ref a) (.tup ds)
  | insF {S a C dx fs gs} : Hf a = some (.ins (ca C) dx fs) → fs.map (·.1) = gs.map (·.1) → RepL Hf H Em (fs.map (·.2)) (gs.map (·.2)) → Rep Hf H S (.ref a) (.ins false C gs)
  | insO {S a C dx fs gs} : S a → H a = some (.ins (ca C) dx fs) → fs.map (·.1) = gs.map (·.1) → RepL Hf H (fun b => S b ∧ b ≠ a) (fs.map (·.2)) (gs.map (·.2)) → Rep Hf H S (.ref a) (.ins true C gs)
  | dicF {S a kvs ds} : Hf a = some (.dK kvs) → kvs.map (·.1) = ds.map (·.1) → RepL Hf H Em (kvs.map (·.2)) (ds.map (·.2)) → Rep Hf H S (.ref a) (.dic false ds)
  | dicO {S a kvs ds} : S a → H a = some (.dK kvs) → kvs.map (·.1) = ds.map (·.1) → RepL Hf H (fun b => S b ∧ b ≠ a) (kvs.map (·.2)) (ds.map (·.2)) → Rep Hf H S (.ref a) (.dic true ds)
  | dctF {S a kvs ds} : Rd Hf a (.dT kvs) → kvs.map (·.1) = ds.map (·.1) → RepL Hf H Em (kvs.map (·.2)) (ds.map (·.2)) → Rep Hf H S (.ref a) (.dct false ds)
  | dctO {S a kvs ds} : S a → H a = some (.dT kvs) → kvs.map (·.1) = ds.map (·.1) → RepL Hf H (fun b => S b ∧ b ≠ a) (kvs.map (·.2)) (ds.map (·.2)) → Rep Hf H S (.ref a) (.dct true ds)
  | xc {S a dd C fs gs} : Hf a = some (XcO a (.ref (ca C)) (some dd)) → Hf dd = some (.xd fs) → fs.map (·.1) = gs.map (·.1) → RepL Hf H Em (fs.map (·.2)) (gs.map (·.2)) → Rep Hf H S (.ref a) (.xc C gs)
inductive RepL (Hf H : Hp) : Rg → List V → List D → Prop where
  | nil {S} : RepL Hf H S [] []
  | cons {S S1 S2 v d vs ds} : Rep Hf H S1 v d → RepL Hf H S2 vs ds → (∀ b, S1 b → S b) → (∀ b, S2 b → S b) → (∀ b, S1 b → S2 b → False) → RepL Hf H S (v :: vs) (d :: ds)
end
end

section
variable {ca : Nat → Addr} {K : PySem.W.Frag} {Hf H Hf' H' : Hp} {S S' : Rg} {v : V} {d : D} {vs : List V} {ds : List D}

theorem RepL.mono (r : RepL ca K Hf H S vs ds) (h : ∀ b, S b → S' b) : RepL ca K Hf H S' vs ds := by
  cases r with
  | nil => exact .nil
  | cons r1 r2 h1 h2 h3 => exact .cons r1 r2 (fun b q => h b (h1 b q)) (fun b q => h b (h2 b q)) h3
theorem Rep.mono (r : Rep ca K Hf H S v d) (h : ∀ b, S b → S' b) : Rep ca K Hf H S' v d := by
  cases r with
  | non => exact .non
  | bl => exact .bl
  | int => exact .int
  | str => exact .str
  | scr h => exact .scr h
  | cls => exact .cls
  | ty => exact .ty
  | lstF e r => exact .lstF e r
  | lstO s e r => exact .lstO (h _ s) e (r.mono fun b q => ⟨h b q.1, q.2⟩)
  | tup e r => exact .tup e r
  | insF e k r => exact .insF e k r
  | insO s e k r => exact .insO (h _ s) e k (r.mono fun b q => ⟨h b q.1, q.2⟩)
  | dicF e k r => exact .dicF e k r
  | dicO s e k r => exact .dicO (h _ s) e k (r.mono fun b q => ⟨h b q.1, q.2⟩)
  | dctF e k r => exact .dctF e k r
  | dctO s e k r => exact .dctO (h _ s) e k (r.mono fun b q => ⟨h b q.1, q.2⟩)
  | xc e e2 k r => exact .xc e e2 k r
/-- what is not owned lies nowhere -/
theorem Rep.cold (r : Rep ca K Hf H S v d) (h : hot d = false) : Rep ca K Hf H S' v d := by
  cases r with
  | non => exact .non
  | bl => exact .bl
  | int => exact .int
  | str => exact .str
  | scr h' => exact .scr h'
  | cls => exact .cls
  | ty => exact .ty
  | lstF e r => exact .lstF e r
  | lstO s e r => exact absurd h (by simp [hot])
  | tup e r => exact .tup e r
  | insF e k r => exact .insF e k r
  | insO s e k r => exact absurd h (by simp [hot])
  | dicF e k r => exact .dicF e k r
  | dicO s e k r => exact absurd h (by simp [hot])
  | dctF e k r => exact .dctF e k r
  | dctO s e k r => exact absurd h (by simp [hot])
  | xc e e2 k r => exact .xc e e2 k r

mutual
theorem Rep.keep (ef : Ex Hf Hf') : ∀ {S : Rg} {v : V} {d : D}, Rep ca K Hf H S v d → (∀ b, S b → ∀ o, H b = some o → H' b = some o) → Rep ca K Hf' H' S v d
  | _, _, _, .non, _ => .non
  | _, _, _, .bl, _ => .bl
  | _, _, _, .int, _ => .int
  | _, _, _, .str, _ => .str
  | _, _, _, .scr h, _ => .scr (by
      rcases h with h | h
      · refine Or.inl ?_
        rcases h with h | ⟨o, h⟩
        · exact Or.inl (ef _ _ h)
        · exact Or.inr ⟨o, ef _ _ h⟩
      · exact Or.inr h)
  | _, _, _, .cls, _ => .cls
  | _, _, _, .ty, _ => .ty
  | _, _, _, .lstF e r, _ => .lstF (ef _ _ e) (RepL.keep ef r fun _ q => q.elim)
  | _, _, _, .lstO s e r, k => .lstO s (k _ s _ e) (RepL.keep ef r fun b q => k b q.1)
  | _, _, _, .tup e r, _ => .tup (ef _ _ e) (RepL.keep ef r fun _ q => q.elim)
  | _, _, _, .insF e kk r, _ => .insF (ef _ _ e) kk (RepL.keep ef r fun _ q => q.elim)
  | _, _, _, .insO s e kk r, k => .insO s (k _ s _ e) kk (RepL.keep ef r fun b q => k b q.1)
  | _, _, _, .dicF e kk r, _ => .dicF (ef _ _ e) kk (RepL.keep ef r fun _ q => q.elim)
  | _, _, _, .dicO s e kk r, k => .dicO s (k _ s _ e) kk (RepL.keep ef r fun b q => k b q.1)
  | _, _, _, .dctF e kk r, _ => .dctF (rd_ex ef e) kk (RepL.keep ef r fun _ q => q.elim)
  | _, _, _, .dctO s e kk r, k => .dctO s (k _ s _ e) kk (RepL.keep ef r fun b q => k b q.1)
  | _, _, _, .xc e e2 kk r, _ => .xc (ef _ _ e) (ef _ _ e2) kk (RepL.keep ef r fun _ q => q.elim)
theorem RepL.keep (ef : Ex Hf Hf') : ∀ {S : Rg} {vs : List V} {ds : List D}, RepL ca K Hf H S vs ds → (∀ b, S b → ∀ o, H b = some o → H' b = some o) → RepL ca K Hf' H' S vs ds
  | _, _, _, .nil, _ => .nil
  | _, _, _, .cons r1 r2 h1 h2 h3, k => .cons (Rep.keep ef r1 fun b q => k b (h1 b q)) (RepL.keep ef r2 fun b q => k b (h2 b q)) h1 h2 h3
end

theorem frzF_keys : ∀ gs : List (Str × D), (frzF gs).map (·.1) = gs.map (·.1)
  | [] => rfl
  | (f, d) :: r => by simp [frzF, frzF_keys r]
theorem frzK_keys : ∀ gs : List (Key × D), (frzK gs).map (·.1) = gs.map (·.1)
  | [] => rfl
  | (f, d) :: r => by simp [frzK, frzK_keys r]
theorem frzF_vals : ∀ gs : List (Str × D), (frzF gs).map (·.2) = frzL (gs.map (·.2))
  | [] => rfl
  | (f, d) :: r => by simp [frzF, frzL, frzF_vals r]
theorem frzK_vals : ∀ gs : List (Key × D), (frzK gs).map (·.2) = frzL (gs.map (·.2))
  | [] => rfl
  | (f, d) :: r => by simp [frzK, frzL, frzK_vals r]
theorem frzT_keys : ∀ gs : List (List Key × D), (frzT gs).map (·.1) = gs.map (·.1)
  | [] => rfl
  | (f, d) :: r => by simp [frzT, frzT_keys r]
theorem frzT_vals : ∀ gs : List (List Key × D), (frzT gs).map (·.2) = frzL (gs.map (·.2))
  | [] => rfl
  | (f, d) :: r => by simp [frzT, frzL, frzT_vals r]
mutual
/-- the owned parts are let stand: Hf' holds them from now on -/
theorem Rep.frz (ef : Ex Hf Hf') : ∀ {S S' : Rg} {v : V} {d : D}, Rep ca K Hf H S v d → (∀ b, S b → ∀ o, H b = some o → Hf' b = some o) → Rep ca K Hf' H' S' v (DL.frz d)
  | _, _, _, _, .non, _ => by rw [DL.frz]; exact .non
  | _, _, _, _, .bl, _ => by rw [DL.frz]; exact .bl
  | _, _, _, _, .int, _ => by rw [DL.frz]; exact .int
  | _, _, _, _, .str, _ => by rw [DL.frz]; exact .str
  | _, _, _, _, .scr h, _ => by
      rw [DL.frz]
      refine .scr ?_
      rcases h with h | h
      · refine Or.inl ?_
        rcases h with h | ⟨o, h⟩
        · exact Or.inl (ef _ _ h)
        · exact Or.inr ⟨o, ef _ _ h⟩
      · exact Or.inr h
  | _, _, _, _, .cls, _ => by rw [DL.frz]; exact .cls
  | _, _, _, _, .ty, _ => by rw [DL.frz]; exact .ty
  | _, _, _, _, .lstF e r, _ => by rw [DL.frz]; exact .lstF (ef _ _ e) (RepL.frz ef r fun _ q => q.elim)
  | _, _, _, _, .lstO s e r, k => by rw [DL.frz]; exact .lstF (k _ s _ e) (RepL.frz ef r fun b q => k b q.1)
  | _, _, _, _, .tup e r, _ => by rw [DL.frz]; exact .tup (ef _ _ e) (RepL.frz ef r fun _ q => q.elim)
  | _, _, _, _, .insF e kk r, _ => by
      rw [DL.frz]
      exact .insF (ef _ _ e) (kk.trans (frzF_keys _).symm) (by rw [frzF_vals]; exact RepL.frz ef r fun _ q => q.elim)
  | _, _, _, _, .insO s e kk r, k => by
      rw [DL.frz]
      exact .insF (k _ s _ e) (kk.trans (frzF_keys _).symm) (by rw [frzF_vals]; exact RepL.frz ef r fun b q => k b q.1)
  | _, _, _, _, .dicF e kk r, _ => by
      rw [DL.frz]
      exact .dicF (ef _ _ e) (kk.trans (frzK_keys _).symm) (by rw [frzK_vals]; exact RepL.frz ef r fun _ q => q.elim)
  | _, _, _, _, .dicO s e kk r, k => by
      rw [DL.frz]
      exact .dicF (k _ s _ e) (kk.trans (frzK_keys _).symm) (by rw [frzK_vals]; exact RepL.frz ef r fun b q => k b q.1)
  | _, _, _, _, .dctF e kk r, _ => by
      rw [DL.frz]
      exact .dctF (rd_ex ef e) (kk.trans (frzT_keys _).symm) (by rw [frzT_vals]; exact RepL.frz ef r fun _ q => q.elim)
  | _, _, _, _, .dctO s e kk r, k => by
      rw [DL.frz]
      exact .dctF (.inl (k _ s _ e)) (kk.trans (frzT_keys _).symm) (by rw [frzT_vals]; exact RepL.frz ef r fun b q => k b q.1)
  | _, _, _, _, .xc e e2 kk r, _ => by
      rw [DL.frz]
      exact .xc (ef _ _ e) (ef _ _ e2) kk (RepL.keep ef r fun _ q => q.elim)
theorem RepL.frz (ef : Ex Hf Hf') : ∀ {S S' : Rg} {vs : List V} {ds : List D}, RepL ca K Hf H S vs ds → (∀ b, S b → ∀ o, H b = some o → Hf' b = some o) → RepL ca K Hf' H' S' vs (frzL ds)
  | _, _, _, _, .nil, _ => by rw [frzL]; exact .nil
  | _, _, _, _, .cons r1 r2 h1 h2 h3, k => by
      rw [frzL]
      exact .cons (S1 := Em) (S2 := Em) (Rep.frz ef r1 fun b q => k b (h1 b q)) (RepL.frz ef r2 fun b q => k b (h2 b q)) (fun _ q => q.elim) (fun _ q => q.elim) (fun _ q => q.elim)
end
theorem RepL.length : ∀ {S : Rg} {vs : List V} {ds : List D}, RepL ca K Hf H S vs ds → vs.length = ds.length
  | _, _, _, .nil => rfl
  | _, _, _, .cons _ r _ _ _ => by simp [RepL.length r]
theorem RepL.one (r : Rep ca K Hf H S v d) : RepL ca K Hf H S [v] [d] := .cons r (S2 := Em) .nil (fun _ q => q) (fun _ q => q.elim) (fun _ _ q => q)
end

/-! ### the state -/
/-- tracked, not let stand -/
structure Wl (Hf H : Hp) (S : Rg) : Prop where
  ex : Ex Hf H
  dm : ∀ b, S b → ∃ o, H b = some o
  nf : ∀ b, S b → Hf b = none
theorem Wl.mono {Hf H : Hp} {S S' : Rg} (w : Wl Hf H S) (h : ∀ b, S' b → S b) : Wl Hf H S' := ⟨w.ex, fun b q => w.dm b (h b q), fun b q => w.nf b (h b q)⟩

/-- all slots' regions -/
abbrev tot (R : Nat → Rg) : Rg := fun b => ∃ i, R i b
abbrev jn (P : Rg) (R : Nat → Rg) : Rg := fun b => P b ∨ tot R b

/-- the slots hold the data; a pending thing (pp) lies in P -/
structure PR (ca : Nat → Addr) (K : PySem.W.Frag) (Hf H : Hp) (P : Rg) (pp : Prop) (R : Nat → Rg) (σ : L2.St) (st : Sl) : Prop where
  pend : pp
  len : st.length = σ.length
  at_ : ∀ i d, getS st i = some d → ∃ v, σ[i]? = some (some v) ∧ Rep ca K Hf H (R i) v d
  dj : ∀ i j b, R i b → R j b → i = j
  dp : ∀ i b, P b → R i b → False
  w : Wl Hf H (jn P R)

/-- what a step may do: S the region it had, S' the region it leaves -/
structure Tr (S : Rg) (Hf H : Hp) (S' : Rg) (Hf' H' : Hp) : Prop where
  fx : Ex Hf Hf'
  keep : ∀ b o, H b = some o → ¬ S b → H' b = some o
  nw : ∀ b, S' b → S b ∨ H b = none
  fz : ∀ b o, Hf' b = some o → Hf b = some o ∨ S b ∨ H b = none

section
variable {ca : Nat → Addr} {K : PySem.W.Frag} {Hf H Hf1 H1 Hf2 H2 : Hp} {S S1 S2 P : Rg} {R R1 R2 : Nat → Rg} {pp qq : Prop} {σ : L2.St} {st : Sl} {v : V} {d : D}
theorem Tr.refl (h : ∀ b, S1 b → S b) : Tr S Hf H S1 Hf H := ⟨fun _ _ e => e, fun _ _ e _ => e, fun b q => .inl (h b q), fun _ _ e => .inl e⟩
theorem Tr.trans (a : Tr S Hf H S1 Hf1 H1) (b : Tr S1 Hf1 H1 S2 Hf2 H2) : Tr S Hf H S2 Hf2 H2 where
  fx := fun x o e => b.fx x o (a.fx x o e)
  keep := fun x o e n => b.keep x o (a.keep x o e n) fun q => by
    rcases a.nw x q with q | q
    · exact n q
    · rw [e] at q; cases q
  nw := fun x q => by
    rcases b.nw x q with q | q
    · exact a.nw x q
    · cases e : H x with
      | none => exact .inr rfl
      | some o =>
        refine .inl (Classical.byContradiction fun n => ?_)
        rw [a.keep x o e n] at q; cases q
  fz := fun x o q => by
    rcases b.fz x o q with q | q | q
    · exact a.fz x o q
    · rcases a.nw x q with q | q
      · exact .inr (.inl q)
      · exact .inr (.inr q)
    · cases e : H x with
      | none => exact .inr (.inr rfl)
      | some o =>
        refine .inr (.inl (Classical.byContradiction fun n => ?_))
        rw [a.keep x o e n] at q; cases q
/-- a smaller region behind -/
theorem Tr.less (a : Tr S Hf H S1 Hf1 H1) (h : ∀ b, S2 b → S1 b) : Tr S Hf H S2 Hf1 H1 := ⟨a.fx, a.keep, fun b q => a.nw b (h b q), a.fz⟩
theorem Tr.more (a : Tr S Hf H S1 Hf1 H1) (h : ∀ b, S b → S2 b) : Tr S2 Hf H S1 Hf1 H1 :=
  ⟨a.fx, fun b o e n => a.keep b o e fun q => n (h b q), fun b q => (a.nw b q).imp_left (h b), fun b o q => (a.fz b o q).imp_right fun q => q.imp_left (h b)⟩
/-- what lies beside the region stays -/
theorem Tr.beside (a : Tr S Hf H S1 Hf1 H1) (w1 : Wl Hf H P) (dj : ∀ b, P b → S b → False) : (∀ b, P b → ∀ o, H b = some o → H1 b = some o) ∧ (∀ b, P b → S1 b → False) ∧ (∀ b, P b → (∃ o, H1 b = some o) ∧ Hf1 b = none) := by
  refine ⟨fun b q o e => a.keep b o e (dj b q), fun b q r => ?_, fun b q => ⟨?_, ?_⟩⟩
  · rcases a.nw b r with r | r
    · exact dj b q r
    · obtain ⟨o, e⟩ := w1.dm b q
      rw [e] at r; cases r
  · obtain ⟨o, e⟩ := w1.dm b q
    exact ⟨o, a.keep b o e (dj b q)⟩
  · cases e : Hf1 b with
    | none => rfl
    | some o =>
      rcases a.fz b o e with r | r | r
      · rw [w1.nf b q] at r; cases r
      · exact (dj b q r).elim
      · obtain ⟨o, e⟩ := w1.dm b q
        rw [e] at r; cases r
/-- with what lies beside, the step is one of the whole -/
theorem Tr.with (a : Tr S Hf H S1 Hf1 H1) (P : Rg) : Tr (fun b => P b ∨ S b) Hf H (fun b => P b ∨ S1 b) Hf1 H1 :=
  ⟨a.fx, fun b o e n => a.keep b o e fun q => n (.inr q), fun b q => by
    rcases q with q | q
    · exact .inl (.inl q)
    · exact (a.nw b q).imp_left .inr, fun b o q => (a.fz b o q).imp_right fun q => q.imp_left .inr⟩
theorem PR.drop (p : PR ca K Hf H P pp R σ st) : PR ca K Hf H Em True R σ st :=
  ⟨trivial, p.len, p.at_, p.dj, fun _ _ q => q.elim, p.w.mono fun b q => q.elim (fun q => q.elim) .inr⟩
theorem PR.imp (p : PR ca K Hf H P pp R σ st) (h : pp → qq) : PR ca K Hf H P qq R σ st := ⟨h p.pend, p.len, p.at_, p.dj, p.dp, p.w⟩
/-- the pending thing's region may be taken smaller -/
theorem PR.toP {P' : Rg} (p : PR ca K Hf H P pp R σ st) (h : ∀ b, P' b → P b) (q : qq) : PR ca K Hf H P' qq R σ st :=
  ⟨q, p.len, p.at_, p.dj, fun i b x y => p.dp i b (h b x) y, p.w.mono fun b q => q.imp_left (h b)⟩
theorem PR.put (p : PR ca K Hf H Em True R σ st) (q : Rep ca K Hf H Em v d) : PR ca K Hf H Em (Rep ca K Hf H Em v d) R σ st := p.toP (fun _ q => q) q
end

/-! ### the judgements -/
/-- the exception's wish in any context: what it wants is exactly so -/
def wX (X : Cx) : WX := fun cls d σ H => ∀ u s', XE X (fun c' d' σ' H' => c' = cls ∧ d' = d ∧ σ' = σ ∧ H' = H) u s' → X.xe u s'
theorem takes_wX (X : Cx) : Takes X (wX X) := fun u s' ⟨a, B, sI, pins, σ, H, cls, d, h1, h2, h3, h4, h5, h6, h7, h8, h9⟩ =>
  h9 u s' ⟨a, B, sI, pins, σ, H, cls, d, h1, h2, h3, h4, h5, h6, h7, h8, rfl, rfl, rfl, rfl⟩
theorem wX_of {X : Cx} {W : WX} (t : Takes X W) {cls : Value} {d : Option Addr} {σ : L2.St} {H : Hp} (w : W cls d σ H) : wX X cls d σ H := fun u s' ⟨a, B, sI, pins, σ1, H1, cls1, d1, h1, h2, h3, h4, h5, h6, h7, h8, e1, e2, e3, e4⟩ => by
  subst e1; subst e2; subst e3; subst e4
  exact t u s' ⟨a, B, sI, pins, _, _, _, _, h1, h2, h3, h4, h5, h6, h7, h8, w⟩

structure We (X : Cx) (e : Expr) (σ : L2.St) (H : Hp) (Q : VK) : Prop where
  run : ∀ (pins : List (Addr × Obj)) (s : Shared), Inv X pins σ H s → wpAny (model X.prog X.w) X.A (eval e X.env) (EP X pins σ Q) X.xe s
structure Wt (X : Cx) (e : Expr) (σ : L2.St) (H : Hp) (Q : Bool → Hp → Prop) : Prop where
  run : ∀ (pins : List (Addr × Obj)) (s : Shared), Inv X pins σ H s → wpAny (model X.prog X.w) X.A (isTrue e X.env (eval e X.env)) (TP X pins σ Q) X.xe s
structure Wa (X : Cx) (es : List Expr) (σ : L2.St) (H : Hp) (Q : List V → Hp → Prop) : Prop where
  run : ∀ (pos : Pos) (pins : List (Addr × Obj)) (s : Shared), Inv X pins σ H s → wpAny (model X.prog X.w) X.A (spliced (backTo pos (starEach es X.env))) (AP X pins σ Q) X.xe s
structure Ws (X : Cx) (st : Stmt) (D : Ends) (σ : L2.St) (H : Hp) : Prop where
  run : ∀ (pins : List (Addr × Obj)) (s : Shared), Inv X pins σ H s → wpAny (model X.prog X.w) X.A (exec st X.env) (SP X pins D) X.xe s
structure Wss (X : Cx) (st : List Stmt) (D : Ends) (σ : L2.St) (H : Hp) : Prop where
  run : ∀ (pins : List (Addr × Obj)) (s : Shared), Inv X pins σ H s → wpAny (model X.prog X.w) X.A (execs st X.env) (SP X pins D) X.xe s
instance {X : Cx} {e : Expr} {σ : L2.St} {H : Hp} {Q : VK} : CoeFun (We X e σ H Q) (fun _ => ∀ (pins : List (Addr × Obj)) (s : Shared), Inv X pins σ H s → wpAny (model X.prog X.w) X.A (eval e X.env) (EP X pins σ Q) X.xe s) := ⟨We.run⟩
instance {X : Cx} {e : Expr} {σ : L2.St} {H : Hp} {Q : Bool → Hp → Prop} : CoeFun (Wt X e σ H Q) (fun _ => ∀ (pins : List (Addr × Obj)) (s : Shared), Inv X pins σ H s → wpAny (model X.prog X.w) X.A (isTrue e X.env (eval e X.env)) (TP X pins σ Q) X.xe s) := ⟨Wt.run⟩
instance {X : Cx} {es : List Expr} {σ : L2.St} {H : Hp} {Q : List V → Hp → Prop} : CoeFun (Wa X es σ H Q) (fun _ => ∀ (pos : Pos) (pins : List (Addr × Obj)) (s : Shared), Inv X pins σ H s → wpAny (model X.prog X.w) X.A (spliced (backTo pos (starEach es X.env))) (AP X pins σ Q) X.xe s) := ⟨Wa.run⟩
instance {X : Cx} {st : Stmt} {D : Ends} {σ : L2.St} {H : Hp} : CoeFun (Ws X st D σ H) (fun _ => ∀ (pins : List (Addr × Obj)) (s : Shared), Inv X pins σ H s → wpAny (model X.prog X.w) X.A (exec st X.env) (SP X pins D) X.xe s) := ⟨Ws.run⟩
instance {X : Cx} {st : List Stmt} {D : Ends} {σ : L2.St} {H : Hp} : CoeFun (Wss X st D σ H) (fun _ => ∀ (pins : List (Addr × Obj)) (s : Shared), Inv X pins σ H s → wpAny (model X.prog X.w) X.A (execs st X.env) (SP X pins D) X.xe s) := ⟨Wss.run⟩
theorem we_pe (X : Cx) (e : Expr) : PE X e (We X e) := ⟨fun pins s _ _ _ I h => h pins s I⟩
theorem we_of {X : Cx} {e : Expr} {t : TE} (p : PE X e t) {σ : L2.St} {H : Hp} {Q : VK} (h : t σ H Q) : We X e σ H Q := ⟨fun pins s I => p.run pins s σ H Q I h⟩
theorem wt_pt (X : Cx) (e : Expr) : PT X e (Wt X e) := ⟨fun pins s _ _ _ I h => h pins s I⟩
theorem wt_of {X : Cx} {e : Expr} {t : TT} (p : PT X e t) {σ : L2.St} {H : Hp} {Q : Bool → Hp → Prop} (h : t σ H Q) : Wt X e σ H Q := ⟨fun pins s I => p.run pins s σ H Q I h⟩
theorem wa_pa (X : Cx) (es : List Expr) : PA X es (Wa X es) := ⟨fun pos pins s _ _ _ I h => h pos pins s I⟩
theorem wa_of {X : Cx} {es : List Expr} {t : TA} (p : PA X es t) {σ : L2.St} {H : Hp} {Q : List V → Hp → Prop} (h : t σ H Q) : Wa X es σ H Q := ⟨fun pos pins s I => p.run pos pins s σ H Q I h⟩
theorem ws_ps (X : Cx) (st : Stmt) : PS X st (Ws X st) := ⟨fun pins s _ _ _ I h => h pins s I⟩
theorem ws_of {X : Cx} {st : Stmt} {t : TS} (p : PS X st t) {D : Ends} {σ : L2.St} {H : Hp} (h : t D σ H) : Ws X st D σ H := ⟨fun pins s I => p.run pins s σ H D I h⟩
theorem wss_pss (X : Cx) (st : List Stmt) : PSs X st (Wss X st) := ⟨fun pins s _ _ _ I h => h pins s I⟩
theorem wss_of {X : Cx} {st : List Stmt} {t : TS} (p : PSs X st t) {D : Ends} {σ : L2.St} {H : Hp} (h : t D σ H) : Wss X st D σ H := ⟨fun pins s I => p.run pins s σ H D I h⟩

/-- an exception's own dict holds the fields -/
def XcR (ca : Nat → Addr) (K : PySem.W.Frag) (Hf H : Hp) (cls : Value) (dd : Option Addr) (x : Xc) : Prop :=
  cls = .ref (ca x.C) ∧ ∃ (a : Addr) (fs : List (Str × V)), dd = some a ∧ H a = some (.xd fs) ∧ Hf a = some (.xd fs) ∧ fs.map (·.1) = x.fs.map (·.1) ∧ RepL ca K Hf H Em (fs.map (·.2)) (x.fs.map (·.2))

section
variable (ca : Nat → Addr) (X : Cx)
/-- what is wanted of a step's answer, a value: R the slots' regions ahead -/
def Post (Hf H : Hp) (S : Rg) (σ : L2.St) (r : Res D) (Q : VK) : Prop :=
  match r with
  | .ok d st => ∀ Hf' H' P R' v, Tr S Hf H (jn P R') Hf' H' → PR ca X.K Hf' H' P (Rep ca X.K Hf' H' P v d) R' σ st → Q v H'
  | .exc x st => ∀ Hf' H' R' cls dd, Tr S Hf H (jn Em R') Hf' H' → PR ca X.K Hf' H' Em (XcR ca X.K Hf' H' cls dd x) R' σ st → wX X cls dd σ H'
  | .fail => False
def PostL (Hf H : Hp) (S : Rg) (σ : L2.St) (r : Res (List D)) (Q : List V → Hp → Prop) : Prop :=
  match r with
  | .ok ds st => ∀ Hf' H' P R' vs, Tr S Hf H (jn P R') Hf' H' → PR ca X.K Hf' H' P (RepL ca X.K Hf' H' P vs ds) R' σ st → Q vs H'
  | .exc x st => ∀ Hf' H' R' cls dd, Tr S Hf H (jn Em R') Hf' H' → PR ca X.K Hf' H' Em (XcR ca X.K Hf' H' cls dd x) R' σ st → wX X cls dd σ H'
  | .fail => False
def PostB (Hf H : Hp) (S : Rg) (σ : L2.St) (r : Res Bool) (Q : Bool → Hp → Prop) : Prop :=
  match r with
  | .ok k st => ∀ Hf' H' R', Tr S Hf H (jn Em R') Hf' H' → PR ca X.K Hf' H' Em True R' σ st → Q k H'
  | .exc x st => ∀ Hf' H' R' cls dd, Tr S Hf H (jn Em R') Hf' H' → PR ca X.K Hf' H' Em (XcR ca X.K Hf' H' cls dd x) R' σ st → wX X cls dd σ H'
  | .fail => False
/-- the parameters that are never stored to keep their values -/
def Lk (L : List Nat) (σ σ' : L2.St) : Prop := σ'.length = σ.length ∧ ∀ i ∈ L, σ'[i]? = σ[i]?
theorem Lk.refl {L : List Nat} {σ : L2.St} : Lk L σ σ := ⟨rfl, fun _ _ => rfl⟩
theorem Lk.trans {L : List Nat} {σ σ' σ2 : L2.St} (a : Lk L σ σ') (b : Lk L σ' σ2) : Lk L σ σ2 := ⟨b.1.trans a.1, fun j hj => (b.2 j hj).trans (a.2 j hj)⟩
def PostS (L : List Nat) (Hf H : Hp) (S : Rg) (σ : L2.St) (r : SR) (E : Ends) : Prop :=
  match r with
  | .next st => ∀ Hf' H' R' σ', Tr S Hf H (jn Em R') Hf' H' → PR ca X.K Hf' H' Em True R' σ' st → Lk L σ σ' → E.nx σ' H'
  | .brk st => ∀ Hf' H' R' σ', Tr S Hf H (jn Em R') Hf' H' → PR ca X.K Hf' H' Em True R' σ' st → Lk L σ σ' → E.bk σ' H'
  | .cont st => ∀ Hf' H' R' σ', Tr S Hf H (jn Em R') Hf' H' → PR ca X.K Hf' H' Em True R' σ' st → Lk L σ σ' → E.ct σ' H'
  | .ret d st => ∀ Hf' H' P R' σ' v, Tr S Hf H (jn P R') Hf' H' → PR ca X.K Hf' H' P (Rep ca X.K Hf' H' P v d) R' σ' st → Lk L σ σ' → E.rt v H'
  | .exc x st => ∀ Hf' H' R' σ' cls dd, Tr S Hf H (jn Em R') Hf' H' → PR ca X.K Hf' H' Em (XcR ca X.K Hf' H' cls dd x) R' σ' st → Lk L σ σ' → wX X cls dd σ' H'
  | .fail => False

/-- the expression's meaning -/
def CE (e : Expr) (m : ME) : Prop := ∀ (Hf H : Hp) (R : Nat → Rg) (σ : L2.St) (st : Sl) (Q : VK), PR ca X.K Hf H Em True R σ st → Post ca X Hf H (jn Em R) σ (m st) Q → We X e σ H Q
def CT (e : Expr) (m : MT) : Prop := ∀ (Hf H : Hp) (R : Nat → Rg) (σ : L2.St) (st : Sl) (Q : Bool → Hp → Prop), PR ca X.K Hf H Em True R σ st → PostB ca X Hf H (jn Em R) σ (m st) Q → Wt X e σ H Q
def CA (es : List Expr) (m : MA) : Prop := ∀ (Hf H : Hp) (R : Nat → Rg) (σ : L2.St) (st : Sl) (Q : List V → Hp → Prop), PR ca X.K Hf H Em True R σ st → PostL ca X Hf H (jn Em R) σ (m st) Q → Wa X es σ H Q
def CS (L : List Nat) (s : Stmt) (m : MS) : Prop := ∀ (Hf H : Hp) (R : Nat → Rg) (σ : L2.St) (st : Sl) (E : Ends), PR ca X.K Hf H Em True R σ st → PostS ca X L Hf H (jn Em R) σ (m st) E → Ws X s E σ H
def CSs (L : List Nat) (s : List Stmt) (m : MS) : Prop := ∀ (Hf H : Hp) (R : Nat → Rg) (σ : L2.St) (st : Sl) (E : Ends), PR ca X.K Hf H Em True R σ st → PostS ca X L Hf H (jn Em R) σ (m st) E → Wss X s E σ H
/-- a target's store: the value v of the datum d, lying in P, goes to the slots -/
def CG (L : List Nat) (e : Expr) (t : TG) (m : MG) : Prop := PG X e t ∧ ∀ (Hf H : Hp) (P : Rg) (R : Nat → Rg) (σ : L2.St) (st : Sl) (v : V) (d : D) (Q : L2.St → Hp → Prop), PR ca X.K Hf H P (Rep ca X.K Hf H P v d) R σ st →
  (match m d st with
    | .ok _ st' => ∀ Hf' H' R' σ', Tr (jn P R) Hf H (jn Em R') Hf' H' → PR ca X.K Hf' H' Em True R' σ' st' → Lk L σ σ' → Q σ' H'
    | _ => False) → t v σ H Q
end
end DL

/-! DL3: the rules for expressions: names, constants, operations that look at their operands. -/
namespace DL
open PySem L2 PyProof.Rows
/-- what is only looked at -/
inductive RdL (ca : Nat → Addr) (K : PySem.W.Frag) (Hf H : Hp) : List V → List D → Prop where
  | nil : RdL ca K Hf H [] []
  | cons {S v d vs ds} : Rep ca K Hf H S v d → RdL ca K Hf H vs ds → RdL ca K Hf H (v :: vs) (d :: ds)
def CO (ca : Nat → Addr) (X : Cx) (e : Expr) : Opd → Prop
  | .v m => CE ca X e m
  | .s i => PE X e (tVar i)
inductive COs (ca : Nat → Addr) (X : Cx) : List Expr → List Opd → Prop where
  | nil : COs ca X [] []
  | cons {e o es os} : CO ca X e o → COs ca X es os → COs ca X (e :: es) (o :: os)

section
variable {ca : Nat → Addr} {K : PySem.W.Frag} {Hf H Hf1 H1 Hf2 H2 : Hp} {S S1 S2 P : Rg} {R R1 R2 : Nat → Rg} {pp qq : Prop} {σ σ' : L2.St} {st st' : Sl} {v : V} {d : D} {vs : List V} {ds : List D} {X : Cx} {L : List Nat}

theorem getS_set {st : Sl} {i j : Nat} {o : Option D} : getS (st.set i o) j = if i = j then (if j < st.length then o else none) else getS st j := by
  unfold getS
  rw [List.getElem?_set]
  by_cases h : i = j
  · subst h
    rw [if_pos rfl, if_pos rfl]
    split <;> rfl
  · rw [if_neg h, if_neg h]
theorem getS_lt {st : Sl} {i : Nat} {d : D} (h : getS st i = some d) : i < st.length := by
  unfold getS at h
  cases e : st[i]? with
  | none =>
    rw [e] at h
    cases h
  | some o => exact (List.getElem?_eq_some_iff.mp e).1

/-! ### carrying a wish along a step -/
theorem Post.from {r : Res D} {Q : VK} (t : Tr S Hf H S1 Hf1 H1) (h : Post ca X Hf H S σ r Q) : Post ca X Hf1 H1 S1 σ r Q := by
  cases r with
  | ok d st => exact fun Hf' H' P R' v t' p => h Hf' H' P R' v (t.trans t') p
  | exc x st => exact fun Hf' H' R' cls dd t' p => h Hf' H' R' cls dd (t.trans t') p
  | fail => exact h
theorem PostL.from {r : Res (List D)} {Q : List V → Hp → Prop} (t : Tr S Hf H S1 Hf1 H1) (h : PostL ca X Hf H S σ r Q) : PostL ca X Hf1 H1 S1 σ r Q := by
  cases r with
  | ok d st => exact fun Hf' H' P R' v t' p => h Hf' H' P R' v (t.trans t') p
  | exc x st => exact fun Hf' H' R' cls dd t' p => h Hf' H' R' cls dd (t.trans t') p
  | fail => exact h
theorem PostB.from {r : Res Bool} {Q : Bool → Hp → Prop} (t : Tr S Hf H S1 Hf1 H1) (h : PostB ca X Hf H S σ r Q) : PostB ca X Hf1 H1 S1 σ r Q := by
  cases r with
  | ok d st => exact fun Hf' H' R' t' p => h Hf' H' R' (t.trans t') p
  | exc x st => exact fun Hf' H' R' cls dd t' p => h Hf' H' R' cls dd (t.trans t') p
  | fail => exact h
theorem PostS.from {r : SR} {E : Ends} (t : Tr S Hf H S1 Hf1 H1) (k : Lk L σ σ') (h : PostS ca X L Hf H S σ r E) : PostS ca X L Hf1 H1 S1 σ' r E := by
  have kk : ∀ σ'' : L2.St, Lk L σ' σ'' → Lk L σ σ'' := fun σ'' q => Lk.trans k q
  cases r with
  | next st => exact fun Hf' H' R' s2 t' p q => h Hf' H' R' s2 (t.trans t') p (kk _ q)
  | brk st => exact fun Hf' H' R' s2 t' p q => h Hf' H' R' s2 (t.trans t') p (kk _ q)
  | cont st => exact fun Hf' H' R' s2 t' p q => h Hf' H' R' s2 (t.trans t') p (kk _ q)
  | ret d st => exact fun Hf' H' P R' s2 v t' p q => h Hf' H' P R' s2 v (t.trans t') p (kk _ q)
  | exc x st => exact fun Hf' H' R' s2 cls dd t' p q => h Hf' H' R' s2 cls dd (t.trans t') p (kk _ q)
  | fail => exact h
/-! ### ends of an expression -/
/-- a value without owned parts; nothing changed -/
theorem post_val {Q : VK} (p : PR ca X.K Hf H P pp R σ st) (h : Post ca X Hf H S σ (.ok d st) Q) (hS : ∀ b, tot R b → S b) (r : Rep ca X.K Hf H Em v d) : Q v H :=
  h Hf H Em R v (Tr.refl fun b q => q.elim (fun q => q.elim) (hS b)) (p.drop.put r)
theorem wl_new {a : Addr} {o : HO} (w : Wl Hf H S) (hn : H a = none) : Wl Hf (upd H a o) S ∧ Hf a = none := by
  have h0 : Hf a = none := by
    cases e : Hf a with
    | none => rfl
    | some o => rw [w.ex a o e] at hn; cases hn
  refine ⟨⟨fun b u e => ?_, fun b q => ?_, w.nf⟩, h0⟩
  · by_cases hb : b = a
    · subst hb; rw [h0] at e; cases e
    · rw [upd_ne hb]; exact w.ex b u e
  · obtain ⟨u, e⟩ := w.dm b q
    exact ⟨u, by rw [upd_ne (fun z => by subst z; rw [hn] at e; cases e)]; exact e⟩
theorem upd_keep {a : Addr} {o : HO} (hn : H a = none) : ∀ b u, H b = some u → upd H a o b = some u := fun b u e => by
  rw [upd_ne (fun z => by subst z; rw [hn] at e; cases e)]; exact e
/-- the slots over a heap with one object more -/
theorem PR.grow {a : Addr} {o : HO} (p : PR ca K Hf H Em True R σ st) (hn : H a = none) {P' : Rg} (q : qq) (hP : ∀ b, P' b → b = a) : PR ca K Hf (upd H a o) P' qq R σ st where
  pend := q
  len := p.len
  at_ := fun i d e => by
    obtain ⟨v, e1, r⟩ := p.at_ i d e
    exact ⟨v, e1, r.keep (fun _ _ e => e) fun b _ o e => upd_keep hn b o e⟩
  dj := p.dj
  dp := fun i b h1 h2 => by
    have := hP b h1
    subst this
    obtain ⟨o, e⟩ := p.w.dm b (.inr ⟨i, h2⟩)
    rw [hn] at e; cases e
  w := by
    obtain ⟨w1, w2⟩ := wl_new (o := o) p.w hn
    refine ⟨w1.ex, fun b h => ?_, fun b h => ?_⟩
    · rcases h with h | h
      · have := hP b h
        subst this
        exact ⟨o, upd_same⟩
      · exact w1.dm b (.inr h)
    · rcases h with h | h
      · have := hP b h
        subst this
        exact w2
      · exact w1.nf b (.inr h)
/-- a new owned list -/
theorem post_newL {Q : VK} {a : Addr} (p : PR ca X.K Hf H P pp R σ st) (h : Post ca X Hf H S σ (.ok (.lst true ds) st) Q) (hS : ∀ b, tot R b → S b) (hn : H a = none) (r : RepL ca X.K Hf H Em vs ds) : Q (.ref a) (upd H a (.lst vs)) := by
  refine h Hf (upd H a (.lst vs)) (fun b => b = a) R (.ref a) ⟨fun _ _ e => e, fun b o e _ => upd_keep hn b o e, fun b q => ?_, fun _ _ e => .inl e⟩ (p.drop.grow hn (.lstO rfl upd_same ((r.keep (fun _ _ e => e) fun _ q => q.elim).mono fun _ q => q.elim)) fun _ q => q)
  rcases q with q | q
  · subst q; exact .inr hn
  · exact .inl (hS b q)
/-- an object let stand at once -/
theorem PR.stand {a : Addr} {o : HO} (p : PR ca K Hf H Em True R σ st) (hn : H a = none) : PR ca K (upd Hf a o) (upd H a o) Em True R σ st := by
  have h0 := (wl_new (o := o) p.w hn).2
  have hx : Ex Hf (upd Hf a o) := fun b u e => upd_keep h0 b u e
  refine ⟨trivial, p.len, fun i d e => ?_, p.dj, fun _ _ q => q.elim, ?_⟩
  · obtain ⟨v, e1, r⟩ := p.at_ i d e
    exact ⟨v, e1, r.keep hx fun b _ o e => upd_keep hn b o e⟩
  · refine ⟨fun b u e => ?_, fun b q => ?_, fun b q => ?_⟩
    · by_cases hb : b = a
      · subst hb; rw [upd_same] at e ⊢; exact e
      · rw [upd_ne hb] at e ⊢; exact p.w.ex b u e
    · obtain ⟨u, e⟩ := p.w.dm b q
      exact ⟨u, upd_keep hn b u e⟩
    · have : b ≠ a := fun z => by
        subst z
        obtain ⟨u, e⟩ := p.w.dm b q
        rw [hn] at e; cases e
      rw [upd_ne this]; exact p.w.nf b q
theorem post_newT {Q : VK} {a : Addr} (p : PR ca X.K Hf H P pp R σ st) (h : Post ca X Hf H S σ (.ok (.tup ds) st) Q) (hS : ∀ b, tot R b → S b) (hn : H a = none) (r : RepL ca X.K Hf H Em vs ds) : Q (.ref a) (upd H a (.tup vs)) := by
  have h0 := (wl_new (o := .tup vs) p.w hn).2
  have p1 := p.drop.stand (o := .tup vs) hn
  refine h (upd Hf a (.tup vs)) (upd H a (.tup vs)) Em R (.ref a) ⟨fun b u e => upd_keep h0 b u e, fun b o e _ => upd_keep hn b o e, fun b q => ?_, fun b o e => ?_⟩ (p1.put (.tup upd_same (r.keep (fun b u e => upd_keep h0 b u e) fun _ q => q.elim)))
  · rcases q with q | q
    · exact q.elim
    · exact .inl (hS b q)
  · by_cases hb : b = a
    · subst hb; exact .inr (.inr hn)
    · rw [upd_ne hb] at e; exact .inl e

/-! ### constants and names -/
theorem ce_c {e : Expr} (p : PE X e (tC v)) (r : ∀ Hf H, Rep ca X.K Hf H Em v d) : CE ca X e (eC d) := fun Hf H R σ st Q pr h =>
  we_of p (post_val (v := v) pr h (fun b q => .inr q) (r Hf H))
theorem ce_int {i j pos} : CE ca X (.Constant (.int i) j pos) (eC (.int i)) := ce_c pe_int fun _ _ => .int
theorem ce_bl {b j pos} : CE ca X (.Constant (.bool b) j pos) (eC (.bl b)) := ce_c pe_bl fun _ _ => .bl
theorem ce_non {j pos} : CE ca X (.Constant .none j pos) (eC .non) := ce_c pe_non fun _ _ => .non
theorem ce_str {x j pos} : CE ca X (.Constant (.str x) j pos) (eC (.str x)) := ce_c pe_str fun _ _ => .str

theorem set_get {st : Sl} {i j : Nat} {o : Option D} {d : D} (h : getS (st.set i o) j = some d) : (i = j ∧ o = some d) ∨ (i ≠ j ∧ getS st j = some d) := by
  rw [getS_set] at h
  by_cases e : i = j
  · rw [if_pos e] at h
    split at h
    · exact .inl ⟨e, h⟩
    · cases h
  · rw [if_neg e] at h
    exact .inr ⟨e, h⟩
/-- a slot's data let stand -/
theorem PR.freeze {i : Nat} (p : PR ca K Hf H Em True R σ st) (h : getS st i = some d) :
    ∃ Hf' v, σ[i]? = some (some v) ∧ Rep ca K Hf' H Em v (frz d) ∧ Tr (jn Em R) Hf H (jn Em fun j b => j ≠ i ∧ R j b) Hf' H ∧ PR ca K Hf' H Em True (fun j b => j ≠ i ∧ R j b) σ (st.set i (some (frz d))) := by
  obtain ⟨v, e1, r⟩ := p.at_ i d h
  let Hf' : Hp := fun b => if Classical.propDecidable (R i b) |>.decide then H b else Hf b
  have hy : ∀ b, R i b → Hf' b = H b := fun b q => by
    show (if _ then _ else _) = _
    rw [if_pos (by simpa using q)]
  have hno : ∀ b, ¬ R i b → Hf' b = Hf b := fun b q => by
    show (if _ then _ else _) = _
    rw [if_neg (by simpa using q)]
  have hx : Ex Hf Hf' := fun b o e => by
    by_cases q : R i b
    · rw [hy b q]; exact p.w.ex b o e
    · rw [hno b q]; exact e
  have hfz : Rep ca K Hf' H Em v (frz d) := r.frz hx fun b q o e => by rw [hy b q]; exact e
  refine ⟨Hf', v, e1, hfz, ⟨hx, fun _ _ e _ => e, fun b q => .inl ?_, fun b o e => ?_⟩, ⟨trivial, ?_, fun j d' e => ?_, fun j k b q1 q2 => p.dj j k b q1.2 q2.2, fun _ _ q => q.elim, ?_⟩⟩
  · rcases q with q | ⟨j, q⟩
    · exact q.elim
    · exact .inr ⟨j, q.2⟩
  · by_cases q : R i b
    · exact .inr (.inl (.inr ⟨i, q⟩))
    · rw [hno b q] at e; exact .inl e
  · rw [List.length_set]; exact p.len
  · rcases set_get e with ⟨q1, q2⟩ | ⟨q1, q2⟩
    · subst q1
      cases q2
      exact ⟨v, e1, hfz.mono fun _ q => q.elim⟩
    · obtain ⟨v', e2, r2⟩ := p.at_ j d' q2
      exact ⟨v', e2, (r2.keep hx fun _ _ _ e => e).mono fun b q => ⟨Ne.symm q1, q⟩⟩
  · refine ⟨fun b o e => ?_, fun b q => ?_, fun b q => ?_⟩
    · by_cases z : R i b
      · rw [hy b z] at e; exact e
      · rw [hno b z] at e; exact p.w.ex b o e
    · rcases q with q | ⟨j, q⟩
      · exact q.elim
      · exact p.w.dm b (.inr ⟨j, q.2⟩)
    · rcases q with q | ⟨j, q⟩
      · exact q.elim
      · rw [hno b fun z => q.1 (p.dj j i b q.2 z)]; exact p.w.nf b (.inr ⟨j, q.2⟩)
theorem ce_n {e : Expr} {i : Nat} (hp : PE X e (tVar i)) : CE ca X e (eN i) := fun Hf H R σ st Q p h => by
  refine we_of hp ?_
  unfold eN at h
  cases g : getS st i with
  | none => rw [g] at h; exact h.elim
  | some d =>
    rw [g] at h
    by_cases hh : hot d
    · simp only [hh, if_true] at h
      obtain ⟨Hf', v, e1, r, t, p1⟩ := p.freeze g
      exact ⟨v, e1, h Hf' H Em _ v (t.less fun b q => q) (p1.put r)⟩
    · simp only [Bool.not_eq_true] at hh
      simp only [hh, Bool.false_eq_true, if_false] at h
      obtain ⟨v, e1, r⟩ := p.at_ i d g
      exact ⟨v, e1, post_val p h (fun b q => .inr q) (r.cold hh)⟩
/-- a slot's data taken out -/
theorem PR.take {i : Nat} (p : PR ca K Hf H Em True R σ st) (h : getS st i = some d) :
    ∃ v, σ[i]? = some (some v) ∧ PR ca K Hf H (R i) (Rep ca K Hf H (R i) v d) (fun j b => j ≠ i ∧ R j b) σ (st.set i none) := by
  obtain ⟨v, e1, r⟩ := p.at_ i d h
  refine ⟨v, e1, r, ?_, fun j d' e => ?_, fun j k b q1 q2 => p.dj j k b q1.2 q2.2, fun j b q1 q2 => q2.1 (p.dj j i b q2.2 q1), ?_⟩
  · rw [List.length_set]; exact p.len
  · rcases set_get e with ⟨q1, q2⟩ | ⟨q1, q2⟩
    · cases q2
    · obtain ⟨v', e2, r2⟩ := p.at_ j d' q2
      exact ⟨v', e2, r2.mono fun b q => ⟨Ne.symm q1, q⟩⟩
  · exact p.w.mono fun b q => q.elim (fun q => .inr ⟨i, q⟩) fun ⟨j, q⟩ => .inr ⟨j, q.2⟩
theorem ce_mv {e : Expr} {i : Nat} (hp : PE X e (tVar i)) : CE ca X e (eMv i) := fun Hf H R σ st Q p h => by
  refine we_of hp ?_
  unfold eMv at h
  cases g : getS st i with
  | none => rw [g] at h; exact h.elim
  | some d =>
    rw [g] at h
    obtain ⟨v, e1, p1⟩ := p.take g
    refine ⟨v, e1, h Hf H (R i) _ v (Tr.refl fun b q => ?_) p1⟩
    rcases q with q | ⟨j, q⟩
    · exact .inr ⟨i, q⟩
    · exact .inr ⟨j, q.2⟩

/-! ### operands -/
theorem RdL.keep (r : RdL ca K Hf H vs ds) (hx : Ex Hf Hf1) (hk : Ex H H1) : RdL ca K Hf1 H1 vs ds := by
  induction r with
  | nil => exact .nil
  | cons r1 _ ih => exact .cons (r1.keep hx fun b _ o e => hk b o e) ih

theorem co_v {e : Expr} {m : ME} (h : CE ca X e m) : CO ca X e (.v m) := h
theorem co_s {e : Expr} {i : Nat} (h : PE X e (tVar i)) : CO ca X e (.s i) := h
/-- expressions from the left -/
def WL (X : Cx) : List Expr → L2.St → Hp → (List V → Hp → Prop) → Prop
  | [], _, H, Q => Q [] H
  | e :: es, σ, H, Q => We X e σ H fun x H1 => WL X es σ H1 fun xs H2 => Q (x :: xs) H2

/-- the wish for exceptions alone -/
theorem ops_sound : ∀ {es : List Expr} {os : List Opd}, COs ca X es os → ∀ {Hf H : Hp} {R : Nat → Rg} {σ : L2.St} {st : Sl} {k : (Sl → Option (List D)) → Sl → Res D} {Q' : VK} {Q : List V → Hp → Prop},
    PR ca X.K Hf H Em True R σ st → Post ca X Hf H (jn Em R) σ (opds os st k) Q' →
    (∀ gs st2 Hf2 H2 R2 vs, Tr (jn Em R) Hf H (jn Em R2) Hf2 H2 → PR ca X.K Hf2 H2 Em True R2 σ st2 → (∀ ds, gs st2 = some ds → RdL ca X.K Hf2 H2 vs ds) → Post ca X Hf2 H2 (jn Em R2) σ (k gs st2) Q' → Q vs H2) → WL X es σ H Q
  | _, _, .nil, Hf, H, R, σ, st, k, Q', Q, p, h, c => c _ st Hf H R [] (Tr.refl fun _ q => q) p (fun ds e => by cases e; exact .nil) h
  | _, _, .cons (o := .v m) (os := os) hc hcs, Hf, H, R, σ, st, k, Q', Q, p, h, c => by
    refine hc Hf H R σ st _ p ?_
    rw [opds] at h
    cases e : m st with
    | fail => rw [e] at h; exact h
    | exc x st1 => rw [e] at h; exact h
    | ok d st1 =>
      rw [e] at h
      intro Hf1 H1 P R1 v t1 p1
      have h1 : Post ca X Hf1 H1 (jn Em R1) σ (opds os st1 fun gs st2 => k (fun s => (gs s).map (d :: ·)) st2) Q' := Post.from (t1.less fun b q => q.elim (fun q => q.elim) .inr) h
      refine ops_sound hcs p1.drop h1 fun gs st2 Hf2 H2 R2 vs t2 p2 hr hk => ?_
      have t1' := t1.less (S2 := jn Em R1) fun b q => q.elim (fun q => q.elim) .inr
      refine c _ st2 Hf2 H2 R2 (v :: vs) (t1'.trans t2) p2 (fun ds e => ?_) hk
      cases g : gs st2 with
      | none => rw [g] at e; cases e
      | some ds' =>
        rw [g] at e
        cases e
        have wP : Wl Hf1 H1 P := p1.w.mono fun b q => .inl q
        have bs := t2.beside wP fun b q1 q2 => q2.elim (fun q => q.elim) fun ⟨i, q⟩ => p1.dp i b q1 q
        exact .cons (p1.pend.keep t2.fx bs.1) (hr _ g)
  | _, _, .cons (e := ex) (o := .s i) (es := es) (os := os) hc hcs, Hf, H, R, σ, st, k, Q', Q, p, h, c => by
    rw [opds] at h
    cases gi : getS st i with
    | none =>
      rw [gi] at h
      exact h.elim
    | some d0 =>
      rw [gi] at h
      obtain ⟨v, ev, _⟩ := p.at_ i d0 gi
      refine we_of hc ⟨v, ev, ?_⟩
      refine ops_sound hcs p h fun gs st2 Hf2 H2 R2 vs t2 p2 hr hk => c _ st2 Hf2 H2 R2 (v :: vs) t2 p2 (fun ds e => ?_) hk
      cases g0 : getS st2 i with
      | none => rw [g0] at e; cases e
      | some d =>
        rw [g0] at e
        cases g : gs st2 with
        | none =>
          rw [g] at e
          cases e
        | some ds' =>
          rw [g] at e
          cases e
          obtain ⟨v', e2, r⟩ := p2.at_ i d g0
          rw [ev] at e2
          cases e2
          exact .cons r (hr _ g)
end
end DL

/-! DL4: operations by data; and, or, not, if; displays; tests. -/
namespace DL
open PySem L2 PyProof.Rows

/-- what an operation that only looks hands on -/
def OutQ (ca : Nat → Addr) (K : PySem.W.Frag) (Hf H : Hp) (o : Out) (Q : VK) : Prop :=
  match o with
  | .val d => ∀ v, Rep ca K Hf H Em v d → Q v H
  | .newL ds => ∀ p vs, H p = none → RepL ca K Hf H Em vs ds → Q (.ref p) (upd H p (.lst vs))
  | .newT ds => ∀ p vs, H p = none → RepL ca K Hf H Em vs ds → Q (.ref p) (upd H p (.tup vs))
def rl1 (r : V → Hp → VK → Prop) : List V → Hp → VK → Prop
  | [x], H, Q => r x H Q
  | _, _, _ => False
def rl2 (r : L2.R2) : List V → Hp → VK → Prop
  | [x, y], H, Q => r x y H Q
  | _, _, _ => False
def f2 (f : D → D → Option D) : List D → Option Out
  | [x, y] => (f x y).map .val
  | _ => none
/-- an operation by values (rl) is what f says of the data -/
def OpS (ca : Nat → Addr) (K : PySem.W.Frag) (rl : List V → Hp → VK → Prop) (f : List D → Option Out) : Prop :=
  ∀ (Hf H : Hp) (vs : List V) (ds : List D) (o : Out) (Q : VK), Ex Hf H → RdL ca K Hf H vs ds → f ds = some o → OutQ ca K Hf H o Q → rl vs H Q

section
variable {ca : Nat → Addr} {K : PySem.W.Frag} {Hf H Hf1 H1 Hf2 H2 : Hp} {S S1 S2 P : Rg} {R R1 R2 : Nat → Rg} {pp qq : Prop} {σ σ' : L2.St} {st st' : Sl} {v : V} {d : D} {vs : List V} {ds : List D} {X : Cx} {L : List Nat}

theorem outQ_of {o : Out} {Q : VK} (p : PR ca X.K Hf H P pp R σ st) (h : Post ca X Hf H S σ (.ok o.d st) Q) (hS : ∀ b, tot R b → S b) : OutQ ca X.K Hf H o Q := by
  cases o with
  | val d => exact fun v r => post_val p h hS r
  | newL ds => exact fun a vs hn r => post_newL p h hS hn r
  | newT ds => exact fun a vs hn r => post_newT p h hS hn r
/-- THE RULE for an operation that only looks at its operands -/
theorem ce_op {e : Expr} {es : List Expr} {os : List Opd} {rl : List V → Hp → VK → Prop} {f : List D → Option Out} (hw : ∀ σ H Q, WL X es σ H (fun vs H2 => rl vs H2 Q) → We X e σ H Q) (hc : COs ca X es os) (ho : OpS ca X.K rl f) : CE ca X e (eOp f os) :=
  fun Hf H R σ st Q p h => by
    refine hw σ H Q (ops_sound hc p h fun gs st2 Hf2 H2 R2 vs t2 p2 hr hk => ?_)
    cases g : gs st2 with
    | none => rw [g] at hk; exact hk.elim
    | some ds =>
      rw [g] at hk
      cases g2 : f ds with
      | none =>
        have hk' : Post ca X Hf2 H2 (jn Em R2) σ (match f ds with | some o => .ok o.d st2 | none => .fail) Q := hk
        rw [g2] at hk'; exact hk'.elim
      | some o =>
        have hk' : Post ca X Hf2 H2 (jn Em R2) σ (match f ds with | some o => .ok o.d st2 | none => .fail) Q := hk
        rw [g2] at hk'
        exact ho Hf2 H2 vs ds o Q p2.w.ex (hr ds g) g2 (outQ_of p2 hk' fun b q => .inr q)
/-! ### the forms -/
theorem ce_bin {a b : Expr} {oa ob : Opd} {op : Operator} {pos : Pos} {r : L2.R2} {f : List D → Option Out} (ho : OpR X (binaryOp op) r) (hs : OpS ca X.K (rl2 r) f) (ha : CO ca X a oa) (hb : CO ca X b ob) :
    CE ca X (.BinOp a op b pos) (eOp f [oa, ob]) := ce_op (es := [a, b]) (rl := rl2 r) (fun σ H Q h => we_of (pe_op ho (we_pe X a) (we_pe X b)) h) (.cons ha (.cons hb .nil)) hs
theorem ce_cmp {a b : Expr} {oa ob : Opd} {op : CmpOp} {pos : Pos} {r : L2.R2} {f : List D → Option Out} (ho : OpR X (compareOp op) r) (hs : OpS ca X.K (rl2 r) f) (ha : CO ca X a oa) (hb : CO ca X b ob) (hm : behindInMarks op b = false) :
    CE ca X (.Compare a [op] [b] pos) (eOp f [oa, ob]) := ce_op (es := [a, b]) (rl := rl2 r) (fun σ H Q h => we_of (pe_cmpR ho (we_pe X a) (we_pe X b) hm) h) (.cons ha (.cons hb .nil)) hs
theorem ce_ix {a b : Expr} {oa ob : Opd} {pos : Pos} {r : L2.R2} {f : List D → Option Out} (hr : IxR X r) (hs : OpS ca X.K (rl2 r) f) (ha : CO ca X a oa) (hb : CO ca X b ob) (hp : PlainIx b) :
    CE ca X (.Subscript a b pos) (eOp f [oa, ob]) := ce_op (es := [a, b]) (rl := rl2 r) (fun σ H Q h => we_of (pe_ix hr (we_pe X a) (we_pe X b) hp) h) (.cons ha (.cons hb .nil)) hs
/-- the arguments of a call of a built-in, by values -/
theorem wa_wl : ∀ {es : List Expr}, (∀ e r, (e :: r) <:+ es → starEach (e :: r) X.env = (false, eval e X.env) :: starEach r X.env) → ∀ {σ : L2.St} {H : Hp} {Q : List V → Hp → Prop}, WL X es σ H Q → Wa X es σ H Q
  | [], _, _, _, _, h => wa_of pa_nil h
  | e :: es, hs, _, _, _, h => wa_of (pa_cons (we_pe X e) (wa_pa X es) (hs e es (List.suffix_refl _))) (We.mk fun pins s I => thn (We.run h pins s I) fun u s1 ⟨v, H1, I1, r1, q1⟩ => ⟨v, H1, I1, r1, wa_wl (fun e' r' q => hs e' r' (q.trans (List.suffix_cons _ _))) q1⟩)
end
/-- no star among the arguments -/
def NoStar : List Expr → Prop
  | [] => True
  | e :: es => (∀ env, starEach (e :: es) env = (false, eval e env) :: starEach es env) ∧ NoStar es
theorem noStar_suf : ∀ {es : List Expr}, NoStar es → ∀ e r, (e :: r) <:+ es → ∀ env, starEach (e :: r) env = (false, eval e env) :: starEach r env
  | [], _, e, r, q, _ => by simp at q
  | x :: es, h, e, r, q, env => by
    rcases List.suffix_cons_iff.mp q with q | q
    · cases q; exact h.1 env
    · exact noStar_suf h.2 e r q env
section
variable {ca : Nat → Addr} {K : PySem.W.Frag} {X : Cx} {L : List Nat}
/-- f(e, ..), f a built-in function; T(e, ..), T a built-in type -/
theorem ce_callB {x : Str} {p pos : Pos} {e : Expr} {es : List Expr} {os : List Opd} {id : String} {r : List V → Hp → VK → Prop} {f : List D → Option Out} (hc : CallR X (.builtin id) r) (hg : Gl X x) (hm : X.mg x = none) (hv : bootBuiltins x = some (.builtin id)) (hs : OpS ca X.K r f)
    (ha : COs ca X (e :: es) os) (hn : x ≠ "__name__" := by decide) (hdb : (x == ("__debug__" : Str)) = false := by decide) (hst : NoStar (e :: es) := by exact ⟨fun _ => rfl, trivial⟩)
    (hpl : (backTo pos (starEach es X.env)).any (·.1) = false := by rfl) : CE ca X (.Call (.Name x p) (e :: es) [] pos) (eOp f os) :=
  ce_op (es := e :: es) (fun σ H Q h => we_of (pe_callB hc hg hm hv (wa_pa X (e :: es)) hn hdb (hst.1 _) hpl) (wa_wl (fun e' r' q => noStar_suf hst e' r' q _) h)) ha hs
theorem ce_callTy {x : Str} {p pos : Pos} {e : Expr} {es : List Expr} {os : List Opd} {T : String} {r : List V → Hp → VK → Prop} {f : List D → Option Out} (hc : CallR X (.type T) r) (hg : Gl X x) (hm : X.mg x = none) (hv : bootBuiltins x = some (.type T)) (hs : OpS ca X.K r f)
    (ha : COs ca X (e :: es) os) (hn : x ≠ "__name__" := by decide) (hdb : (x == ("__debug__" : Str)) = false := by decide) (hst : NoStar (e :: es) := by exact ⟨fun _ => rfl, trivial⟩)
    (hpl : (backTo pos (starEach es X.env)).any (·.1) = false := by rfl) : CE ca X (.Call (.Name x p) (e :: es) [] pos) (eOp f os) :=
  ce_op (es := e :: es) (fun σ H Q h => we_of (pe_callTy hc hg hm hv (wa_pa X (e :: es)) hn hdb (hst.1 _) hpl) (wa_wl (fun e' r' q => noStar_suf hst e' r' q _) h)) ha hs
end

section
variable {ca : Nat → Addr} {K : PySem.W.Frag} {Hf H Hf1 H1 Hf2 H2 : Hp} {S S1 S2 P : Rg} {R R1 R2 : Nat → Rg} {pp qq : Prop} {σ σ' : L2.St} {st st' : Sl} {v : V} {d : D} {vs : List V} {ds : List D} {X : Cx} {L : List Nat}
/-! ### and, or, not, if -/
theorem less0 {P' : Rg} (t : Tr S Hf H (jn P' R1) Hf1 H1) : Tr S Hf H (jn Em R1) Hf1 H1 := t.less fun _ q => q.elim (fun q => q.elim) .inr
theorem rep_bl (r : Rep ca K Hf H S v (.bl b)) : v = .bl b := by cases r; rfl
theorem rep_int (r : Rep ca K Hf H S v (.int i)) : v = .int i := by cases r; rfl
theorem rep_str (r : Rep ca K Hf H S v (.str x)) : v = .str x := by cases r; rfl
theorem rep_non (r : Rep ca K Hf H S v .non) : v = .non := by cases r; rfl
theorem ce_and {a b : Expr} {ma mb : ME} {pos : Pos} (ha : CE ca X a ma) (hb : CE ca X b mb) : CE ca X (.BoolOp .And [a, b] pos) (eAnd ma mb) := fun Hf H R σ st Q p h => by
  refine we_of (pe_and (we_pe X a) (pe_one (we_pe X b))) ?_
  refine ha Hf H R σ st _ p ?_
  unfold eAnd at h
  cases e : ma st with
  | fail => rw [e] at h; exact h
  | exc x st1 => rw [e] at h; exact h
  | ok d st1 =>
    rw [e] at h
    intro Hf1 H1 P R1 v t1 p1
    cases d with
    | bl k =>
      cases k with
      | true => exact ⟨true, rep_bl p1.pend, hb Hf1 H1 R1 σ st1 Q p1.drop (Post.from (less0 t1) h)⟩
      | false => exact ⟨false, rep_bl p1.pend, h Hf1 H1 Em R1 (.bl false) (less0 t1) (p1.drop.put .bl)⟩
    | _ => exact h.elim
theorem ce_and' {a b c : Expr} {r : List Expr} {ma mb : ME} {pos : Pos} (ha : CE ca X a ma) (hb : CE ca X (.BoolOp .And (b :: c :: r) pos) mb) : CE ca X (.BoolOp .And (a :: b :: c :: r) pos) (eAnd ma mb) := fun Hf H R σ st Q p h => by
  refine we_of (pe_and (we_pe X a) (we_pe X _)) ?_
  refine ha Hf H R σ st _ p ?_
  unfold eAnd at h
  cases e : ma st with
  | fail => rw [e] at h; exact h
  | exc x st1 => rw [e] at h; exact h
  | ok d st1 =>
    rw [e] at h
    intro Hf1 H1 P R1 v t1 p1
    cases d with
    | bl k =>
      cases k with
      | true => exact ⟨true, rep_bl p1.pend, hb Hf1 H1 R1 σ st1 Q p1.drop (Post.from (less0 t1) h)⟩
      | false => exact ⟨false, rep_bl p1.pend, h Hf1 H1 Em R1 (.bl false) (less0 t1) (p1.drop.put .bl)⟩
    | _ => exact h.elim
theorem ce_not {a : Expr} {ma : ME} {pos : Pos} (ha : CE ca X a ma) : CE ca X (.UnaryOp .Not a pos) (eNot ma) := fun Hf H R σ st Q p h => by
  refine we_of (pe_not (we_pe X a)) ?_
  refine ha Hf H R σ st _ p ?_
  unfold eNot at h
  cases e : ma st with
  | fail => rw [e] at h; exact h
  | exc x st1 => rw [e] at h; exact h
  | ok d st1 =>
    rw [e] at h
    intro Hf1 H1 P R1 v t1 p1
    cases d with
    | bl k => exact ⟨k, rep_bl p1.pend, h Hf1 H1 Em R1 (.bl !k) (less0 t1) (p1.drop.put .bl)⟩
    | _ => exact h.elim
/-! ### tests -/
theorem ct_e {e : Expr} {m : ME} (hp : PT X e (tB (We X e))) (h : CE ca X e m) : CT ca X e (tE m) := fun Hf H R σ st Q p hq => by
  refine wt_of hp ?_
  refine h Hf H R σ st _ p ?_
  unfold tE at hq
  cases e : m st with
  | fail => rw [e] at hq; exact hq
  | exc x st1 => rw [e] at hq; exact hq
  | ok d st1 =>
    rw [e] at hq
    intro Hf1 H1 P R1 v t1 p1
    cases d with
    | bl k => exact ⟨k, rep_bl p1.pend, hq Hf1 H1 R1 (less0 t1) p1.drop⟩
    | _ => exact hq.elim
theorem ce_if {c a b : Expr} {mc : MT} {ma mb : ME} {pos : Pos} (hc : CT ca X c mc) (ha : CE ca X a ma) (hb : CE ca X b mb) : CE ca X (.IfExp c a b pos) (eIf mc ma mb) := fun Hf H R σ st Q p h => by
  refine we_of (pe_ifExp (wt_pt X c) (we_pe X a) (we_pe X b)) ?_
  refine hc Hf H R σ st _ p ?_
  unfold eIf at h
  cases e : mc st with
  | fail => rw [e] at h; exact h
  | exc x st1 => rw [e] at h; exact h
  | ok k st1 =>
    rw [e] at h
    intro Hf1 H1 R1 t1 p1
    cases k with
    | true => exact ha Hf1 H1 R1 σ st1 Q p1 (Post.from t1 h)
    | false => exact hb Hf1 H1 R1 σ st1 Q p1 (Post.from t1 h)

/-! ### a op1 b op2 c, of values without owned parts -/
theorem ce_chain {a b c : Expr} {ma mb mc : ME} {op op' : CmpOp} {r r' : L2.R2} {f g : D → D → Option D} {pos : Pos} (ho : OpR X (compareOp op) r) (ho' : OpR X (compareOp op') r')
    (hf : OpS ca X.K (rl2 r) (f2 f))
    (hg : OpS ca X.K (rl2 r') (f2 g))
    (ha : CE ca X a ma) (hb : CE ca X b mb) (hc : CE ca X c mc) (hm : lastMarks [op, op'] [b, c] = false := by with_unfolding_all rfl) :
    CE ca X (.Compare a [op, op'] [b, c] pos) (eChain f g ma mb mc) := fun Hf H R σ st Q p h => by
  refine we_of (pe_chain ho ho' (we_pe X a) (we_pe X b) (we_pe X c) hm) ?_
  refine ha Hf H R σ st _ p ?_
  unfold eChain at h
  cases e : ma st with
  | fail => rw [e] at h; exact h
  | exc x st1 => rw [e] at h; exact h
  | ok d st1 =>
    rw [e] at h
    intro Hf1 H1 P1 R1 v1 t1 p1
    refine hb Hf1 H1 R1 σ st1 _ p1.drop ?_
    have h1 := Post.from (less0 t1) h
    cases e2 : mb st1 with
    | fail => simp only [Res.bind, e2] at h1; exact h1
    | exc x st2 => simp only [Res.bind, e2] at h1; exact h1
    | ok d2 st2 =>
      simp only [Res.bind, e2] at h1
      intro Hf2 H2 P2 R2 v2 t2 p2
      have wP : Wl Hf1 H1 P1 := p1.w.mono fun b q => .inl q
      have bs := t2.beside wP fun b q1 q2 => q2.elim (fun q => q.elim) fun ⟨i, q⟩ => p1.dp i b q1 q
      have r1 := p1.pend.keep t2.fx bs.1
      cases e3 : f d d2 with
      | none => rw [e3] at h1; exact h1.elim
      | some k =>
        rw [e3] at h1
        refine hf Hf2 H2 [v1, v2] [d, d2] (.val k) _ p2.w.ex (.cons r1 (.cons p2.pend .nil)) (by simp [f2, e3]) ?_
        intro vk rk
        cases k with
        | bl kb =>
          refine ⟨kb, rep_bl rk, ?_⟩
          cases kb with
          | true =>
            show We X c σ H2 fun w' H4 => r' v2 w' H4 Q
            refine hc Hf2 H2 R2 σ st2 _ p2.drop ?_
            have h2 := Post.from (less0 t2) h1
            cases e4 : mc st2 with
            | fail => simp only [e4] at h2; exact h2
            | exc x st3 => simp only [e4] at h2; exact h2
            | ok d3 st3 =>
              simp only [e4] at h2
              intro Hf3 H3 P3 R3 v3 t3 p3
              have wP2 : Wl Hf2 H2 P2 := p2.w.mono fun b q => .inl q
              have bs2 := t3.beside wP2 fun b q1 q2 => q2.elim (fun q => q.elim) fun ⟨i, q⟩ => p2.dp i b q1 q
              have r2 := p2.pend.keep t3.fx bs2.1
              cases e5 : g d2 d3 with
              | none => rw [e5] at h2; exact h2.elim
              | some w3 =>
                rw [e5] at h2
                have h3 := Post.from (less0 t3) h2
                exact hg Hf3 H3 [v2, v3] [d2, d3] (.val w3) _ p3.w.ex (.cons r2 (.cons p3.pend .nil)) (by simp [f2, e5]) fun vk rk => post_val p3 h3 (fun b q => .inr q) rk
          | false =>
            show Q (.bl false) H2
            exact post_val p2 (Post.from (less0 t2) h1) (fun b q => .inr q) .bl
        | _ => exact h1.elim
end
end DL

/-! DL5: each operation by data is what the layer's rule says of the values. -/
namespace DL
open PySem L2 PyProof.Rows
section
variable {ca : Nat → Addr} {K : PySem.W.Frag} {Hf H Hf1 H1 Hf2 H2 : Hp} {S S1 S2 P : Rg} {v : V} {d : D} {vs : List V} {ds xs ys : List D} {X : Cx}

theorem rdl1 {ds : List D} (r : RdL ca K Hf H vs ds) : ∀ {d}, ds = [d] → ∃ v S, vs = [v] ∧ Rep ca K Hf H S v d := by
  intro d e; subst e
  cases r with
  | cons r1 r2 => cases r2; exact ⟨_, _, rfl, r1⟩
theorem rdl2 {ds : List D} (r : RdL ca K Hf H vs ds) : ∀ {d e}, ds = [d, e] → ∃ v w S S', vs = [v, w] ∧ Rep ca K Hf H S v d ∧ Rep ca K Hf H S' w e := by
  intro d e q; subst q
  cases r with
  | cons r1 r2 => cases r2 with
    | cons r3 r4 => cases r4; exact ⟨_, _, _, _, rfl, r1, r3⟩
/-- the items of what is read -/
theorem rep_items (hx : Ex Hf H) (r : Rep ca K Hf H S v d) (h : items d = some xs) : ∃ a vs T, v = .ref a ∧ (SqL K H a vs ∨ SqT K H a vs) ∧ RepL ca K Hf H T vs xs := by
  cases r with
  | lstF e r => cases h; exact ⟨_, _, Em, rfl, .inl (.inl (.inl (hx _ _ e))), r⟩
  | lstO s e r => cases h; exact ⟨_, _, _, rfl, .inl (.inl (.inl e)), r⟩
  | tup e r => cases h; exact ⟨_, _, Em, rfl, .inr (.inl (.inl (hx _ _ e))), r⟩
  | scr e =>
    cases h
    rename_i a0 ns0
    refine ⟨_, ns0.map V.int, Em, rfl, .inl ?_, ?_⟩
    · rcases e with e | e
      · refine .inl ?_
        rcases e with e | ⟨o, e⟩
        · exact .inl (hx _ _ e)
        · exact .inr ⟨o, hx _ _ e⟩
      · exact .inr e
    · clear e
      induction ns0 with
      | nil => exact .nil
      | cons n ns ih => exact .cons (S1 := Em) (S2 := Em) .int ih (fun _ q => q) (fun _ q => q) fun _ q _ => q
  | _ => cases h
theorem rep_lst {o : Bool} (hx : Ex Hf H) (r : Rep ca K Hf H S v (.lst o xs)) : ∃ a vs T, v = .ref a ∧ H a = some (.lst vs) ∧ RepL ca K Hf H T vs xs := by
  cases r with
  | lstF e r => exact ⟨_, _, Em, rfl, hx _ _ e, r⟩
  | lstO s e r => exact ⟨_, _, _, rfl, e, r⟩
theorem rep_tup (hx : Ex Hf H) (r : Rep ca K Hf H S v (.tup xs)) : ∃ a vs, v = .ref a ∧ H a = some (.tup vs) ∧ RepL ca K Hf H Em vs xs := by
  cases r with
  | tup e r => exact ⟨_, _, rfl, hx _ _ e, r⟩
theorem repL_mapInt : ∀ {S : Rg} (ns : List Int), RepL ca K Hf H S (ns.map V.int) (ns.map D.int)
  | _, [] => .nil
  | _, n :: ns => .cons (S1 := Em) (S2 := Em) .int (repL_mapInt ns) (fun _ q => q.elim) (fun _ q => q.elim) fun _ q _ => q
theorem rep_lstItems (hx : Ex Hf H) (r : Rep ca K Hf H S v d) (h : lstItems d = some xs) : ∃ a vs T, v = .ref a ∧ SqL K H a vs ∧ RepL ca K Hf H T vs xs := by
  cases r with
  | lstF e r => cases h; exact ⟨_, _, Em, rfl, .inl (.inl (hx _ _ e)), r⟩
  | lstO s e r => cases h; exact ⟨_, _, _, rfl, .inl (.inl e), r⟩
  | scr e =>
    cases h
    rename_i a0 ns0
    refine ⟨a0, ns0.map V.int, Em, rfl, ?_, repL_mapInt ns0⟩
    rcases e with e | e
    · refine .inl ?_
      rcases e with e | ⟨o, e⟩
      · exact .inl (hx _ _ e)
      · exact .inr ⟨o, hx _ _ e⟩
    · exact .inr e
  | _ => cases h
theorem repL_cold0 (r : RepL ca K Hf H S vs ds) : colds ds = true → RepL ca K Hf H Em vs ds := by
  induction ds generalizing vs S with
  | nil => intro _; cases r; exact .nil
  | cons d ds ih =>
    intro h
    cases r with
    | cons r1 r2 h1 h2 h3 =>
      rw [colds, List.all_cons, Bool.and_eq_true] at h
      have hc : hot d = false := by have := h.1; unfold cold at this; simpa using this
      exact .cons (S1 := Em) (S2 := Em) (r1.cold hc) (ih r2 h.2) (fun _ q => q.elim) (fun _ q => q.elim) fun _ q => q.elim
theorem repL_cold (r : RepL ca K Hf H S vs ds) (h : colds ds = true) : RepL ca K Hf H S1 vs ds := (repL_cold0 r h).mono fun _ q => q.elim
theorem repL_app0 (r : RepL ca K Hf H S vs xs) : ∀ {ws : List V} {S2 : Rg}, RepL ca K Hf H S2 ws ys → colds xs = true → colds ys = true → RepL ca K Hf H Em (vs ++ ws) (xs ++ ys) := by
  induction xs generalizing vs S with
  | nil => intro ws S2 r2 _ h; cases r; exact repL_cold r2 h
  | cons d ds ih =>
    intro ws S2 q h h'
    cases r with
    | cons r1 r2 h1 h2 h3 =>
      rw [colds, List.all_cons, Bool.and_eq_true] at h
      have hc : hot d = false := by have := h.1; unfold cold at this; simpa using this
      exact .cons (S1 := Em) (S2 := Em) (r1.cold hc) (ih r2 q h.2 h') (fun _ q => q.elim) (fun _ q => q.elim) fun _ q => q.elim
theorem repL_app (r : RepL ca K Hf H S vs xs) {ws : List V} {S2 : Rg} (r2 : RepL ca K Hf H S2 ws ys) (h : colds xs = true) (h2 : colds ys = true) : RepL ca K Hf H S1 (vs ++ ws) (xs ++ ys) := (repL_app0 r r2 h h2).mono fun _ q => q.elim
theorem repL_at (r : RepL ca K Hf H S vs xs) : ∀ {i : Nat} {d : D}, xs[i]? = some d → ∃ v T, vs[i]? = some v ∧ Rep ca K Hf H T v d ∧ (∀ b, T b → S b) := by
  induction xs generalizing vs S with
  | nil => intro i d h; simp at h
  | cons x xs ih =>
    intro i d h
    cases r with
    | cons r1 r2 h1 h2 h3 =>
      cases i with
      | zero => simp at h; subst h; exact ⟨_, _, rfl, r1, h1⟩
      | succ i =>
        obtain ⟨v, T, e, q, z⟩ := ih r2 (i := i) (d := d) (by simpa using h)
        exact ⟨v, T, by simpa using e, q, fun b y => h2 b (z b y)⟩
theorem repL_ints : ∀ {xs : List D} {vs : List V} {S : Rg} {ns : List Int}, RepL ca K Hf H S vs xs → asInts xs = some ns → vs = ns.map V.int
  | [], _, _, _, r, h => by cases r; cases h; rfl
  | d :: xs, _, _, ns, .cons r1 r2 _ _ _, h => by
    cases d with
    | int i =>
      rw [asInts] at h
      cases e : asInts xs with
      | none =>
        rw [e] at h
        cases h
      | some ns' =>
        rw [e] at h
        cases h
        rw [repL_ints r2 e, rep_int r1]
        rfl
    | _ => simp [asInts] at h
/-! ### arithmetic -/
theorem os_sub : OpS ca K (rl2 (rI0 fun i j => .int (i - j))) oSub := fun Hf H vs ds o Q hx rd h q => by
  match ds, h with
  | [.int i, .int j], h =>
    cases h
    obtain ⟨v, w, S, S', e1, r1, r2⟩ := rdl2 rd rfl
    subst e1
    exact ⟨i, j, rep_int r1, rep_int r2, q _ .int⟩
theorem os_div : OpS ca K (rl2 (rI CDivW fun i j => .int (i / j))) oDiv := fun Hf H vs ds o Q hx rd h q => by
  match ds, h with
  | [.int i, .int j], h =>
    rw [oDiv] at h
    split at h
    · rename_i c
      cases h
      obtain ⟨v, w, S, S', e1, r1, r2⟩ := rdl2 rd rfl
      subst e1
      exact ⟨i, j, rep_int r1, rep_int r2, c, q _ .int⟩
    · cases h
theorem os_mod : OpS ca K (rl2 (rI (fun _ j => 0 < j) fun i j => .int (i % j))) oMod := fun Hf H vs ds o Q hx rd h q => by
  match ds, h with
  | [.int i, .int j], h =>
    rw [oMod] at h
    split at h
    · rename_i c
      cases h
      obtain ⟨v, w, S, S', e1, r1, r2⟩ := rdl2 rd rfl
      subst e1
      exact ⟨i, j, rep_int r1, rep_int r2, c, q _ .int⟩
    · cases h
theorem os_pow : OpS ca K (rl2 (rI CPow fun i j => .int (i ^ j.toNat))) oPow := fun Hf H vs ds o Q hx rd h q => by
  match ds, h with
  | [.int i, .int j], h =>
    rw [oPow] at h
    split at h
    · rename_i c
      cases h
      obtain ⟨v, w, S, S', e1, r1, r2⟩ := rdl2 rd rfl
      subst e1
      exact ⟨i, j, rep_int r1, rep_int r2, c, q _ .int⟩
    · cases h
theorem f2_some {p : D → D → Option D} {ds : List D} {o : Out} (h : f2 p ds = some o) : ∃ x y z, ds = [x, y] ∧ p x y = some z ∧ o = .val z := by
  match ds, h with
  | [x, y], h =>
    dsimp only [f2] at h
    cases e : p x y with
    | none =>
      rw [e] at h
      cases h
    | some z => rw [e] at h; cases h; exact ⟨x, y, z, rfl, e, rfl⟩
  | [], h => cases h
  | [_], h => cases h
  | _ :: _ :: _ :: _, h =>
      cases h
theorem os_lt : OpS ca K (rl2 (rI0 fun i j => .bl (decide (i < j)))) (f2 pLt) := fun Hf H vs ds o Q hx rd h q => by
  obtain ⟨x, y, z, rfl, h1, rfl⟩ := f2_some h
  obtain ⟨v, w, S, S', e1, r1, r2⟩ := rdl2 rd rfl
  subst e1
  cases x <;> try (cases h1; done)
  cases y <;> try (cases h1; done)
  cases h1
  exact ⟨_, _, rep_int r1, rep_int r2, q _ .bl⟩
theorem os_le : OpS ca K (rl2 (rI0 fun i j => .bl (decide (i ≤ j)))) (f2 pLe) := fun Hf H vs ds o Q hx rd h q => by
  obtain ⟨x, y, z, rfl, h1, rfl⟩ := f2_some h
  obtain ⟨v, w, S, S', e1, r1, r2⟩ := rdl2 rd rfl
  subst e1
  cases x <;> try (cases h1; done)
  cases y <;> try (cases h1; done)
  cases h1
  exact ⟨_, _, rep_int r1, rep_int r2, q _ .bl⟩
theorem os_gt : OpS ca K (rl2 (rI0 fun i j => .bl (decide (j < i)))) (f2 pGt) := fun Hf H vs ds o Q hx rd h q => by
  obtain ⟨x, y, z, rfl, h1, rfl⟩ := f2_some h
  obtain ⟨v, w, S, S', e1, r1, r2⟩ := rdl2 rd rfl
  subst e1
  cases x <;> try (cases h1; done)
  cases y <;> try (cases h1; done)
  cases h1
  exact ⟨_, _, rep_int r1, rep_int r2, q _ .bl⟩
theorem os_ge : OpS ca K (rl2 (rI0 fun i j => .bl (decide (j ≤ i)))) (f2 pGe) := fun Hf H vs ds o Q hx rd h q => by
  obtain ⟨x, y, z, rfl, h1, rfl⟩ := f2_some h
  obtain ⟨v, w, S, S', e1, r1, r2⟩ := rdl2 rd rfl
  subst e1
  cases x <;> try (cases h1; done)
  cases y <;> try (cases h1; done)
  cases h1
  exact ⟨_, _, rep_int r1, rep_int r2, q _ .bl⟩
/-! ### + and * of several kinds -/
def rAddA : L2.R2 := fun x y H Q => rI0 (fun i j => .int (i + j)) x y H Q ∨ rCat x y H Q ∨ (∃ i j, x = .str i ∧ y = .str j ∧ i.length + j.length ≤ sizeLine ∧ Q (.str (i ++ j)) H)
theorem op_addA : OpR X (binaryOp .Add) rAddA := OpR.or op_add (OpR.or op_cat op_add_str)
theorem sz_eq : (16777216 : Nat) = sizeLine := by rw [sizeLine_eq]
theorem newLc_some {xs : List D} {o : Out} (h : newLc xs = some o) : o = .newL xs ∧ colds xs = true ∧ xs.length ≤ sizeLine := by
  unfold newLc at h
  split at h
  · rename_i c
    rw [Bool.and_eq_true, decide_eq_true_eq] at c
    cases h
    exact ⟨rfl, c.1, by rw [← sz_eq]; exact c.2⟩
  · cases h
theorem os_add : OpS ca K (rl2 rAddA) oAdd := fun Hf H vs ds o Q hx rd h q => by
  match ds, h with
  | [.int i, .int j], h =>
    cases h
    obtain ⟨v, w, S, S', e1, r1, r2⟩ := rdl2 rd rfl
    subst e1
    exact .inl ⟨i, j, rep_int r1, rep_int r2, q _ .int⟩
  | [.lst o1 xs, .lst o2 ys], h =>
    obtain ⟨v, w, S, S', e1, r1, r2⟩ := rdl2 rd rfl
    subst e1
    obtain ⟨rfl, hc, hl⟩ := newLc_some h
    obtain ⟨a, vs, T, rfl, e2, r3⟩ := rep_lst hx r1
    obtain ⟨b, ws, T', rfl, e4, r4⟩ := rep_lst hx r2
    have hc' : colds xs = true ∧ colds ys = true := by
      unfold colds at hc ⊢
      rw [List.all_append, Bool.and_eq_true] at hc; exact hc
    refine .inr (.inl ⟨a, b, vs, ws, rfl, rfl, e2, e4, ?_, fun p hp => q p _ hp (repL_app r3 r4 hc'.1 hc'.2)⟩)
    rw [r3.length, r4.length]
    rw [List.length_append] at hl; exact hl
  | [.str x, .str y], h =>
    rw [oAdd] at h
    split at h
    · rename_i c
      cases h
      obtain ⟨v, w, S, S', e1, r1, r2⟩ := rdl2 rd rfl
      subst e1
      exact .inr (.inr ⟨x, y, rep_str r1, rep_str r2, by rw [← sz_eq]; exact c, q _ .str⟩)
    · cases h
def rMulA : L2.R2 := fun x y H Q => rI CMul (fun i j => .int (i * j)) x y H Q ∨ rRep x y H Q
theorem op_mulA : OpR X (binaryOp .Mult) rMulA := OpR.or op_mul op_rep
theorem repL_rep (r : RepL ca K Hf H S vs xs) (hc : colds xs = true) : ∀ k : Nat, RepL ca K Hf H S1 (List.replicate k vs).flatten (List.replicate k xs).flatten ∧ colds (List.replicate k xs).flatten = true
  | 0 => ⟨.nil, rfl⟩
  | k + 1 => by
    obtain ⟨h1, h2⟩ := repL_rep r hc k
    rw [List.replicate_succ, List.replicate_succ,
        List.flatten_cons, List.flatten_cons]
    refine ⟨repL_app r h1 hc h2, ?_⟩
    unfold colds at h2 hc ⊢
    rw [List.all_append, Bool.and_eq_true]; exact ⟨hc, h2⟩
theorem os_mul : OpS ca K (rl2 rMulA) oMul := fun Hf H vs ds o Q hx rd h q => by
  match ds, h with
  | [.int i, .int j], h =>
    rw [oMul] at h
    split at h
    · rename_i c
      cases h
      obtain ⟨v, w, S, S', e1, r1, r2⟩ := rdl2 rd rfl
      subst e1
      exact .inl ⟨i, j, rep_int r1, rep_int r2, c, q _ .int⟩
    · cases h
  | [.lst o1 xs, .int k], h =>
    rw [oMul] at h
    split at h
    · rename_i c
      rw [Bool.and_eq_true, decide_eq_true_eq] at c
      cases h
      obtain ⟨v, w, S, S', e1, r1, r2⟩ := rdl2 rd rfl
      subst e1
      obtain ⟨a, vs, T, rfl, e2, r3⟩ := rep_lst hx r1
      refine .inr ⟨a, k, vs, rfl, rep_int r2, e2, c.2.1, c.2.2.1, ?_, fun p hp => q p _ hp (repL_rep r3 c.1 _).1⟩
      rw [r3.length, ← sz_eq]; exact c.2.2.2
    · cases h
/-! ### ==, != at any depth; is None; in -/
theorem dpAll_ints : ∀ ns : List Int, DpAll K H (ns.map V.int) (ns.map PyData.int)
  | [] => .nil
  | n :: ns => .cons (.int n) (dpAll_ints ns)
mutual
theorem rep_dp (hx : Ex Hf H) : ∀ {S : Rg} {v : V} {d : D}, Rep ca K Hf H S v d → (toPy d).canLay0 = true → Dp K H v (toPy d)
  | _, _, _, .non, _ => by rw [toPy]; exact .non
  | _, _, _, .bl, _ => by rw [toPy]; exact .bl _
  | _, _, _, .int, _ => by rw [toPy]; exact .int _
  | _, _, _, .str, _ => by rw [toPy]; exact .str _
  | _, _, _, .scr (xs := ns) h, _ => by
      rw [toPy]
      refine .lst (xs := ns.map V.int) ?_ ?_
      · rcases h with h | h
        · refine .inl ?_
          rcases h with h | ⟨o, h⟩
          · exact .inl (hx _ _ h)
          · exact .inr ⟨o, hx _ _ h⟩
        · exact .inr h
      · exact dpAll_ints ns
  | _, _, _, .cls, h => by rw [toPy] at h; exact absurd h (by decide)
  | _, _, _, .ty, h => by rw [toPy] at h; exact absurd h (by decide)
  | _, _, _, .lstF e r, h => by
      rw [toPy] at h ⊢
      rw [PySem.PyData.canLay0] at h
      exact .lst (.inl (.inl (hx _ _ e))) (repL_dp hx r h)
  | _, _, _, .lstO s e r, h => by
      rw [toPy] at h ⊢
      rw [PySem.PyData.canLay0] at h
      exact .lst (.inl (.inl e)) (repL_dp hx r h)
  | _, _, _, .tup e r, h => by
      rw [toPy] at h ⊢
      rw [PySem.PyData.canLay0] at h
      exact .tup (.inl (.inl (hx _ _ e))) (repL_dp hx r h)
  | _, _, _, .insF _ _ _, h => by rw [toPy] at h; exact absurd h (by decide)
  | _, _, _, .insO _ _ _ _, h => by rw [toPy] at h; exact absurd h (by decide)
  | _, _, _, .dicF _ _ _, h => by rw [toPy] at h; exact absurd h (by decide)
  | _, _, _, .dicO _ _ _ _, h => by rw [toPy] at h; exact absurd h (by decide)
  | _, _, _, .dctF _ _ _, h => by rw [toPy] at h; exact absurd h (by decide)
  | _, _, _, .dctO _ _ _ _, h => by rw [toPy] at h; exact absurd h (by decide)
theorem repL_dp (hx : Ex Hf H) : ∀ {S : Rg} {vs : List V} {ds : List D}, RepL ca K Hf H S vs ds → PySem.PyData.canLayAll0 (toPyL ds) = true → DpAll K H vs (toPyL ds)
  | _, _, _, .nil, _ => by rw [toPyL]; exact .nil
  | _, _, _, .cons r1 r2 _ _ _, h => by
      rw [toPyL] at h ⊢
      rw [PySem.PyData.canLayAll0, Bool.and_eq_true] at h
      exact .cons (rep_dp hx r1 h.1) (repL_dp hx r2 h.2)
end
theorem shaped_lay {p : PySem.PyData} (h : PySem.SeqAt.shaped p = true) : p.canLay0 = true := by
  unfold PySem.SeqAt.shaped at h
  rw [Bool.and_eq_true] at h; exact h.1
theorem os_eq : OpS ca K (rl2 (rEqD K)) (f2 pEq) := fun Hf H vs ds o Q hx rd h q => by
  obtain ⟨x, y, z, rfl, h1, rfl⟩ := f2_some h
  unfold pEq at h1
  split at h1
  · rename_i c
    rw [Bool.and_eq_true] at c
    cases h1
    obtain ⟨v, w, S, S', e1, r1, r2⟩ := rdl2 rd rfl
    subst e1
    exact ⟨_, _, rep_dp hx r1 (shaped_lay c.1), rep_dp hx r2 (shaped_lay c.2), c.1, c.2, q _ .bl⟩
  · cases h1
theorem os_ne : OpS ca K (rl2 (rNeD K)) (f2 pNe) := fun Hf H vs ds o Q hx rd h q => by
  obtain ⟨x, y, z, rfl, h1, rfl⟩ := f2_some h
  unfold pNe at h1
  split at h1
  · rename_i c
    rw [Bool.and_eq_true] at c
    cases h1
    obtain ⟨v, w, S, S', e1, r1, r2⟩ := rdl2 rd rfl
    subst e1
    exact ⟨_, _, rep_dp hx r1 (shaped_lay c.1), rep_dp hx r2 (shaped_lay c.2), c.1, c.2, q _ .bl⟩
  · cases h1
theorem rep_flat (r : Rep ca K Hf H S v d) (h : flat d = true) : flatV v = true := by cases r <;> first | rfl | cases h
theorem rep_eqF {w : V} {e : D} (r : Rep ca K Hf H S v d) (r2 : Rep ca K Hf H S1 w e) (h : flat d = true) (h2 : flat e = true) : eqV v w = eqF d e := by
  cases r <;> first | (cases h; done) | (cases r2 <;> first | (cases h2; done) | rfl)
/-! ### subscripts, len, built-ins -/
def rIxA (K : PySem.W.Frag) : L2.R2 := fun x y H Q => rIxL K x y H Q ∨ rIxT K x y H Q
theorem ix_A : IxR X (rIxA X.K) := IxR.or ix_list ix_tup
theorem atI_rep {i : Int} (r : RepL ca K Hf H S vs xs) (h : atI xs i = some d) : ∃ v T, atI vs i = some v ∧ Rep ca K Hf H T v d := by
  obtain ⟨j, h1, h2, h3, h4, h5⟩ := atI_get h
  unfold atI at h ⊢
  rw [← r.length] at h
  cases e : ixN vs.length i with
  | none =>
    rw [e] at h
    cases h
  | some k =>
    rw [e] at h
    obtain ⟨v, T, e2, r2, _⟩ := repL_at r (i := k) (d := d) h
    exact ⟨v, T, e2, r2⟩
theorem os_ix : OpS ca K (rl2 (rIxA K)) oIx := fun Hf H vs ds o Q hx rd h q => by
  match ds, h with
  | [x, .int i], h =>
    dsimp only [oIx] at h
    split at h
    · rename_i xs ei
      split at h
      · rename_i dd ea
        split at h
        · rename_i hc
          cases h
          obtain ⟨v, w, S, S', e1, r1, r2⟩ := rdl2 rd rfl
          subst e1
          obtain ⟨a, vs, T, rfl, e2, r3⟩ := rep_items hx r1 ei
          obtain ⟨v', T', e3, r4⟩ := atI_rep r3 ea
          have hc' : hot dd = false := by unfold cold at hc; simpa using hc
          have q' := q v' (r4.cold hc')
          rcases e2 with e2 | e2
          · exact .inl ⟨a, vs, i, v', rfl, rep_int r2, e2, e3, q'⟩
          · exact .inr ⟨a, vs, i, v', rfl, rep_int r2, e2, e3, q'⟩
        · cases h
      · cases h
    · cases h
theorem os_len : OpS ca K (fun xs H Q => ∃ p ys, xs = [.ref p] ∧ (SqL K H p ys ∨ SqT K H p ys) ∧ Q (.int ys.length) H) oLen := fun Hf H vs ds o Q hx rd h q => by
  match ds, h with
  | [x], h =>
    dsimp only [oLen] at h
    cases ei : items x with
    | none => rw [ei] at h; cases h
    | some xs =>
      rw [ei] at h
      cases h
      obtain ⟨v, S, e1, r1⟩ := rdl1 rd rfl
      subst e1
      obtain ⟨a, vs, T, rfl, e2, r3⟩ := rep_items hx r1 ei
      refine ⟨a, vs, rfl, e2, ?_⟩
      rw [r3.length]
      exact q _ .int
theorem os_abs : OpS ca K (fun xs H Q => ∃ i, xs = [.int i] ∧ Q (.int (if i < 0 then -i else i)) H) oAbs := fun Hf H vs ds o Q hx rd h q => by
  match ds, h with
  | [.int i], h =>
    cases h
    obtain ⟨v, S, e1, r1⟩ := rdl1 rd rfl
    subst e1
    rw [rep_int r1]
    exact ⟨i, rfl, q _ .int⟩
theorem os_max2 : OpS ca K (fun xs H Q => ∃ i j, xs = [.int i, .int j] ∧ Q (.int (if j > i then j else i)) H) oMax2 := fun Hf H vs ds o Q hx rd h q => by
  match ds, h with
  | [.int i, .int j], h =>
    cases h
    obtain ⟨v, w, S, S', e1, r1, r2⟩ := rdl2 rd rfl
    subst e1
    rw [rep_int r1, rep_int r2]
    exact ⟨i, j, rfl, q _ .int⟩
theorem os_min2 : OpS ca K (fun xs H Q => ∃ i j, xs = [.int i, .int j] ∧ Q (.int (if j < i then j else i)) H) oMin2 := fun Hf H vs ds o Q hx rd h q => by
  match ds, h with
  | [.int i, .int j], h =>
    cases h
    obtain ⟨v, w, S, S', e1, r1, r2⟩ := rdl2 rd rfl
    subst e1
    rw [rep_int r1, rep_int r2]
    exact ⟨i, j, rfl, q _ .int⟩
theorem os_int : OpS ca K (fun xs H Q => (∃ i, xs = [.int i] ∧ Q (.int i) H) ∨ ∃ k, xs = [.bl k] ∧ Q (.int (if k then 1 else 0)) H) oInt := fun Hf H vs ds o Q hx rd h q => by
  match ds, h with
  | [.int i], h =>
    cases h
    obtain ⟨v, S, e1, r1⟩ := rdl1 rd rfl
    subst e1
    rw [rep_int r1]
    exact .inl ⟨i, rfl, q _ .int⟩
  | [.bl i], h =>
    cases h
    obtain ⟨v, S, e1, r1⟩ := rdl1 rd rfl
    subst e1
    rw [rep_bl r1]
    exact .inr ⟨i, rfl, q _ .int⟩
theorem os_sum : OpS ca K (rSum K) oSum := fun Hf H vs ds o Q hx rd h q => by
  match ds, h with
  | [x], h =>
    dsimp only [oSum] at h
    cases ei : lstItems x with
    | none => rw [ei] at h; cases h
    | some xs =>
      rw [ei] at h
      cases en : asInts xs with
      | none => simp [en] at h
      | some ns =>
        simp only [Option.bind_some, en, Option.map_some, Option.some.injEq] at h
        subst h
        obtain ⟨v, S, e1, r1⟩ := rdl1 rd rfl
        subst e1
        obtain ⟨a, vs, T, rfl, e2, r3⟩ := rep_lstItems hx r1 ei
        rw [repL_ints r3 en] at e2
        exact ⟨a, ns, rfl, e2, q _ .int⟩
theorem os_list : OpS ca K (fun xs H Q => ∃ p ys, xs = [.ref p] ∧ (SqL K H p ys ∨ SqT K H p ys) ∧ ∀ l, H l = none → Q (.ref l) (upd H l (.lst ys))) oList := fun Hf H vs ds o Q hx rd h q => by
  match ds, h with
  | [x], h =>
    dsimp only [oList] at h
    split at h
    · rename_i xs ei
      obtain ⟨rfl, hc, hl⟩ := newLc_some h
      obtain ⟨v, S, e1, r1⟩ := rdl1 rd rfl
      subst e1
      obtain ⟨a, vs, T, rfl, e2, r3⟩ := rep_items hx r1 ei
      exact ⟨a, vs, rfl, e2, fun l hl => q l vs hl (repL_cold r3 hc)⟩
    · cases h
theorem os_tuple : OpS ca K (fun xs H Q => ∃ p ys, xs = [.ref p] ∧ ((SqL K H p ys ∧ ∀ l, H l = none → Q (.ref l) (upd H l (.tup ys))) ∨ (SqT K H p ys ∧ Q (.ref p) H))) oTuple := fun Hf H vs ds o Q hx rd h q => by
  match ds, h with
  | [.lst o xs], h =>
    dsimp only [oTuple] at h
    split at h
    · rename_i c
      rw [Bool.and_eq_true] at c
      cases h
      obtain ⟨v, S, e1, r1⟩ := rdl1 rd rfl
      subst e1
      obtain ⟨a, vs, T, rfl, e2, r3⟩ := rep_lst hx r1
      exact ⟨a, vs, rfl, .inl ⟨.inl (.inl e2), fun l hl => q l vs hl (repL_cold r3 c.1)⟩⟩
    · cases h
  | [.tup xs], h =>
    cases h
    obtain ⟨v, S, e1, r1⟩ := rdl1 rd rfl
    subst e1
    have r1' := r1.cold (S' := Em) rfl
    obtain ⟨a, vs, rfl, e2, r3⟩ := rep_tup hx r1
    exact ⟨a, vs, rfl, .inr ⟨.inl (.inl e2), q _ r1'⟩⟩
/-! ### isinstance with a built-in type -/
theorem rep_ty (hx : Ex Hf H) {n : String} (r : Rep ca K Hf H S v d) (h : tyName d = some n) (hs : ∀ xs, d ≠ .scr xs) : TyX K H v (.type n) := by
  cases r with
  | non => cases h; exact .base .non
  | bl => cases h; exact .base (.bl _)
  | int => cases h; exact .base (.int _)
  | str => cases h; exact .base (.str _)
  | scr e => exact absurd rfl (hs _)
  | cls => cases h
  | ty => cases h
  | lstF e r => cases h; exact .base (.lst (hx _ _ e))
  | lstO s e r => cases h; exact .base (.lst e)
  | tup e r => cases h; exact .base (.tup (hx _ _ e))
  | insF _ _ _ => cases h
  | insO _ _ _ _ => cases h
  | dicF e _ _ => cases h; exact .base (.dK (hx _ _ e))
  | dicO s e _ _ => cases h; exact .base (.dK e)
  | dctF _ _ _ => cases h
  | dctO _ _ _ _ => cases h
  | xc _ _ _ _ => cases h
end
end DL

/-! DL6: targets, statements, loops. -/
namespace DL
open PySem L2 PyProof.Rows

/-! ### more pure meanings -/
/-- several targets of a tuple -/
def gTupM : List MG → List D → Sl → Res Unit
  | [], [], st => .ok () st
  | g :: gs, d :: ds, st => (g d st).bind fun _ st1 => gTupM gs ds st1
  | _, _, _ => .fail
def gT (gs : List MG) : MG := fun d st => match d with
  | .tup ds => gTupM gs ds st
  | _ => .fail
/-- xs[i] = d, xs the slot i0's own list -/
def gIx (i0 : Nat) (mi : ME) : MG := fun d st => if cold d && (getS st i0).isSome then (mi st).bind fun k st1 => (match k with
  | .int k => match getS st1 i0 with
    | some (.lst true xs) => match L2.ixN xs.length k with
      | some j => .ok () (st1.set i0 (some (.lst true (xs.set j d))))
      | none => .fail
    | _ => .fail
  | _ => .fail) else .fail
def sPar (i j : Nat) (ms : MA) : MS := fun st => (ms st).toS fun ds st1 => match ds with
  | [x, y] => .next ((st1.set i (some x)).set j (some y))
  | _ => .fail
/-- x op= e at a slot that holds no owned thing -/
def sAug (i : Nat) (f : List D → Option Out) (m : ME) : MS := fun st => match getS st i with
  | some x => if cold x then (m st).toS fun y st1 => (match f [x, y] with
    | some (.val z) => .next (st1.set i (some z))
    | _ => .fail) else .fail
  | none => .fail
/-- a for -/
def sFor (src : Sl → Res (List D)) (g : MG) (body : MS) : MS := fun st => (src st).toS fun ds st1 => forD g body ds st1
/-- what is walked -/
def iE (m : ME) (p : D → Option (List D)) : Sl → Res (List D) := fun st => (m st).bind fun d st1 => match p d with
  | some ds => if colds ds then .ok ds st1 else .fail
  | none => .fail
def rangeD (lo : Int) (n : Nat) : List D := (List.range n).map fun i => D.int (lo + (i : Nat))
def rangeC (lo : Int) (c : Int) (n : Nat) : List D := (List.range n).map fun i => D.int (lo + (i : Nat) * c)
def small62 (i : Int) : Bool := decide (-(2 ^ 62) ≤ i ∧ i < 2 ^ 62)
section
variable {ca : Nat → Addr} {K : PySem.W.Frag} {Hf H Hf1 H1 Hf2 H2 : Hp} {S S1 S2 P : Rg} {R R1 R2 : Nat → Rg} {pp qq : Prop} {σ σ' : L2.St} {st st' : Sl} {v : V} {d : D} {vs : List V} {ds : List D} {X : Cx} {L : List Nat}

theorem Lk.set {i : Nat} {o : Option V} (h : i ∉ L) : Lk L σ (σ.set i o) := ⟨List.length_set, fun j hj => by
  rw [List.getElem?_set_ne (fun e => h (by rw [e]; exact hj))]⟩

/-! ### targets -/
/-- the pending value goes to the slot i -/
theorem PR.store (i : Nat) (p : PR ca K Hf H P (Rep ca K Hf H P v d) R σ st) : PR ca K Hf H Em True (fun j b => if j = i then P b else R j b) (σ.set i (some v)) (st.set i (some d)) where
  pend := trivial
  len := by rw [List.length_set, List.length_set]; exact p.len
  at_ := fun j d' e => by
    rcases set_get e with ⟨q1, q2⟩ | ⟨q1, q2⟩
    · subst q1
      cases q2
      have := getS_lt e
      rw [List.length_set, p.len] at this
      exact ⟨v, by simp [this], by simpa using p.pend⟩
    · obtain ⟨v', e2, r⟩ := p.at_ j d' q2
      refine ⟨v', by rw [List.getElem?_set_ne q1]; exact e2, ?_⟩
      rw [show (fun b => if j = i then P b else R j b) = R j from by funext b; rw [if_neg (Ne.symm q1)]]
      exact r
  dj := fun j k b h1 h2 => by
    split at h1 <;> split at h2
    · rename_i a c; exact a.trans c.symm
    · exact (p.dp k b h1 h2).elim
    · exact (p.dp j b h2 h1).elim
    · exact p.dj j k b h1 h2
  dp := fun _ _ q => q.elim
  w := p.w.mono fun b q => by
    rcases q with q | ⟨j, q⟩
    · exact q.elim
    · split at q
      · exact .inl q
      · exact .inr ⟨j, q⟩
theorem store_tr (i : Nat) : Tr (jn P R) Hf H (jn Em fun j b => if j = i then P b else R j b) Hf H := Tr.refl fun b q => by
  rcases q with q | ⟨j, q⟩
  · exact q.elim
  · split at q
    · exact .inl q
    · exact .inr ⟨j, q⟩
theorem cg_name {e : Expr} {i : Nat} (hg : PG X e (gName i)) (hi : i ∉ L) : CG ca X L e (gName i) (gN i) :=
  ⟨hg, fun Hf H P R σ st v d Q p h => h Hf H _ _ (store_tr i) (p.store i) (Lk.set hi)⟩
def CGs (ca : Nat → Addr) (X : Cx) (L : List Nat) (es : List Expr) (t : TGs) (gs : List MG) : Prop := PGs X es t ∧ ∀ (ds : List D) (Hf H : Hp) (R : Nat → Rg) (σ : L2.St) (st : Sl) (vs : List V) (Q : L2.St → Hp → Prop), PR ca X.K Hf H Em (RepL ca X.K Hf H Em vs ds) R σ st →
  (match gTupM gs ds st with
    | .ok _ st' => ∀ Hf' H' R' σ', Tr (jn Em R) Hf H (jn Em R') Hf' H' → PR ca X.K Hf' H' Em True R' σ' st' → Lk L σ σ' → Q σ' H'
    | _ => False) → t vs σ H Q
theorem cgs_nil : CGs ca X L [] gNil [] := ⟨pgs_nil, fun ds Hf H R σ st vs Q p h => by
  cases ds with
  | nil =>
    have r := p.pend
    cases r
    exact ⟨rfl, h Hf H R σ (Tr.refl fun _ q => q) p.drop (Lk.refl)⟩
  | cons d ds => exact h.elim⟩
theorem repL_em {ds : List D} {vs : List V} (r : RepL ca K Hf H Em vs ds) (hx : Ex Hf Hf1) : RepL ca K Hf1 H1 Em vs ds := r.keep hx fun _ q => q.elim
theorem cgs_cons {e : Expr} {es : List Expr} {t : TG} {u : TGs} {g : MG} {gs : List MG} (hg : CG ca X L e t g) (hgs : CGs ca X L es u gs)
    (hs : (assignEach (e :: es) X.env).map (·.2) = assign e X.env :: (assignEach es X.env).map (·.2)) : CGs ca X L (e :: es) (gCons t u) (g :: gs) := ⟨pgs_cons hg.1 hgs.1 hs, fun ds Hf H R σ st vs Q p h => by
  cases ds with
  | nil => exact h.elim
  | cons d ds =>
    have r := p.pend
    cases r with
    | cons r1 r2 h1 h2 h3 =>
      rename_i v vs
      have r1' := r1.mono h1
      have r2' := r2.mono h2
      refine ⟨v, vs, rfl, hg.2 Hf H Em R σ st v d _ (p.drop.put r1') ?_⟩
      rw [gTupM] at h
      cases eg : g d st with
      | fail => rw [eg] at h; exact h
      | exc x st1 => rw [eg] at h; exact h
      | ok a st1 =>
        rw [eg] at h
        intro Hf1 H1 R1 σ1 t1 p1 k1
        refine hgs.2 ds Hf1 H1 R1 σ1 st1 vs Q (p1.imp fun _ => repL_em r2' t1.fx) ?_
        have h' : (match gTupM gs ds st1 with
          | .ok _ st' => ∀ Hf' H' R' σ', Tr (jn Em R) Hf H (jn Em R') Hf' H' → PR ca X.K Hf' H' Em True R' σ' st' → Lk L σ σ' → Q σ' H'
          | _ => False) := h
        cases eq : gTupM gs ds st1 with
        | fail => rw [eq] at h'; exact h'
        | exc x st2 => rw [eq] at h'; exact h'
        | ok a st2 =>
          rw [eq] at h'
          exact fun Hf2 H2 R2 σ2 t2 p2 k2 => h' Hf2 H2 R2 σ2 (t1.trans t2) p2 (Lk.trans k1 k2)⟩
theorem cg_tup {es : List Expr} {k : Nat} {pos : Pos} {t : TGs} {gs : List MG} {n : Nat} (hc : X.calm = true) (h : CGs ca X L es t gs) (hl : gs.length = n)
    (hn : (assignEach es X.env).length = n := by rfl) (hst : (assignEach es X.env).findIdx? (·.1) = none := by rfl) : CG ca X L (.Tuple es k pos) (gTup X.K n t) (gT gs) :=
  ⟨pg_tup hc h.1 hn hst, fun Hf H P R σ st v d Q p hq => by
    cases d with
    | tup ds =>
      have r := p.pend
      obtain ⟨a, vs, rfl, e, r3⟩ := rep_tup p.w.ex r
      have hle : ∀ (gs : List MG) (ds : List D) (st : Sl) (a : Unit) (st1 : Sl), gTupM gs ds st = .ok a st1 → gs.length = ds.length := by
        intro gs
        induction gs with
        | nil => intro ds st a st1 e; cases ds with
          | nil => rfl
          | cons _ _ => cases e
        | cons g gs ih =>
          intro ds st a st1 e
          cases ds with
          | nil => cases e
          | cons d ds =>
            rw [gTupM] at e
            cases eg : g d st with
            | ok a' st' => rw [eg] at e; simp [ih ds st' a st1 e]
            | exc _ _ => rw [eg] at e; cases e
            | fail => rw [eg] at e; cases e
      have hq' : (match gTupM gs ds st with
        | .ok _ st' => ∀ Hf' H' R' σ', Tr (jn P R) Hf H (jn Em R') Hf' H' → PR ca X.K Hf' H' Em True R' σ' st' → Lk L σ σ' → Q σ' H'
        | _ => False) := hq
      cases eq : gTupM gs ds st with
      | fail => rw [eq] at hq'; exact hq'.elim
      | exc x st2 => rw [eq] at hq'; exact hq'.elim
      | ok u st2 =>
        rw [eq] at hq'
        refine ⟨a, vs, rfl, .inl (.inl e), ?_, h.2 ds Hf H R σ st vs Q (p.drop.imp fun _ => r3) ?_⟩
        · rw [r3.length, ← hle gs ds st u st2 eq, hl]
        · rw [eq]
          exact fun Hf2 H2 R2 σ2 t2 p2 k2 => hq' Hf2 H2 R2 σ2 (t2.more fun b q => q.elim (fun q => q.elim) .inr) p2 k2
    | _ => exact hq.elim⟩
/-- the region of a slot's own list -/
theorem PR.ownList {i : Nat} {xs : List D} (p : PR ca K Hf H Em True R σ st) (h : getS st i = some (.lst true xs)) : ∃ a vs, σ[i]? = some (some (.ref a)) ∧ R i a ∧ H a = some (.lst vs) ∧ RepL ca K Hf H (fun b => R i b ∧ b ≠ a) vs xs := by
  obtain ⟨v, e, r⟩ := p.at_ i _ h
  cases r with
  | lstO s e2 r => exact ⟨_, _, e, s, e2, r⟩
/-- a slot's own list is written: its items' region is as it was -/
theorem PR.write {i : Nat} {xs ys : List D} {a : Addr} {ws : List V} (p : PR ca K Hf H Em True R σ st) (h : getS st i = some (.lst true xs)) (hv : σ[i]? = some (some (.ref a))) (ha : R i a)
    (r : RepL ca K Hf H (fun b => R i b ∧ b ≠ a) ws ys) : PR ca K Hf (upd H a (.lst ws)) Em True R σ (st.set i (some (.lst true ys))) ∧ Tr (jn Em R) Hf H (jn Em R) Hf (upd H a (.lst ws)) := by
  have hk : ∀ b o, b ≠ a → H b = some o → upd H a (.lst ws) b = some o := fun b o n e => by rw [upd_ne n]; exact e
  have hf : Hf a = none := p.w.nf a (.inr ⟨i, ha⟩)
  refine ⟨⟨trivial, ?_, fun j d e => ?_, p.dj, fun _ _ q => q.elim, ⟨fun b o e => ?_, fun b q => ?_, p.w.nf⟩⟩, ⟨fun _ _ e => e, fun b o e n => hk b o (fun z => n (.inr ⟨i, z ▸ ha⟩)) e, fun b q => .inl q, fun _ _ e => .inl e⟩⟩
  · rw [List.length_set]; exact p.len
  · rcases set_get e with ⟨q1, q2⟩ | ⟨q1, q2⟩
    · subst q1
      cases q2
      exact ⟨_, hv, .lstO ha upd_same (r.keep (fun _ _ e => e) fun b q o e => hk b o q.2 e)⟩
    · obtain ⟨v', e2, r2⟩ := p.at_ j d q2
      exact ⟨v', e2, r2.keep (fun _ _ e => e) fun b q o e => hk b o (fun z => q1 (p.dj i j a ha (z ▸ q))) e⟩
  · have := p.w.ex b o e
    exact hk b o (fun z => by subst z; rw [hf] at e; cases e) this
  · obtain ⟨o, e⟩ := p.w.dm b q
    by_cases z : b = a
    · subst z; exact ⟨_, upd_same⟩
    · exact ⟨o, hk b o z e⟩
theorem repL_set {S T : Rg} {w : V} {e : D} : ∀ {xs : List D} {vs : List V} {S : Rg} (j : Nat), RepL ca K Hf H S vs xs → Rep ca K Hf H Em w e → RepL ca K Hf H S (vs.set j w) (xs.set j e)
  | [], _, _, _, r, _ => by
    cases r
    exact .nil
  | x :: xs, _, _, 0, .cons r1 r2 h1 h2 h3, q => .cons (S1 := Em) q r2 (fun _ z => z.elim) h2 fun _ z _ => z
  | x :: xs, _, _, j + 1, .cons r1 r2 h1 h2 h3, q => .cons r1 (repL_set (S := Em) (T := Em) j r2 q) h1 h2 h3
theorem cg_ix {o i : Expr} {i0 : Nat} {mi : ME} {pos : Pos} (ho : PE X o (tVar i0)) (hi : CE ca X i mi)
    (ha : ∀ v, assign (.Subscript
        o i pos) X.env v = (do
      let ov ← holding [v] (eval
          o X.env)
      let iv ← holding [v,
          ov] (eval i X.env)
      standAt pos
      holding [v, ov,
          iv] (setItem ov iv v)
      release [v, ov, iv] [])) : CG ca X L (.Subscript o i pos) (gSub (tVar i0) (We X i) rSetL) (gIx i0 mi) :=
  ⟨pg_sub ho (we_pe X i) set_list ha, fun Hf H P R σ st v d Q p h => by
    unfold gIx at h
    by_cases hc0 : (cold d && (getS st i0).isSome) = true
    · rw [if_pos hc0] at h
      rw [Bool.and_eq_true] at hc0
      have hc := hc0.1
      have hd : hot d = false := by unfold cold at hc; simpa using hc
      have rd := p.pend.cold (S' := Em) hd
      cases em : mi st with
      | fail => rw [em] at h; exact h.elim
      | exc x st1 => rw [em] at h; exact h.elim
      | ok k st1 =>
        rw [em] at h
        cases k with
        | int k =>
          dsimp only [Res.bind] at h
          cases eg : getS st1 i0 with
          | none => rw [eg] at h; exact h.elim
          | some d1 =>
            rw [eg] at h
            cases d1 with
            | lst ow xs =>
              cases ow with
              | false => exact h.elim
              | true =>
                dsimp only at h
                cases ej : ixN xs.length k with
                | none => rw [ej] at h; exact h.elim
                | some j =>
                  rw [ej] at h
                  dsimp only at h
                  -- the list's own value stands in its slot already
                  obtain ⟨d0, e0⟩ := Option.isSome_iff_exists.mp hc0.2
                  obtain ⟨x, hx, _⟩ := p.at_ i0 d0 e0
                  refine ⟨x, hx, hi Hf H R σ st _ p.drop ?_⟩
                  rw [em]
                  intro Hf1 H1 P1 R1 v1 t1 p1
                  obtain ⟨a, vs, e1, ra, e2, r2⟩ := p1.drop.ownList eg
                  rw [hx] at e1
                  cases e1
                  refine ⟨a, vs, k, j, rfl, rep_int p1.pend, e2, by rw [r2.length]; exact ej, ?_⟩
                  obtain ⟨p2, t2⟩ := p1.drop.write eg hx ra (repL_set (S := Em) (T := Em) j r2 (rd.keep t1.fx fun _ q => q.elim))
                  exact h Hf1 _ R1 σ (((less0 t1).trans t2).more fun b q => q.elim (fun q => q.elim) .inr) p2 Lk.refl
            | _ => exact h.elim
        | _ => exact h.elim
    · rw [if_neg hc0] at h; exact h.elim⟩

/-! ### statements -/
theorem css_nil : CSs ca X L [] sNext := fun Hf H R σ st E p h => wss_of pss_nil (h Hf H R σ (Tr.refl fun _ q => q) p Lk.refl)
theorem css_cons {s : Stmt} {ss : List Stmt} {m ms : MS} (hs : CS ca X L s m) (hr : CSs ca X L ss ms) : CSs ca X L (s :: ss) (sSeq m ms) := fun Hf H R σ st E p h => by
  refine wss_of (pss_cons (ws_ps X s) (wss_pss X ss)) ?_
  refine hs Hf H R σ st _ p ?_
  unfold sSeq at h
  cases e : m st with
  | next st1 =>
    rw [e] at h
    intro Hf1 H1 R1 σ1 t1 p1 k1
    exact hr Hf1 H1 R1 σ1 st1 E p1 (PostS.from t1 k1 h)
  | ret d st1 => rw [e] at h; exact h
  | brk st1 => rw [e] at h; exact h
  | cont st1 => rw [e] at h; exact h
  | exc x st1 => rw [e] at h; exact h
  | fail => rw [e] at h; exact h
theorem css_one {s : Stmt} {m : MS} (hs : CS ca X L s m) : CSs ca X L [s] m := fun Hf H R σ st E p h => wss_of (pss_one (ws_ps X s)) (hs Hf H R σ st E p h)
/-- an expression's answer, then a statement's end -/
theorem post_toS {r : Res D} {k : D → Sl → SR} {E : Ends} {Q : VK} (h : PostS ca X L Hf H S σ (r.toS k) E) (hk : ∀ d st Hf1 H1 P R1 v, r = .ok d st → Tr S Hf H (jn P R1) Hf1 H1 → PR ca X.K Hf1 H1 P (Rep ca X.K Hf1 H1 P v d) R1 σ st → PostS ca X L Hf1 H1 (jn P R1) σ (k d st) E → Q v H1) : Post ca X Hf H S σ r Q := by
  cases r with
  | fail => exact h
  | exc x st => exact fun Hf' H' R' cls dd t p => h Hf' H' R' σ cls dd t p Lk.refl
  | ok d st => exact fun Hf' H' P R' v t p => hk d st Hf' H' P R' v rfl t p (PostS.from t (Lk.refl) h)
theorem cs_asg {tg e : Expr} {m : ME} {t : TG} {g : MG} {pos : Pos} (he : CE ca X e m) (hg : CG ca X L tg t g) (hp : PS X (.Assign [tg] e pos) (tAsg (We X e) t)) : CS ca X L (.Assign [tg] e pos) (sAsg m g) := fun Hf H R σ st E p h => by
  refine ws_of hp (he Hf H R σ st _ p ?_)
  refine post_toS h fun d st1 Hf1 H1 P1 R1 v e1 t1 p1 h1 => ?_
  refine hg.2 Hf1 H1 P1 R1 σ st1 v d _ p1 ?_
  cases eg : g d st1 with
  | fail => rw [eg] at h1; exact h1
  | exc x st2 => rw [eg] at h1; exact h1
  | ok a st2 =>
    rw [eg] at h1
    exact fun Hf2 H2 R2 σ2 t2 p2 k2 => h1 Hf2 H2 R2 σ2 t2 p2 k2
theorem cs_expr {e : Expr} {m : ME} {pos : Pos} (he : CE ca X e m) (hs : swapsWith e none pos.line X.env = pure false := by rfl) : CS ca X L (.Expr e pos) (sExpr m) := fun Hf H R σ st E p h => by
  refine ws_of (ps_expr (we_pe X e) hs) (he Hf H R σ st _ p ?_)
  refine post_toS h fun d st1 Hf1 H1 P1 R1 v e1 t1 p1 h1 => ?_
  exact h1 Hf1 H1 R1 σ (Tr.refl fun b q => q.elim (fun q => q.elim) .inr) p1.drop Lk.refl
theorem cs_ret {e : Expr} {m : ME} {pos : Pos} (he : CE ca X e m) : CS ca X L (.Return (some e) pos) (sRet m) := fun Hf H R σ st E p h => by
  refine ws_of (ps_ret (we_pe X e)) (he Hf H R σ st _ p ?_)
  refine post_toS h fun d st1 Hf1 H1 P1 R1 v e1 t1 p1 h1 => ?_
  exact h1 Hf1 H1 P1 R1 σ v (Tr.refl fun b q => q) p1 Lk.refl
theorem cs_if {c : Expr} {a b : List Stmt} {mc : MT} {ma mb : MS} {pos : Pos} (hc : CT ca X c mc) (ha : CSs ca X L a ma) (hb : CSs ca X L b mb) : CS ca X L (.If c a b pos) (sIf mc ma mb) := fun Hf H R σ st E p h => by
  refine ws_of (ps_if (wt_pt X c) (wss_pss X a) (wss_pss X b)) (hc Hf H R σ st _ p ?_)
  unfold sIf at h
  cases e : mc st with
  | fail => rw [e] at h; exact h
  | exc x st1 => rw [e] at h; exact fun Hf' H' R' cls dd t p => h Hf' H' R' σ cls dd t p Lk.refl
  | ok k st1 =>
    rw [e] at h
    intro Hf1 H1 R1 t1 p1
    cases k with
    | true => exact ha Hf1 H1 R1 σ st1 E p1 (PostS.from t1 (Lk.refl) h)
    | false => exact hb Hf1 H1 R1 σ st1 E p1 (PostS.from t1 (Lk.refl) h)
/-! ### loops -/
/-- what an iterator yields: the data ds, from any heap onwards -/
def ItD (ca : Nat → Addr) (K : PySem.W.Frag) (J : It) (Hf : Hp) (ds : List D) : Prop := ∀ Hf' H', Ex Hf Hf' → Ex Hf' H' →
  (∀ i, i < ds.length → J.go i H') ∧ J.stop ds.length H' ∧ ∀ i d x H2, ds[i]? = some d → J.yld i H' x H2 →
    hot d = false ∧ ∃ Hf2, Ex Hf' Hf2 ∧ Ex H' H2 ∧ Ex Hf2 H2 ∧ (∀ b o, Hf2 b = some o → Hf' b = some o ∨ H' b = none) ∧ Rep ca K Hf2 H2 Em x d
def PostI (ca : Nat → Addr) (X : Cx) (Hf H : Hp) (S : Rg) (σ : L2.St) (r : Res (List D)) (Q : It → Hp → Prop) : Prop :=
  match r with
  | .ok ds st => ∀ Hf' H' R' J, Tr S Hf H (jn Em R') Hf' H' → PR ca X.K Hf' H' Em True R' σ st → ItD ca X.K J Hf' ds → Q J H'
  | .exc x st => ∀ Hf' H' R' cls dd, Tr S Hf H (jn Em R') Hf' H' → PR ca X.K Hf' H' Em (XcR ca X.K Hf' H' cls dd x) R' σ st → wX X cls dd σ H'
  | .fail => False
def CI (ca : Nat → Addr) (X : Cx) (tg iter : Expr) (wi : TI) (src : Sl → Res (List D)) : Prop := PI X tg iter wi ∧ ∀ (Hf H : Hp) (R : Nat → Rg) (σ : L2.St) (st : Sl) (Q : It → Hp → Prop), PR ca X.K Hf H Em True R σ st → PostI ca X Hf H (jn Em R) σ (src st) Q → wi σ H Q
/-- an item has come: the heap has grown by what stands -/
theorem PR.yield {Hf2 H2 : Hp} (p : PR ca K Hf H Em True R σ st) (h1 : Ex Hf Hf2) (h2 : Ex H H2) (h3 : Ex Hf2 H2) (h4 : ∀ b o, Hf2 b = some o → Hf b = some o ∨ H b = none) : PR ca K Hf2 H2 Em True R σ st ∧ Tr (jn Em R) Hf H (jn Em R) Hf2 H2 := by
  refine ⟨⟨trivial, p.len, fun i d e => ?_, p.dj, p.dp, ⟨h3, fun b q => ?_, fun b q => ?_⟩⟩, ⟨h1, fun b o e _ => h2 b o e, fun b q => .inl q, fun b o e => ?_⟩⟩
  · obtain ⟨v, e1, r⟩ := p.at_ i d e
    exact ⟨v, e1, r.keep h1 fun b _ o e => h2 b o e⟩
  · obtain ⟨o, e⟩ := p.w.dm b q
    exact ⟨o, h2 b o e⟩
  · cases e : Hf2 b with
    | none => rfl
    | some o =>
      rcases h4 b o e with z | z
      · rw [p.w.nf b q] at z; cases z
      · obtain ⟨o, e⟩ := p.w.dm b q
        rw [e] at z; cases z
  · rcases h4 b o e with z | z
    · exact .inl z
    · exact .inr (.inr z)
theorem cs_for {tg iter : Expr} {body : List Stmt} {wi : TI} {src : Sl → Res (List D)} {t : TG} {g : MG} {mb : MS} {pos : Pos} (hi : CI ca X tg iter wi src) (hg : CG ca X L tg t g) (hb : CSs ca X L body mb)
    (hp : PassesOwn (model X.prog X.w) X.A X.env X.xe) (hc : X.calm = true) (hs : ∀ x, foldedSetIterable iter X.env x = pure x := by intro _; rfl) : CS ca X L (.For tg iter body [] pos) (sFor src g mb) := fun Hf H R σ st E p h => by
  refine ws_of (ps_for hp hc hi.1 hg.1 (wss_pss X body) hs) (hi.2 Hf H R σ st _ p ?_)
  unfold sFor at h
  cases e : src st with
  | fail => rw [e] at h; exact h
  | exc x st1 => rw [e] at h; exact fun Hf' H' R' cls dd t p => h Hf' H' R' σ cls dd t p Lk.refl
  | ok ds st1 =>
    rw [e] at h
    intro Hf1 H1 R1 J t1 p1 it
    have h1 := PostS.from (σ' := σ) t1 (Lk.refl) h
    clear h
    have h2 : PostS ca X L Hf1 H1 (jn Em R1) σ (forD g mb ds st1) E := h1
    clear h1
    refine ⟨fun i m σ' H' => m = ds.length - i ∧ i ≤ ds.length ∧ ∃ Hf' R' st', Tr (jn Em R1) Hf1 H1 (jn Em R') Hf' H' ∧ PR ca X.K Hf' H' Em True R' σ' st' ∧ Lk L σ σ' ∧ forD g mb (ds.drop i) st' = forD g mb ds st1,
      ⟨ds.length, by simp, Nat.zero_le _, Hf1, R1, st1, Tr.refl fun _ q => q, p1, Lk.refl, rfl⟩, ?_⟩
    rintro i m σ' H' ⟨rfl, hi', Hf', R', st', t', p', k', ef⟩
    obtain ⟨g1, g2, g3⟩ := it Hf' H' t'.fx p'.w.ex
    by_cases hlt : i < ds.length
    · refine .inr ⟨g1 i hlt, fun σ2 H2 => i + 1 ≤ ds.length ∧ ∃ Hf2 R2 st2, Tr (jn Em R1) Hf1 H1 (jn Em R2) Hf2 H2 ∧ PR ca X.K Hf2 H2 Em True R2 σ2 st2 ∧ Lk L σ σ2 ∧ forD g mb (ds.drop (i + 1)) st2 = forD g mb ds st1,
        fun σ2 H2 ⟨q1, q2⟩ => ⟨ds.length - (i + 1), by omega, rfl, q1, q2⟩, fun x H2 hy => ?_⟩
      obtain ⟨d, ed⟩ : ∃ d, ds[i]? = some d := ⟨ds[i], by simp [hlt]⟩
      obtain ⟨hd, Hf2, x1, x2, x3, x4, rx⟩ := g3 i d x H2 ed hy
      obtain ⟨p2, t2⟩ := p'.yield x1 x2 x3 x4
      have edr : ds.drop i = d :: ds.drop (i + 1) := by
        rw [List.drop_eq_getElem_cons
            hlt]
        simp only [List.getElem?_eq_getElem hlt, Option.some.injEq] at ed
        rw [ed]
      rw [edr, forD] at ef
      have h3 : PostS ca X L Hf2 H2 (jn Em R') σ' ((g d st').toN fun st1 => match mb st1 with
        | .next st2 => forD g mb (ds.drop (i + 1)) st2
        | .cont st2 => forD g mb (ds.drop (i + 1)) st2
        | .brk st2 => .next st2
        | r => r) E := by
        refine PostS.from (t'.trans t2) k' ?_
        have := h2
        rw [← ef] at this
        exact this
      refine hg.2 Hf2 H2 Em R' σ' st' x d _ (p2.put rx) ?_
      cases eg : g d st' with
      | fail => rw [eg] at h3; exact h3
      | exc x st2 => rw [eg] at h3; exact h3
      | ok a st2 =>
        rw [eg] at h3 ef
        intro Hf3 H3 R3 σ3 t3 p3 k3
        have h4 := PostS.from t3 k3 h3
        clear h3
        refine hb Hf3 H3 R3 σ3 st2 _ p3 ?_
        dsimp only [Res.toN] at h4 ef
        cases eb : mb st2 with
        | next st4 =>
          rw [eb] at ef
          exact fun Hf4 H4 R4 σ4 t4 p4 k4 => ⟨by omega, Hf4, R4, st4, ((t'.trans t2).trans t3).trans t4, p4, Lk.trans k' (Lk.trans k3 k4), ef⟩
        | cont st4 =>
          rw [eb] at ef
          exact fun Hf4 H4 R4 σ4 t4 p4 k4 => ⟨by omega, Hf4, R4, st4, ((t'.trans t2).trans t3).trans t4, p4, Lk.trans k' (Lk.trans k3 k4), ef⟩
        | brk st4 =>
          rw [eb] at h4
          exact h4
        | ret d st4 => rw [eb] at h4; exact h4
        | exc x st4 => rw [eb] at h4; exact h4
        | fail => rw [eb] at h4; exact h4
    · have e1 : i = ds.length := by omega
      subst e1
      refine .inl ⟨g2, ?_⟩
      rw [List.drop_length, forD] at ef
      rw [← ef] at h2
      exact h2 Hf' H' R' σ' t' p' k'
end
end DL

/-! DL7: argument lists, displays, defs and their calls. -/
namespace DL
open PySem L2 PyProof.Rows

/-- arguments whose values are handed over -/
def CL (ca : Nat → Addr) (X : Cx) (es : List Expr) (m : MA) : Prop := ∀ (Hf H : Hp) (R : Nat → Rg) (σ : L2.St) (st : Sl) (Q : List V → Hp → Prop), PR ca X.K Hf H Em True R σ st → PostL ca X Hf H (jn Em R) σ (m st) Q → WL X es σ H Q

section
variable {ca : Nat → Addr} {K : PySem.W.Frag} {Hf H Hf1 H1 Hf2 H2 : Hp} {S S1 S2 P P1 P2 : Rg} {R R1 R2 : Nat → Rg} {pp qq : Prop} {σ σ' : L2.St} {st st' : Sl} {v : V} {d : D} {vs : List V} {ds : List D} {X : Cx} {L : List Nat}

/-- a pending thing beside a step of the slots alone -/
theorem PR.carry {ppf : Hp → Hp → Prop} (p1 : PR ca K Hf1 H1 P1 pp R1 σ st) (t2 : Tr (jn Em R1) Hf1 H1 (jn P2 R2) Hf2 H2) (p2 : PR ca K Hf2 H2 P2 qq R2 σ' st') :
    (∀ b, P1 b → ∀ o, H1 b = some o → H2 b = some o) ∧ (∀ b, P1 b → P2 b → False) ∧ (∀ i b, P1 b → R2 i b → False) ∧ Wl Hf2 H2 (jn (fun b => P1 b ∨ P2 b) R2) ∧ Tr (jn P1 R1) Hf1 H1 (jn (fun b => P1 b ∨ P2 b) R2) Hf2 H2 := by
  have wP : Wl Hf1 H1 P1 := p1.w.mono fun b q => .inl q
  have bs := t2.beside wP fun b q1 q2 => q2.elim (fun q => q.elim) fun ⟨i, q⟩ => p1.dp i b q1 q
  refine ⟨bs.1, fun b q1 q2 => bs.2.1 b q1 (.inl q2), fun i b q1 q2 => bs.2.1 b q1 (.inr ⟨i, q2⟩), ⟨p2.w.ex, fun b q => ?_, fun b q => ?_⟩, ?_⟩
  · rcases q with (q | q) | q
    · exact (bs.2.2 b q).1
    · exact p2.w.dm b (.inl q)
    · exact p2.w.dm b (.inr q)
  · rcases q with (q | q) | q
    · exact (bs.2.2 b q).2
    · exact p2.w.nf b (.inl q)
    · exact p2.w.nf b (.inr q)
  · refine ((t2.with P1).more fun b q => ?_).less fun b q => ?_
    · rcases q with q | q
      · exact .inl q
      · exact q.elim (fun q => q.elim) .inr
    · rcases q with (q | q) | q
      · exact .inl q
      · exact .inr (.inl q)
      · exact .inr (.inr q)

theorem cl_nil : CL ca X [] aNil := fun Hf H R σ st Q p h => h Hf H Em R [] (Tr.refl fun _ q => q) (p.toP (fun _ q => q) .nil)
theorem cl_cons {e : Expr} {es : List Expr} {m : ME} {ms : MA} (he : CE ca X e m) (hr : CL ca X es ms) : CL ca X (e :: es) (aCons m ms) := fun Hf H R σ st Q p h => by
  refine he Hf H R σ st _ p ?_
  unfold aCons at h
  cases e1 : m st with
  | fail => rw [e1] at h; exact h
  | exc x st1 => rw [e1] at h; exact h
  | ok d st1 =>
    rw [e1] at h
    intro Hf1 H1 P1 R1 v t1 p1
    have h1 := PostL.from (less0 t1) h
    refine hr Hf1 H1 R1 σ st1 _ p1.drop ?_
    dsimp only [Res.bind] at h1
    cases e2 : ms st1 with
    | fail => rw [e2] at h1; exact h1
    | exc x st2 => rw [e2] at h1; exact h1
    | ok ds st2 =>
      rw [e2] at h1
      intro Hf2 H2 P2 R2 vs t2 p2
      obtain ⟨c1, c2, c3, c4, c5⟩ := PR.carry (ppf := fun _ _ => True) p1 t2 p2
      have hh : PostL ca X Hf H (jn Em R) σ (.ok (d :: ds) st2) Q := by
        have h2 := h
        dsimp only [Res.bind] at h2
        rw [e2] at h2
        exact h2
      exact hh Hf2 H2 (fun b => P1 b ∨ P2 b) R2 (v :: vs) (t1.trans c5) ⟨.cons (p1.pend.keep t2.fx c1) p2.pend (fun _ q => .inl q) (fun _ q => .inr q) c2, p2.len, p2.at_, p2.dj, fun i b q1 q2 => q1.elim (fun q => c3 i b q q2) fun q => p2.dp i b q q2, c4⟩
theorem wl_app : ∀ {es fs : List Expr} {σ : L2.St} {H : Hp} {Q : List V → Hp → Prop}, WL X es σ H (fun xs H1 => WL X fs σ H1 fun ys H2 => Q (xs ++ ys) H2) → WL X (es ++ fs) σ H Q
  | [], _, _, _, _, h => h
  | e :: es, fs, σ, H, Q, h => We.mk fun pins s I => thn (We.run h pins s I) fun u s1 ⟨v, H1, I1, r1, q1⟩ => ⟨v, H1, I1, r1, wl_app (es := es) q1⟩
/-- displays -/
theorem ce_lst {es : List Expr} {ms : MA} {pos : Pos} (h : CL ca X es ms) (hst : NoStar es) : CE ca X (.List es pos) (eLst ms) := fun Hf H R σ st Q p hq => by
  refine we_of (pe_lst (wa_pa X es)) (wa_wl (fun e' r' q => noStar_suf hst e' r' q _) (h Hf H R σ st _ p ?_))
  unfold eLst at hq
  cases e : ms st with
  | fail => rw [e] at hq; exact hq
  | exc x st1 => rw [e] at hq; exact hq
  | ok ds st1 =>
    rw [e] at hq
    intro Hf1 H1 P1 R1 vs t1 p1
    by_cases hl : ds.length ≤ 16777216
    · dsimp only [Res.bind] at hq
      rw [if_pos hl] at hq
      refine ⟨by rw [p1.pend.length, ← sz_eq]; exact hl, fun a ha => ?_⟩
      have hne : ∀ b, jn P1 R1 b → b ≠ a := fun b q z => by
        subst z
        obtain ⟨o, e⟩ := p1.w.dm b q
        rw [ha] at e; cases e
      obtain ⟨w1, w2⟩ := wl_new (o := .lst vs) p1.w ha
      refine hq Hf1 (upd H1 a (.lst vs)) (fun b => P1 b ∨ b = a) R1 (.ref a) (t1.trans ⟨fun _ _ e => e, fun b o e _ => upd_keep ha b o e, fun b q => ?_, fun _ _ e => .inl e⟩) ⟨.lstO (.inr rfl) upd_same ((p1.pend.keep (fun _ _ e => e) fun b _ o e => upd_keep ha b o e).mono fun b q => ⟨.inl q, hne b (.inl q)⟩), p1.len, fun i d e => ?_, p1.dj, fun i b q1 q2 => ?_, ⟨w1.ex, fun b q => ?_, fun b q => ?_⟩⟩
      · rcases q with (q | q) | q
        · exact .inl (.inl q)
        · subst q; exact .inr ha
        · exact .inl (.inr q)
      · obtain ⟨v, e1, r⟩ := p1.at_ i d e
        exact ⟨v, e1, r.keep (fun _ _ e => e) fun b _ o e => upd_keep ha b o e⟩
      · rcases q1 with q1 | q1
        · exact p1.dp i b q1 q2
        · exact hne b (.inr ⟨i, q2⟩) q1
      · rcases q with (q | q) | q
        · exact w1.dm b (.inl q)
        · subst q; exact ⟨_, upd_same⟩
        · exact w1.dm b (.inr q)
      · rcases q with (q | q) | q
        · exact w1.nf b (.inl q)
        · subst q; exact w2
        · exact w1.nf b (.inr q)
    · dsimp only [Res.bind] at hq
      rw [if_neg hl] at hq; exact hq.elim
/-- a pending thing is let stand -/
theorem PR.standP (p : PR ca K Hf H P pp R σ st) : ∃ Hf', Ex Hf Hf' ∧ (∀ b, P b → ∀ o, H b = some o → Hf' b = some o) ∧ PR ca K Hf' H Em True R σ st ∧ Tr (jn P R) Hf H (jn Em R) Hf' H := by
  let Hf' : Hp := fun b => if Classical.propDecidable (P b) |>.decide then H b else Hf b
  have hy : ∀ b, P b → Hf' b = H b := fun b q => by
    show (if _ then _ else _) = _
    rw [if_pos (by simpa using q)]
  have hno : ∀ b, ¬ P b → Hf' b = Hf b := fun b q => by
    show (if _ then _ else _) = _
    rw [if_neg (by simpa using q)]
  have hx : Ex Hf Hf' := fun b o e => by
    by_cases q : P b
    · rw [hy b q]; exact p.w.ex b o e
    · rw [hno b q]; exact e
  refine ⟨Hf', hx, fun b q o e => by rw [hy b q]; exact e, ⟨trivial, p.len, fun i d e => ?_, p.dj, fun _ _ q => q.elim, ⟨fun b o e => ?_, fun b q => ?_, fun b q => ?_⟩⟩, ⟨hx, fun _ _ e _ => e, fun b q => .inl (.inr (q.elim (fun q => q.elim) id)), fun b o e => ?_⟩⟩
  · obtain ⟨v, e1, r⟩ := p.at_ i d e
    exact ⟨v, e1, r.keep hx fun _ _ _ e => e⟩
  · by_cases z : P b
    · rw [hy b z] at e; exact e
    · rw [hno b z] at e; exact p.w.ex b o e
  · exact p.w.dm b (.inr (q.elim (fun q => q.elim) id))
  · obtain ⟨i, q⟩ := q.elim (fun q : Em b => q.elim) id
    rw [hno b fun z => p.dp i b z q]; exact p.w.nf b (.inr ⟨i, q⟩)
  · by_cases z : P b
    · exact .inr (.inl (.inl z))
    · rw [hno b z] at e; exact .inl e
theorem ce_tup {es : List Expr} {ms : MA} {k : Nat} {pos : Pos} (h : CL ca X es ms) (hst : NoStar es) : CE ca X (.Tuple es k pos) (eTup ms) := fun Hf H R σ st Q p hq => by
  refine we_of (pe_tup (wa_pa X es)) (wa_wl (fun e' r' q => noStar_suf hst e' r' q _) (h Hf H R σ st _ p ?_))
  unfold eTup at hq
  cases e : ms st with
  | fail => rw [e] at hq; exact hq
  | exc x st1 => rw [e] at hq; exact hq
  | ok ds st1 =>
    rw [e] at hq
    intro Hf1 H1 P1 R1 vs t1 p1
    by_cases hl : ds.length ≤ 16777216
    · dsimp only [Res.bind] at hq
      rw [if_pos hl] at hq
      refine ⟨by rw [p1.pend.length, ← sz_eq]; exact hl, fun a ha => ?_⟩
      obtain ⟨Hf2, x1, x2, p2, t2⟩ := p1.standP
      exact post_newT p2 (Post.from (t1.trans t2) hq) (fun b q => .inr q) ha (p1.pend.frz x1 x2)
    · dsimp only [Res.bind] at hq
      rw [if_neg hl] at hq; exact hq.elim

/-! ### a def's promise by its pure meaning -/
def PostC (ca : Nat → Addr) (K : PySem.W.Frag) (Hf H : Hp) (P : Rg) (vs : List V) (r : CR) (Q : VK) (E : XK) : Prop :=
  match r with
  | .ok d ps => ∀ Hf' H' P' Rp v, Tr P Hf H (jn P' Rp) Hf' H' → PR ca K Hf' H' P' (Rep ca K Hf' H' P' v d) Rp (vs.map some) ps → Q v H'
  | .exc x ps => ∀ Hf' H' Rp cls dd, Tr P Hf H (jn Em Rp) Hf' H' → PR ca K Hf' H' Em (XcR ca K Hf' H' cls dd x) Rp (vs.map some) ps → E cls dd H'
  | .fail => False
def spM (ca : Nat → Addr) (K : PySem.W.Frag) (m : MF) : Sp := fun vs H Q E => ∃ Hf P ds, RepL ca K Hf H P vs ds ∧ Wl Hf H P ∧ PostC ca K Hf H P vs (m ds) Q E

theorem getS_keepL {n : Nat} {i : Nat} (h : getS (keepL L n st) i = some d) : i < n ∧ i ∈ L ∧ getS st i = some d := by
  unfold keepL at h
  have e : getS ((List.range n).map fun j => if j ∈ L then getS st j else none) i = (if i < n then (if i ∈ L then getS st i else none) else none) := by
    unfold getS
    rw [List.getElem?_map]
    by_cases hi : i < n
    · rw [List.getElem?_range hi, if_pos hi]; rfl
    · rw [List.getElem?_eq_none (by simp; omega), if_neg hi]; rfl
  rw [e] at h
  by_cases hi : i < n
  · rw [if_pos hi] at h
    by_cases hl : i ∈ L
    · rw [if_pos hl] at h; exact ⟨hi, hl, h⟩
    · rw [if_neg hl] at h; cases h
  · rw [if_neg hi] at h; cases h
/-- a list's regions, one by one -/
theorem repL_split : ∀ {vs : List V} {ds : List D} {S : Rg}, RepL ca K Hf H S vs ds → ∃ R : Nat → Rg, (∀ i d, ds[i]? = some d → ∃ v, vs[i]? = some v ∧ Rep ca K Hf H (R i) v d) ∧ (∀ i j b, R i b → R j b → i = j) ∧ ∀ i b, R i b → S b
  | _, _, _, .nil => ⟨fun _ => Em, fun i d h => by simp at h, fun _ _ _ q => q.elim, fun _ _ q => q.elim⟩
  | _, _, _, .cons (S1 := S1) r1 r2 h1 h2 h3 => by
    obtain ⟨R, a, b, c⟩ := repL_split r2
    refine ⟨fun i => match i with | 0 => S1 | i + 1 => R i, fun i d e => ?_, fun i j x q1 q2 => ?_, fun i x q => ?_⟩
    · cases i with
      | zero => simp at e; subst e; exact ⟨_, rfl, r1⟩
      | succ i => obtain ⟨v, e1, r⟩ := a i d (by simpa using e); exact ⟨v, by simpa using e1, r⟩
    · cases i <;> cases j
      · rfl
      · exact (h3 x q1 (c _ _ q2)).elim
      · exact (h3 x q2 (c _ _ q1)).elim
      · rw [b _ _ x q1 q2]
    · cases i with
      | zero => exact h1 x q
      | succ i => exact h2 x (c i x q)
/-- the parameters as they are handed back -/
theorem PR.params {n : Nat} (p : PR ca K Hf H P pp R σ' st) (hv : vs.length = n) (hk : ∀ i ∈ L, i < n → σ'[i]? = some (vs[i]?)) (q : qq) {P' : Rg} (hP : ∀ b, P' b → P b) : PR ca K Hf H P' qq (fun i b => i ∈ L ∧ i < n ∧ R i b) (vs.map some) (keepL L n st) where
  pend := q
  len := by simp [keepL, hv]
  at_ := fun i d e => by
    obtain ⟨h1, h2, h3⟩ := getS_keepL e
    obtain ⟨v, e1, r⟩ := p.at_ i d h3
    have := hk i h2 h1
    rw [e1] at this
    have e2 : some v = vs[i]? := Option.some.inj this
    refine ⟨v, ?_, r.mono fun b q => ⟨h2, h1, q⟩⟩
    rw [List.getElem?_map, ← e2]; rfl
  dj := fun i j b q1 q2 => p.dj i j b q1.2.2 q2.2.2
  dp := fun i b q1 q2 => p.dp i b (hP b q1) q2.2.2
  w := p.w.mono fun b q => q.elim (fun q => .inl (hP b q)) fun ⟨i, q⟩ => .inr ⟨i, q.2.2⟩
theorem start_at {N : List Str} {i : Nat} (h : i < vs.length) : (L2.start N vs)[i]? = some (vs[i]?) := by
  unfold L2.start
  rw [List.getElem?_append_left (by simpa using h), List.getElem?_map]
  rw [List.getElem?_eq_getElem h]; rfl
end

section
variable {ca : Nat → Addr} {P : Program} {w : World} {K : PySem.W.Frag} {mg : Str → Option Value} {base : Heap} {L : List Nat}
theorem spM_len {n w : Nat} {mb : MS} {vs : List V} {H : Hp} {Q : VK} {E : XK} (h : spM ca K (fn n w L mb) vs H Q E) : vs.length = n := by
  obtain ⟨Hf, Pg, ds, r, w1, post⟩ := h
  rw [r.length]
  unfold fn at post
  by_cases e : ds.length = n
  · exact e
  · rw [if_neg e] at post; exact post.elim
end

section
variable {ca : Nat → Addr} {Hf H Hf1 H1 Hf2 H2 : Hp} {S P : Rg} {R R1 R2 : Nat → Rg} {σ : L2.St} {st : Sl} {v : V} {d : D} {vs : List V} {ds : List D} {X : Cx} {L : List Nat}
/-- what a callee hands back, for a caller that lends nothing -/
theorem postC_of {m : MF} {Q : VK} (p : PR ca X.K Hf H P (RepL ca X.K Hf H P vs ds) R σ st) (h : Post ca X Hf H (jn P R) σ (match m ds with | .ok d _ => .ok d st | .exc x _ => .exc x st | .fail => .fail) Q) :
    PostC ca X.K Hf H P vs (m ds) Q (fun cls dd H' => wX X cls dd σ H') := by
  have wR : Wl Hf H (tot R) := p.w.mono fun b q => .inr q
  have old : ∀ {Hf' H' : Hp} {S' P' : Rg} {pp : Prop}, Tr P Hf H S' Hf' H' → Wl Hf' H' S' → (∀ b, P' b → S' b) → pp → PR ca X.K Hf' H' P' pp R σ st ∧ Tr (jn P R) Hf H (jn P' R) Hf' H' := fun {Hf' H' S' P' pp} t w hP q => by
    have bs := t.beside wR fun b q1 q2 => by obtain ⟨i, q1⟩ := q1; exact p.dp i b q2 q1
    refine ⟨⟨q, p.len, fun i d e => ?_, p.dj, fun i b q1 q2 => bs.2.1 b ⟨i, q2⟩ (hP b q1), ⟨w.ex, fun b q => ?_, fun b q => ?_⟩⟩, ?_⟩
    · obtain ⟨v, e1, r⟩ := p.at_ i d e
      exact ⟨v, e1, r.keep t.fx fun b q o e => bs.1 b ⟨i, q⟩ o e⟩
    · rcases q with q | q
      · exact w.dm b (hP b q)
      · exact (bs.2.2 b q).1
    · rcases q with q | q
      · exact w.nf b (hP b q)
      · exact (bs.2.2 b q).2
    · refine ((t.with (tot R)).more fun b q => ?_).less fun b q => ?_
      · exact q.elim .inr .inl
      · exact q.elim (fun q => .inr (hP b q)) .inl
  cases em : m ds with
  | fail => rw [em] at h; exact h
  | ok d ps =>
    rw [em] at h
    intro Hf' H' P' Rp v t q
    obtain ⟨p2, t2⟩ := old (P' := P') t (q.w) (fun b z => .inl z) q.pend
    exact h Hf' H' P' R v t2 p2
  | exc x ps =>
    rw [em] at h
    intro Hf' H' Rp cls dd t q
    obtain ⟨p2, t2⟩ := old (P' := Em) t (q.w) (fun b z => z.elim) q.pend
    exact h Hf' H' R cls dd t2 p2
end
end DL

/-! DL8: a call with a slot lent; what is walked; list comprehensions; methods of lists. -/
namespace DL
open PySem L2 PyProof.Rows

def iR1 (m : ME) : Sl → Res (List D) := fun st => (m st).bind fun d st1 => match d with
  | .int j => if small62 j then .ok (rangeD 0 j.toNat) st1 else .fail
  | _ => .fail
def iR2 (a b : ME) : Sl → Res (List D) := fun st => (a st).bind fun d st1 => (b st1).bind fun e st2 => match d, e with
  | .int i, .int j => if small62 i && small62 j then .ok (rangeD i (j - i).toNat) st2 else .fail
  | _, _ => .fail
def iRD (a b : ME) : Sl → Res (List D) := fun st => (a st).bind fun d st1 => (b st1).bind fun e st2 => match d, e with
  | .int i, .int j => if small62 i && small62 j then .ok (rangeC i (-1) (i - j).toNat) st2 else .fail
  | _, _ => .fail
section
variable {ca : Nat → Addr} {K : PySem.W.Frag} {Hf H Hf1 H1 Hf2 H2 : Hp} {S S1 S2 P P1 P2 : Rg} {R R1 R2 : Nat → Rg} {pp qq : Prop} {σ σ' : L2.St} {st st' : Sl} {v : V} {d : D} {vs : List V} {ds : List D} {X : Cx} {L : List Nat}

/-- what goes to a call -/
theorem repL_app' {P : Rg} (r : RepL ca K Hf H S1 vs ds) {ws : List V} {es : List D} (r2 : RepL ca K Hf H S2 ws es) (h1 : ∀ b, S1 b → P b) (h2 : ∀ b, S2 b → P b) (h3 : ∀ b, S1 b → S2 b → False) : RepL ca K Hf H P (vs ++ ws) (ds ++ es) := by
  induction ds generalizing vs S1 P with
  | nil => cases r; exact r2.mono h2
  | cons d ds ih =>
    cases r with
    | cons q1 q2 k1 k2 k3 =>
      rename_i T1 T2 v vs
      refine .cons (S2 := fun b => T2 b ∨ S2 b) q1 (ih q2 (fun b q => .inl q) (fun b q => .inr q) fun b x y => h3 b (k2 b x) y) (fun b q => h1 b (k1 b q)) (fun b q => q.elim (fun q => h1 b (k2 b q)) (h2 b)) fun b x y => ?_
      rcases y with y | y
      · exact k3 b x y
      · exact h3 b (k1 b x) y
/-- what a callee hands back, one slot lent: place j among the arguments -/
theorem postC_lent {m : MF} {Q : VK} {i j : Nat} {a : V} (p : PR ca X.K Hf H P (RepL ca X.K Hf H P vs ds) R σ st) (hv : vs[j]? = some a) (hs : σ[i]? = some (some a)) (hi : getS st i = none) (hil : i < st.length)
    (h : Post ca X Hf H (jn P R) σ (match m ds with | .ok d ps => .ok d (st.set i (getS ps j)) | .exc x ps => .exc x (st.set i (getS ps j)) | .fail => .fail) Q) :
    PostC ca X.K Hf H P vs (m ds) Q (fun cls dd H' => wX X cls dd σ H') := by
  have wR : Wl Hf H (tot R) := p.w.mono fun b q => .inr q
  have old : ∀ {Hf' H' : Hp} {P' : Rg} {Rp : Nat → Rg} {ps : Sl} {pp : Prop}, Tr P Hf H (jn P' Rp) Hf' H' → PR ca X.K Hf' H' P' pp Rp (vs.map some) ps → PR ca X.K Hf' H' P' pp (fun k b => if k = i then Rp j b else R k b) σ (st.set i (getS ps j)) ∧ Tr (jn P R) Hf H (jn P' fun k b => if k = i then Rp j b else R k b) Hf' H' := fun {Hf' H' P' Rp ps pp} t w => by
    have bs := t.beside wR fun b q1 q2 => by obtain ⟨i, q1⟩ := q1; exact p.dp i b q2 q1
    refine ⟨⟨w.pend, by rw [List.length_set]; exact p.len, fun k d e => ?_, fun k l b q1 q2 => ?_, fun k b q1 q2 => ?_, ⟨w.w.ex, fun b q => ?_, fun b q => ?_⟩⟩, ?_⟩
    · rcases set_get e with ⟨z1, z2⟩ | ⟨z1, z2⟩
      · subst z1
        obtain ⟨v, e1, r⟩ := w.at_ j d z2
        rw [List.getElem?_map, hv] at e1
        cases e1
        exact ⟨_, hs, by simpa using r⟩
      · obtain ⟨v, e1, r⟩ := p.at_ k d z2
        refine ⟨v, e1, ?_⟩
        rw [show (fun b => if k = i then Rp j b else R k b) = R k from by funext b; rw [if_neg (Ne.symm z1)]]
        exact r.keep t.fx fun b q o e => bs.1 b ⟨k, q⟩ o e
    · split at q1 <;> split at q2
      · rename_i a c; exact a.trans c.symm
      · exact (bs.2.1 b ⟨l, q2⟩ (.inr ⟨j, q1⟩)).elim
      · exact (bs.2.1 b ⟨k, q1⟩ (.inr ⟨j, q2⟩)).elim
      · exact p.dj k l b q1 q2
    · split at q2
      · exact w.dp j b q1 q2
      · exact bs.2.1 b ⟨k, q2⟩ (.inl q1)
    · rcases q with q | ⟨k, q⟩
      · exact w.w.dm b (.inl q)
      · split at q
        · exact w.w.dm b (.inr ⟨j, q⟩)
        · exact (bs.2.2 b ⟨k, q⟩).1
    · rcases q with q | ⟨k, q⟩
      · exact w.w.nf b (.inl q)
      · split at q
        · exact w.w.nf b (.inr ⟨j, q⟩)
        · exact (bs.2.2 b ⟨k, q⟩).2
    · refine ((t.with (tot R)).more fun b q => ?_).less fun b q => ?_
      · exact q.elim .inr .inl
      · rcases q with q | ⟨k, q⟩
        · exact .inr (.inl q)
        · split at q
          · exact .inr (.inr ⟨j, q⟩)
          · exact .inl ⟨k, q⟩
  cases em : m ds with
  | fail => rw [em] at h; exact h
  | ok d ps =>
    rw [em] at h
    intro Hf' H' P' Rp v t q
    obtain ⟨p2, t2⟩ := old t q
    exact h Hf' H' P' _ v t2 p2
  | exc x ps =>
    rw [em] at h
    intro Hf' H' Rp cls dd t q
    obtain ⟨p2, t2⟩ := old t q
    exact h Hf' H' _ cls dd t2 p2
/-- the arguments of such a call: to the heap where the callee starts -/
theorem lent_args {es fs : List Expr} {e : Expr} {i : Nat} {ms ns : MA} {m : MF} {Q : VK} {E : L2.St → XK} (ha : CL ca X es ms) (he : PE X e (tVar i)) (hb : CL ca X fs ns) (p : PR ca X.K Hf H Em True R σ st)
    (h : Post ca X Hf H (jn Em R) σ (eCallL m ms i ns st) Q) (hE : E σ = fun cls dd H' => wX X cls dd σ H') : WL X (es ++ e :: fs) σ H fun vs H' => spM ca X.K m vs H' Q (E σ) := by
  refine wl_app (ha Hf H R σ st _ p ?_)
  unfold eCallL at h
  cases e1 : ms st with
  | fail => rw [e1] at h; exact h
  | exc x st1 => rw [e1] at h; exact h
  | ok ds st1 =>
    rw [e1] at h
    intro Hf1 H1 P1 R1 vs t1 p1
    have h1 := Post.from t1 h
    clear h
    dsimp only [Res.bind] at h1
    cases eg : getS st1 i with
    | none => rw [eg] at h1; exact h1.elim
    | some d0 =>
      rw [eg] at h1
      obtain ⟨v0, ev0, _⟩ := p1.at_ i d0 eg
      refine we_of he ⟨v0, ev0, hb Hf1 H1 R1 σ st1 _ p1.drop ?_⟩
      have h2 : Post ca X Hf1 H1 (jn P1 R1) σ ((ns st1).bind fun es st2 =>
          (match getS st2 i with
          | some d => if hot d then (match m (ds ++ d :: es) with
              | .ok r ps => .ok r (st2.set i (getS ps ds.length))
              | .exc x ps => .exc x (st2.set i (getS ps ds.length))
              | .fail => .fail) else (match m (ds ++ d :: es) with
              | .ok r _ => .ok r st2
              | .exc x _ => .exc x st2
              | .fail => .fail)
          | none => .fail)) Q := h1
      clear h1
      cases e2 : ns st1 with
      | fail => rw [e2] at h2; exact h2
      | exc x st2 => rw [e2] at h2; exact fun Hf' H' R' cls dd t q => h2 Hf' H' R' cls dd (t.more fun b q => q.elim (fun q => q.elim) .inr) q
      | ok es' st2 =>
        rw [e2] at h2
        intro Hf2 H2 P2 R2 ws t2 p2
        obtain ⟨c1, c2, c3, c4, c5⟩ := PR.carry (ppf := fun _ _ => True) p1 t2 p2
        have h3 := Post.from c5 h2
        clear h2
        dsimp only [Res.bind] at h3
        have r1 := p1.pend.keep t2.fx c1
        have r2 := p2.pend
        cases eg2 : getS st2 i with
        | none => rw [eg2] at h3; exact h3.elim
        | some d =>
          rw [eg2] at h3
          dsimp only at h3
          rw [hE]
          by_cases hh : hot d = true
          · rw [if_pos hh] at h3
            obtain ⟨v, ev, p3⟩ := p2.drop.take eg2
            rw [ev0] at ev
            cases ev
            -- the pending arguments, the lent slot's own
            have hd1 : ∀ b, (P1 b ∨ P2 b) → R2 i b → False := fun b q1 q2 => q1.elim (fun q => c3 i b q q2) fun q => p2.dp i b q q2
            have rr : RepL ca X.K Hf2 H2 (fun b => (P1 b ∨ P2 b) ∨ R2 i b) (vs ++ v0 :: ws) (ds ++ d :: es') :=
              repL_app' (S1 := P1) (S2 := fun b => R2 i b ∨ P2 b) r1 (.cons p3.pend r2 (fun _ q => .inl q) (fun _ q => .inr q) fun b q1 q2 => p2.dp i b q2 q1) (fun b q => .inl (.inl q)) (fun b q => q.elim .inr fun q => .inl (.inr q)) fun b q1 q2 => q2.elim (fun q => c3 i b q1 q) (c2 b q1)
            have p4 : PR ca X.K Hf2 H2 (fun b => (P1 b ∨ P2 b) ∨ R2 i b) (RepL ca X.K Hf2 H2 (fun b => (P1 b ∨ P2 b) ∨ R2 i b) (vs ++ v0 :: ws) (ds ++ d :: es')) (fun j b => j ≠ i ∧ R2 j b) σ (st2.set i none) :=
              ⟨rr, p3.len, p3.at_, p3.dj, fun k b q1 q2 => q1.elim (fun q => q.elim (fun q => c3 k b q q2.2) fun q => p2.dp k b q q2.2) fun q => q2.1 (p2.dj k i b q2.2 q), c4.mono fun b q => by
                rcases q with (q | q) | ⟨k, q⟩
                · exact .inl q
                · exact .inr ⟨i, q⟩
                · exact .inr ⟨k, q.2⟩⟩
            refine ⟨Hf2, _, _, rr, p4.w.mono fun b q => .inl q, postC_lent (i := i) (j := vs.length) (a := v0) p4 (by simp) ev0 (by rw [getS_set, if_pos rfl]; split <;> rfl) (by rw [List.length_set]; exact getS_lt eg2) ?_⟩
            rw [r1.length]
            have hset : ∀ o : Option D, (st2.set i none).set i o = st2.set i o := fun o => by rw [List.set_set]
            simp only [hset]
            refine Post.from (Tr.refl fun b q => ?_) h3
            rcases q with (q | q) | ⟨k, q⟩
            · exact .inl q
            · exact .inr ⟨i, q⟩
            · exact .inr ⟨k, q.2⟩
          · rw [if_neg hh] at h3
            have hh' : hot d = false := by simpa using hh
            obtain ⟨v, ev, rd⟩ := p2.drop.at_ i d eg2
            rw [ev0] at ev
            cases ev
            have rr : RepL ca X.K Hf2 H2 (fun b => P1 b ∨ P2 b) (vs ++ v0 :: ws) (ds ++ d :: es') :=
              repL_app' (S1 := P1) (S2 := P2) r1 (.cons (S1 := Em) (rd.cold hh') r2 (fun _ q => q.elim) (fun _ q => q) fun b q1 q2 => q1) (fun b q => .inl q) (fun b q => .inr q) c2
            have p4 : PR ca X.K Hf2 H2 (fun b => P1 b ∨ P2 b) (RepL ca X.K Hf2 H2 (fun b => P1 b ∨ P2 b) (vs ++ v0 :: ws) (ds ++ d :: es')) R2 σ st2 :=
              ⟨rr, p2.len, p2.at_, p2.dj, fun k b q1 q2 => q1.elim (fun q => c3 k b q q2) fun q => p2.dp k b q q2, c4⟩
            exact ⟨Hf2, _, _, rr, p4.w.mono fun b q => .inl q, postC_of p4 h3⟩
/-! ### what is walked -/
theorem sqL_ex {a : Addr} {xs : List V} (hx : Ex Hf H) (h : SqL K Hf a xs) : SqL K H a xs := by
  rcases h with h | h
  · refine .inl ?_
    rcases h with h | ⟨o, h⟩
    · exact .inl (hx _ _ h)
    · exact .inr ⟨o, hx _ _ h⟩
  · exact .inr h
theorem sqT_ex {a : Addr} {xs : List V} (hx : Ex Hf H) (h : SqT K Hf a xs) : SqT K H a xs := by
  rcases h with h | h
  · refine .inl ?_
    rcases h with h | ⟨o, h⟩
    · exact .inl (hx _ _ h)
    · exact .inr ⟨o, hx _ _ h⟩
  · exact .inr h
theorem colds_at {ds : List D} (h : colds ds = true) {i : Nat} {d : D} (e : ds[i]? = some d) : hot d = false := by
  unfold colds at h
  have := List.all_eq_true.mp h d (List.mem_of_getElem? e)
  unfold cold at this
  simpa using this
/-- the end of an item that makes nothing -/
theorem itd_plain {J : It} {n : Nat} (hn : ds.length = n) (h1 : ∀ H', Ex Hf H' → ∀ i, i < n → J.go i H') (h2 : ∀ H', Ex Hf H' → J.stop n H') (h3 : ∀ H', Ex Hf H' → ∀ i d x H2, ds[i]? = some d → J.yld i H' x H2 → H2 = H' ∧ hot d = false ∧ ∀ Hf', Ex Hf Hf' → Rep ca K Hf' H' Em x d) : ItD ca K J Hf ds := by
  subst hn
  intro Hf' H' x1 x2
  have x3 : Ex Hf H' := fun a o e => x2 a o (x1 a o e)
  refine ⟨h1 H' x3, h2 H' x3, fun i d x H2 e y => ?_⟩
  obtain ⟨rfl, hd, r⟩ := h3 H' x3 i d x H2 e y
  exact ⟨hd, Hf', fun _ _ e => e, fun _ _ e => e, x2, fun _ _ e => .inl e, r Hf' x1⟩
theorem itd_list {a : Addr} (h : SqL K Hf a vs) (r : RepL ca K Hf H Em vs ds) (hc : colds ds = true) : ItD ca K (Itl K a) Hf ds := by
  refine itd_plain rfl (fun H' x i hi => ?_) (fun H' x => ⟨vs, sqL_ex x h, by rw [r.length]; exact Nat.le_refl _⟩) fun H' x i d v H2 e y => ?_
  · have : i < vs.length := by rw [r.length]; exact hi
    exact ⟨vs, vs[i], sqL_ex x h, by simp [this]⟩
  · obtain ⟨e1, y⟩ := y
    refine ⟨e1, colds_at hc e, fun Hf' x1 => ?_⟩
    obtain ⟨v', T, e2, r2, z⟩ := repL_at r e
    have := y vs (sqL_ex x h)
    rw [e2] at this
    cases this
    exact (r2.mono z).keep x1 fun _ q => q.elim
theorem itd_range {lo : Int} {n : Nat} : ItD ca K (Itr lo n) Hf (rangeD lo n) := by
  refine itd_plain (n := n) (by simp [rangeD]) (fun H' x i hi => hi) (fun H' x => Nat.le_refl _) fun H' x i d v H2 e y => ?_
  obtain ⟨rfl, rfl⟩ := y
  have hi : i < n := by
    have := (List.getElem?_eq_some_iff.mp e).1
    simpa [rangeD] using this
  have : d = .int (lo + (i : Nat)) := by
    simp only [rangeD, List.getElem?_map, List.getElem?_range hi, Option.map_some, Option.some.injEq] at e
    exact e.symm
  subst this
  exact ⟨rfl, rfl, fun _ _ => .int⟩
/-- the pairs of an enumeration -/
def enumD : Nat → List D → List D
  | _, [] => []
  | n, d :: ds => .tup [.int (n : Int), d] :: enumD (n + 1) ds
theorem enumD_get : ∀ {ds : List D} {n i : Nat} {e : D}, (enumD n ds)[i]? = some e → ∃ d, ds[i]? = some d ∧ e = .tup [.int ((n + i : Nat) : Int), d]
  | [], n, i, e, h => by simp [enumD] at h
  | d :: ds, n, 0, e, h => by
    simp [enumD] at h
    exact ⟨d, rfl, h.symm⟩
  | d :: ds, n, i + 1, e, h => by
    rw [enumD, List.getElem?_cons_succ] at h
    obtain ⟨d', h1, h2⟩ := enumD_get h
    refine ⟨d', by simpa using h1, ?_⟩
    rw [h2, show n + 1 + i = n + (i + 1) from by omega]
theorem enumD_length : ∀ {ds : List D} {n : Nat}, (enumD n ds).length = ds.length
  | [], _ => rfl
  | d :: ds, n => by simp [enumD, enumD_length]
theorem itd_enum {a : Addr} (h : SqL K Hf a vs) (r : RepL ca K Hf H Em vs ds) (hc : colds ds = true) : ItD ca K (Ite K a) Hf (enumD 0 ds) := by
  intro Hf' H' x1 x2
  have x3 : Ex Hf H' := fun a o e => x2 a o (x1 a o e)
  refine ⟨fun i hi => ?_, ⟨vs, sqL_ex x3 h, by rw [r.length, enumD_length]; exact Nat.le_refl _⟩, fun i d x H2 e y => ?_⟩
  · have : i < vs.length := by rw [r.length]; rw [enumD_length] at hi; exact hi
    exact ⟨vs, vs[i], sqL_ex x3 h, by simp [this]⟩
  · obtain ⟨T, xv, rfl, hT, rfl, y⟩ := y
    obtain ⟨d', e1, rfl⟩ := enumD_get e
    obtain ⟨v', T', e2, r2, z⟩ := repL_at r e1
    have := y vs (sqL_ex x3 h)
    rw [e2] at this
    have e3 : v' = xv := Option.some.inj this
    subst e3
    have hT' : Hf' T = none := by
      cases q : Hf' T with
      | none => rfl
      | some o => rw [x2 T o q] at hT; cases hT
    refine ⟨rfl, upd Hf' T (.tup [.int (i : Nat), v']), fun b o e => upd_keep hT' b o e, fun b o e => upd_keep hT b o e, fun b o e => ?_, fun b o e => ?_, ?_⟩
    · by_cases q : b = T
      · subst q; rw [upd_same] at e ⊢; exact e
      · rw [upd_ne q] at e ⊢; exact x2 b o e
    · by_cases q : b = T
      · subst q; exact .inr hT
      · rw [upd_ne q] at e; exact .inl e
    · refine .tup upd_same (.cons (S1 := Em) (S2 := Em) (by rw [Nat.zero_add]; exact .int) (.cons (S1 := Em) (S2 := Em) ((r2.mono z).keep (fun b o e => upd_keep hT' b o (x1 b o e)) fun _ q => q.elim) .nil (fun _ q => q) (fun _ q => q) fun _ q _ => q) (fun _ q => q) (fun _ q => q) fun _ q _ => q)
/-- a value that is walked: it is let stand -/
theorem PR.walked {xs : List D} (p : PR ca K Hf H P (Rep ca K Hf H P v d) R σ st) (h : lstItems d = some xs) (hc : colds xs = true) : ∃ Hf' a vs, v = .ref a ∧ SqL K Hf' a vs ∧ RepL ca K Hf' H Em vs xs ∧ PR ca K Hf' H Em True R σ st ∧ Tr (jn P R) Hf H (jn Em R) Hf' H := by
  obtain ⟨Hf', x1, x2, p', t'⟩ := p.standP
  refine ⟨Hf', ?_⟩
  have hr := p.pend
  cases hr with
  | lstF e r => cases h; exact ⟨_, _, rfl, .inl (.inl (x1 _ _ e)), repL_cold (r.keep x1 fun _ _ _ e => e) hc, p', t'⟩
  | lstO s e r => cases h; exact ⟨_, _, rfl, .inl (.inl (x2 _ s _ e)), repL_cold (r.keep x1 fun _ _ _ e => e) hc, p', t'⟩
  | scr e => cases h; exact ⟨_, _, rfl, sqL_ex x1 e, repL_mapInt _, p', t'⟩
  | _ => cases h
theorem PR.walkedT {xs : List D} (p : PR ca K Hf H P (Rep ca K Hf H P v (.tup xs)) R σ st) : ∃ Hf' a vs, v = .ref a ∧ SqT K Hf' a vs ∧ RepL ca K Hf' H Em vs xs ∧ PR ca K Hf' H Em True R σ st ∧ Tr (jn P R) Hf H (jn Em R) Hf' H := by
  obtain ⟨Hf', x1, x2, p', t'⟩ := p.standP
  have hr := p.pend
  cases hr with
  | tup e r => exact ⟨Hf', _, _, rfl, .inl (.inl (x1 _ _ e)), repL_em r x1, p', t'⟩
def tupItems : D → Option (List D)
  | .tup xs => some xs
  | _ => none
/-- an expression's answer, then what is walked -/
theorem post_iE {r : Res D} {p : D → Option (List D)} {Q : It → Hp → Prop} {Q' : VK} (h : PostI ca X Hf H S σ (r.bind fun d st1 => match p d with | some ds => if colds ds then .ok ds st1 else .fail | none => .fail) Q)
    (hk : ∀ d ds st Hf1 H1 P R1 v, p d = some ds → colds ds = true → Tr S Hf H (jn P R1) Hf1 H1 → PR ca X.K Hf1 H1 P (Rep ca X.K Hf1 H1 P v d) R1 σ st → PostI ca X Hf1 H1 (jn P R1) σ (.ok ds st) Q → Q' v H1) : Post ca X Hf H S σ r Q' := by
  cases r with
  | fail => exact h
  | exc x st => exact h
  | ok d st =>
    dsimp only [Res.bind] at h
    intro Hf1 H1 P R1 v t1 p1
    cases e : p d with
    | none => rw [e] at h; exact h.elim
    | some ds =>
      rw [e] at h
      dsimp only at h
      by_cases hc : colds ds = true
      · rw [if_pos hc] at h
        exact hk d ds st Hf1 H1 P R1 v e hc t1 p1 fun Hf2 H2 R2 J t2 p2 i2 => h Hf2 H2 R2 J (t1.trans t2) p2 i2
      · rw [if_neg hc] at h; exact h.elim
theorem ci_list {tg e : Expr} {m : ME} (hp : PI X tg e (iList X.K (We X e))) (he : CE ca X e m) : CI ca X tg e (iList X.K (We X e)) (iE m lstItems) := ⟨hp, fun Hf H R σ st Q p h => by
  refine he Hf H R σ st _ p (post_iE h fun d ds st1 Hf1 H1 P R1 v e1 hc t1 p1 h1 => ?_)
  obtain ⟨Hf', a, vs, rfl, s1, r1, p2, t2⟩ := p1.walked e1 hc
  exact ⟨a, rfl, ⟨vs, sqL_ex p2.w.ex s1⟩, h1 Hf' H1 R1 _ t2 p2 (itd_list s1 r1 hc)⟩⟩
/-- enumerate(list) -/
def iEn (m : ME) : Sl → Res (List D) := fun st => (m st).bind fun d st1 => match lstItems d with
  | some ds => if colds ds then .ok (enumD 0 ds) st1 else .fail
  | none => .fail
theorem ci_enum {e : Expr} {m : ME} {p pos tpos : Pos} {elts : List Expr} {kk : Nat} (hg : Gl X "enumerate") (hm : X.mg "enumerate" = none) (he : CE ca X e m) (hs : starEach [e] X.env = [(false, eval e X.env)] := by rfl) :
    CI ca X (.Tuple elts kk tpos) (.Call (.Name "enumerate" p) [e] [] pos) (iEnum X.K (tCons (We X e) tNil)) (iEn m) := ⟨pi_enum hg hm (pa_cons (we_pe X e) pa_nil hs) hs, fun Hf H R σ st Q p h => by
  refine he Hf H R σ st _ p ?_
  unfold iEn at h
  cases r : m st with
  | fail => rw [r] at h; exact h
  | exc x st => rw [r] at h; exact h
  | ok d st1 =>
    rw [r] at h
    dsimp only [Res.bind] at h
    intro Hf1 H1 P R1 v t1 p1
    cases e : lstItems d with
    | none => rw [e] at h; exact h.elim
    | some ds =>
      rw [e] at h
      dsimp only at h
      by_cases hc : colds ds = true
      · rw [if_pos hc] at h
        obtain ⟨Hf', a, vs, rfl, s1, r1, p2, t2⟩ := p1.walked e hc
        exact ⟨a, vs, rfl, sqL_ex p2.w.ex s1, h Hf' H1 R1 _ (t1.trans t2) p2 (itd_enum s1 r1 hc)⟩
      · rw [if_neg hc] at h; exact h.elim⟩
theorem small62_ok {i : Int} (h : small62 i = true) : -(2 ^ 62) ≤ i ∧ i < 2 ^ 62 := of_decide_eq_true h
theorem ci_range1 {tg a : Expr} {m : ME} {p pos : Pos} (hg : Gl X "range") (hm : X.mg "range" = none) (ha : CE ca X a m) (hst : NoStar [a] := by exact ⟨fun _ => rfl, trivial⟩) : CI ca X tg (.Call (.Name "range" p) [a] [] pos) (iRng1 (Wa X [a])) (iR1 m) :=
  ⟨pi_range1 hg hm (wa_pa X [a]) (hst.1 _), fun Hf H R σ st Q p h => by
    refine wa_wl (fun e' r' q => noStar_suf hst e' r' q _) (ha Hf H R σ st _ p ?_)
    unfold iR1 at h
    cases r : m st with
    | fail => rw [r] at h; exact h
    | exc x st => rw [r] at h; exact h
    | ok d st1 =>
      rw [r] at h
      intro Hf1 H1 P R1 v t1 p1
      dsimp only [Res.bind] at h
      cases d with
      | int j =>
        dsimp only at h
        by_cases hj : small62 j = true
        · rw [if_pos hj] at h
          have := small62_ok hj
          show ∃ j : Int, _
          rw [rep_int p1.pend]
          exact ⟨j, rfl, this.1, this.2, h Hf1 H1 R1 _ (less0 t1) p1.drop itd_range⟩
        · rw [if_neg hj] at h; exact h.elim
      | _ => exact h.elim⟩
end
end DL

/-! DL9: comprehensions; lists of ranges; slices; methods of lists. -/
namespace DL
open PySem L2 PyProof.Rows

/-- what is raised is not followed -/
def Res.noX {α : Type} (r : Res α) : Res α :=
  match r with
  | .exc _ _ => .fail
  | r => r
def wipeS (st : Sl) : List Nat → Sl
  | [] => st
  | v :: vs => (wipeS st vs).set v none
def compD (g : MG) (t : MT) (e : ME) (vs : List Nat) : List D → Sl → List D → Res (List D)
  | [], st, acc => .ok acc st
  | d :: ds, st, acc => (g d st).noX.bind fun _ st1 => (t st1).noX.bind fun k st2 => if k then (e st2).noX.bind fun y st3 => if acc.length < 16777216 then compD g t e vs ds (wipeS st3 vs) (acc ++ [y]) else .fail
    else compD g t e vs ds (wipeS st2 vs) acc
def eLc (src : Sl → Res (List D)) (g : MG) (t : MT) (e : ME) (vs : List Nat) : ME := fun st => (src st).bind fun ds st1 => (compD g t e vs ds (wipeS st1 vs) []).bind fun acc st2 => .ok (.lst true acc) st2
def tYesM : MT := fun st => .ok true st

section
variable {ca : Nat → Addr} {K : PySem.W.Frag} {Hf H Hf1 H1 Hf2 H2 : Hp} {S S1 S2 P P1 P2 : Rg} {R R1 R2 : Nat → Rg} {pp qq : Prop} {σ σ' : L2.St} {st st' : Sl} {v : V} {d : D} {vs : List V} {ds : List D} {X : Cx} {L : List Nat}

theorem wipe_get {w : List Nat} {σ : L2.St} {i : Nat} : (wipe σ w)[i]? = if i ∈ w then (if i < σ.length then some none else none) else σ[i]? := by
  induction w with
  | nil => simp [wipe]
  | cons v w ih =>
    show ((wipe σ w).set v none)[i]? = _
    by_cases e : v = i
    · subst e
      rw [List.getElem?_set_self']
      simp only [List.mem_cons_self, if_true]
      by_cases h : v < σ.length
      · rw [if_pos h]
        have : v < (wipe σ w).length := by rw [wipe_length]; exact h
        rw [List.getElem?_eq_getElem this]; rfl
      · rw [if_neg h, List.getElem?_eq_none (by rw [wipe_length]; omega)]; rfl
    · rw [List.getElem?_set_ne e, ih]
      have : (i ∈ v :: w) = (i ∈ w) := by simp [List.mem_cons, Ne.symm e]
      simp only [this]
theorem wipe_eq {w : List Nat} (hl : σ'.length = σ.length) (h : ∀ i, i ∉ w → σ'[i]? = σ[i]?) : wipe σ' w = wipe σ w := by
  apply List.ext_getElem?
  intro i
  rw [wipe_get, wipe_get, hl]
  split
  · rfl
  · exact h i (by assumption)
/-- all places but w -/
def but (n : Nat) (w : List Nat) : List Nat := (List.range n).filter fun i => decide (i ∉ w)
theorem wipe_lk {w : List Nat} (k : Lk (but σ.length w) σ σ') : wipe σ' w = wipe σ w := wipe_eq k.1 fun i hi => by
  by_cases h : i < σ.length
  · exact k.2 i (List.mem_filter.mpr ⟨List.mem_range.mpr h, by simpa using hi⟩)
  · rw [List.getElem?_eq_none (by rw [k.1]; omega), List.getElem?_eq_none (by omega)]
theorem wipe_wipe {w : List Nat} : wipe (wipe σ w) w = wipe σ w := wipe_eq (wipe_length σ w) fun i hi => by rw [wipe_get, if_neg hi]
theorem wipeS_len {w : List Nat} {st : Sl} : (wipeS st w).length = st.length := by
  induction w with
  | nil => rfl
  | cons v w ih => show ((wipeS st w).set v none).length = _; rw [List.length_set, ih]
theorem wipeS_get {w : List Nat} {st : Sl} {i : Nat} (h : getS (wipeS st w) i = some d) : i ∉ w ∧ getS st i = some d := by
  induction w with
  | nil => exact ⟨by simp, h⟩
  | cons v w ih =>
    rcases set_get (show getS ((wipeS st w).set v none) i = some d from h) with ⟨h1, h2⟩ | ⟨h1, h2⟩
    · cases h2
    · obtain ⟨h3, h4⟩ := ih h2
      exact ⟨by simp [h3, Ne.symm h1], h4⟩
/-- the slots w forgotten, on both sides -/
theorem PR.wipe (w : List Nat) (p : PR ca K Hf H P pp R σ st) : PR ca K Hf H P pp R (wipe σ w) (wipeS st w) :=
  ⟨p.pend, by rw [wipeS_len, wipe_length]; exact p.len, fun i d e => by
    obtain ⟨h1, h2⟩ := wipeS_get e
    obtain ⟨v, e1, r⟩ := p.at_ i d h2
    exact ⟨v, by rw [wipe_get, if_neg h1]; exact e1, r⟩, p.dj, p.dp, p.w⟩
theorem PR.unwipe {w : List Nat} (p : PR ca K Hf H P pp R (L2.wipe σ w) st) : PR ca K Hf H P pp R σ st :=
  ⟨p.pend, by rw [p.len, wipe_length], fun i d e => by
    obtain ⟨v, e1, r⟩ := p.at_ i d e
    rw [wipe_get] at e1
    split at e1
    · split at e1 <;> cases e1
    · exact ⟨v, e1, r⟩, p.dj, p.dp, p.w⟩
/-- the new list, beside all -/
structure Acc (ca : Nat → Addr) (K : PySem.W.Frag) (Hf H : Hp) (Dl : Addr) (A : Rg) (acc : List D) (R : Nat → Rg) (σ : L2.St) (st : Sl) : Prop where
  pr : PR ca K Hf H (fun b => b = Dl ∨ A b) (∃ vs, H Dl = some (.lst vs) ∧ RepL ca K Hf H A vs acc ∧ ¬ A Dl) R σ st
theorem repL_snoc {A B : Rg} (r : RepL ca K Hf H A vs ds) (q : Rep ca K Hf H B v d) (dj : ∀ b, A b → B b → False) : RepL ca K Hf H (fun b => A b ∨ B b) (vs ++ [v]) (ds ++ [d]) :=
  repL_app' (S1 := A) (S2 := B) r (RepL.one q) (fun _ q => .inl q) (fun _ q => .inr q) dj

theorem eLc_src {src : Sl → Res (List D)} {g : MG} {t : MT} {e : ME} {w : List Nat} {Q : VK} (h : Post ca X Hf H S σ (eLc src g t e w st) Q) {Q' : It → Hp → Prop}
    (hk : ∀ ds st1 Hf1 H1 R1 J, Tr S Hf H (jn Em R1) Hf1 H1 → PR ca X.K Hf1 H1 Em True R1 σ st1 → ItD ca X.K J Hf1 ds → Post ca X Hf1 H1 (jn Em R1) σ ((compD g t e w ds (wipeS st1 w) []).bind fun acc st2 => .ok (.lst true acc) st2) Q → Q' J H1) : PostI ca X Hf H S σ (src st) Q' := by
  unfold eLc at h
  cases r : src st with
  | fail => rw [r] at h; exact h
  | exc x st1 => rw [r] at h; exact h
  | ok ds st1 =>
    rw [r] at h
    exact fun Hf1 H1 R1 J t1 p1 i1 => hk ds st1 Hf1 H1 R1 J t1 p1 i1 (Post.from t1 h)
/-- the reading of a list comprehension, from its parts' meanings in the blocks -/
theorem lc_read {wi : TI} {src : Sl → Res (List D)} {tg elt iter : Expr} {t : TG} {g : MG} {tt : TT} {mt : MT} {te : TE} {me : ME} {w : List Nat}
    (hi : CI ca X tg iter wi src)
    (hg : ∀ (Hf H : Hp) (P : Rg) (R : Nat → Rg) (σ : L2.St) (st : Sl) (v : V) (d : D) (Q : L2.St → Hp → Prop), PR ca X.K Hf H P (Rep ca X.K Hf H P v d) R σ st →
      (match g d st with
        | .ok _ st' => ∀ Hf' H' R' σ', Tr (jn P R) Hf H (jn Em R') Hf' H' → PR ca X.K Hf' H' Em True R' σ' st' → Lk (but σ.length w) σ σ' → Q σ' H'
        | _ => False) → t v σ H Q)
    (ht : ∀ (Hf H : Hp) (R : Nat → Rg) (σ : L2.St) (st : Sl) (Q : Bool → Hp → Prop), PR ca X.K Hf H Em True R σ st → (match mt st with
        | .ok k st' => ∀ Hf' H' R', Tr (jn Em R) Hf H (jn Em R') Hf' H' → PR ca X.K Hf' H' Em True R' σ st' → Q k H'
        | _ => False) → tt σ H Q)
    (he : ∀ (Hf H : Hp) (R : Nat → Rg) (σ : L2.St) (st : Sl) (Q : VK), PR ca X.K Hf H Em True R σ st → (match me st with
        | .ok d st' => ∀ Hf' H' P R' v, Tr (jn Em R) Hf H (jn P R') Hf' H' → PR ca X.K Hf' H' P (Rep ca X.K Hf' H' P v d) R' σ st' → Q v H'
        | _ => False) → te σ H Q)
    {Q : VK} (p : PR ca X.K Hf H Em True R σ st) (h : Post ca X Hf H (jn Em R) σ (eLc src g mt me w st) Q) : tLc wi t tt te w σ H Q := by
  refine hi.2 Hf H R σ st _ p (eLc_src h fun ds st1 Hf1 H1 R1 J t1 p1 it h1 => ?_)
  clear h t1 p
  intro Dl hD
  have hD1 : Hf1 Dl = none := (wl_new (o := .lst []) p1.w hD).2
  refine ⟨fun i m H' => m = ds.length - i ∧ i ≤ ds.length ∧ ∃ Hf' R' st' A acc, Tr (jn Em R1) Hf1 H1 (jn (fun b => b = Dl ∨ A b) R') Hf' H' ∧ Acc ca X.K Hf' H' Dl A acc R' (L2.wipe σ w) st' ∧ compD g mt me w (ds.drop i) st' acc = compD g mt me w ds (wipeS st1 w) [],
    ⟨ds.length, by simp, Nat.zero_le _, Hf1, R1, wipeS st1 w, Em, [], ?_, ⟨?_⟩, rfl⟩, ?_⟩
  · refine ⟨fun _ _ e => e, fun b o e _ => upd_keep hD b o e, fun b q => ?_, fun _ _ e => .inl e⟩
    rcases q with (q | q) | q
    · subst q; exact .inr hD
    · exact q.elim
    · exact .inl (.inr q)
  · have := (p1.wipe w).grow (o := .lst []) hD (P' := fun b => b = Dl ∨ Em b) (qq := ∃ vs, (upd H1 Dl (.lst [])) Dl = some (.lst vs) ∧ RepL ca X.K Hf1 (upd H1 Dl (.lst [])) Em vs [] ∧ ¬ Em Dl) ⟨[], upd_same, .nil, fun q => q⟩ (fun b q => q.elim id fun q => q.elim)
    exact this
  rintro i m H' ⟨rfl, hi', Hf', R', st', A, acc, t', ac, ef⟩
  have p' := ac.pr
  obtain ⟨g1, g2, g3⟩ := it Hf' H' t'.fx p'.w.ex
  by_cases hlt : i < ds.length
  · refine .inr ⟨g1 i hlt, fun H2 => i + 1 ≤ ds.length ∧ ∃ Hf2 R2 st2 A2 acc2, Tr (jn Em R1) Hf1 H1 (jn (fun b => b = Dl ∨ A2 b) R2) Hf2 H2 ∧ Acc ca X.K Hf2 H2 Dl A2 acc2 R2 (L2.wipe σ w) st2 ∧ compD g mt me w (ds.drop (i + 1)) st2 acc2 = compD g mt me w ds (wipeS st1 w) [],
      fun H2 ⟨q1, q2⟩ => ⟨ds.length - (i + 1), by omega, rfl, q1, q2⟩, fun x H2 hy => ?_⟩
    obtain ⟨d, ed⟩ : ∃ d, ds[i]? = some d := ⟨ds[i], by simp [hlt]⟩
    obtain ⟨hd, Hf2, x1, x2, x3, x4, rx⟩ := g3 i d x H2 ed hy
    obtain ⟨p2, t2⟩ := p'.drop.yield x1 x2 x3 x4
    have edr : ds.drop i = d :: ds.drop (i + 1) := by
      rw [List.drop_eq_getElem_cons
          hlt]
      simp only [List.getElem?_eq_getElem hlt, Option.some.injEq] at ed
      rw [ed]
    rw [edr, compD] at ef
    have hnf : compD g mt me w ds (wipeS st1 w) [] = .fail → False := fun z => by rw [z] at h1; exact h1
    -- the new list is beside the slots, all the way
    obtain ⟨vs0, eD, rA, nA⟩ := p'.pend
    refine hg Hf2 H2 Em R' (L2.wipe σ w) st' x d _ (p2.put rx) ?_
    cases eg : g d st' with
    | fail => rw [eg] at ef; exact hnf ef.symm
    | exc x0 st2 => rw [eg] at ef; exact hnf ef.symm
    | ok a st2 =>
      rw [eg] at ef
      intro Hf3 H3 R3 σ3 t3 p3 k3
      have ew : L2.wipe σ3 w = L2.wipe σ w := by rw [wipe_lk k3, wipe_wipe]
      refine ⟨ew, ?_⟩
      refine ht Hf3 H3 R3 σ3 st2 _ p3 ?_
      dsimp only [Res.bind, Res.noX] at ef
      cases et : mt st2 with
      | fail => rw [et] at ef; exact hnf ef.symm
      | exc x0 st4 => rw [et] at ef; exact hnf ef.symm
      | ok k st4 =>
        rw [et] at ef
        dsimp only at ef
        intro Hf4 H4 R4 t4 p4
        have tA := (t2.trans t3).trans t4
        have pAcc : PR ca X.K Hf' H' (fun b => b = Dl ∨ A b) True R' (L2.wipe σ w) st' := p'.imp fun _ => trivial
        cases k with
        | false =>
          show _ ≤ _ ∧ _
          rw [if_neg (by decide)] at ef
          obtain ⟨c1, c2, c3, c4, c5⟩ := PR.carry (ppf := fun _ _ => True) pAcc tA p4
          refine ⟨by omega, Hf4, R4, wipeS st4 w, A, acc, (t'.trans c5).less (fun b q => ?_), ⟨?_⟩, ef⟩
          · rcases q with q | q
            · exact .inl (.inl q)
            · exact .inr q
          · have p5 : PR ca X.K Hf4 H4 (fun b => b = Dl ∨ A b) (∃ vs, H4 Dl = some (.lst vs) ∧ RepL ca X.K Hf4 H4 A vs acc ∧ ¬ A Dl) R4 σ3 st4 :=
              ⟨⟨vs0, c1 Dl (.inl rfl) _ eD, rA.keep tA.fx (fun b q => c1 b (.inr q)), nA⟩, p4.len, p4.at_, p4.dj, c3, c4.mono fun b q => by
                rcases q with q | q
                · exact .inl (.inl q)
                · exact .inr q⟩
            have := p5.wipe w
            rw [ew] at this
            exact this
        | true =>
          show te σ3 H4 _
          rw [if_pos rfl] at ef
          refine he Hf4 H4 R4 σ3 st4 _ p4 ?_
          cases ee : me st4 with
          | fail => rw [ee] at ef; exact hnf ef.symm
          | exc x0 st5 => rw [ee] at ef; exact hnf ef.symm
          | ok y st5 =>
            rw [ee] at ef
            dsimp only at ef
            intro Hf5 H5 P5 R5 vy t5 p5
            obtain ⟨c1, c2, c3, c4, c5⟩ := PR.carry (ppf := fun _ _ => True) pAcc (tA.trans t5) p5
            by_cases hl : acc.length < 16777216
            · rw [if_pos hl] at ef
              have eD5 := c1 Dl (.inl rfl) _ eD
              have rA5 := rA.keep (tA.trans t5).fx (fun b q => c1 b (.inr q))
              refine ⟨vs0, eD5, by rw [rA.length, ← sz_eq]; exact hl, by omega, Hf5, R5, wipeS st5 w, fun b => A b ∨ P5 b, acc ++ [y], ?_, ⟨?_⟩, ef⟩
              · refine ((t'.trans c5).trans ⟨fun _ _ e => e, fun b o e n => ?_, fun b q => .inl q, fun _ _ e => .inl e⟩).less fun b q => ?_
                · rw [upd_ne fun z => n (.inl (.inl (.inl z)))]; exact e
                · rcases q with (q | q | q) | q
                  · exact .inl (.inl (.inl q))
                  · exact .inl (.inl (.inr q))
                  · exact .inl (.inr q)
                  · exact .inr q
              · have hnD : ∀ b, (A b ∨ P5 b) → b ≠ Dl := fun b q z => by
                  subst z
                  rcases q with q | q
                  · exact nA q
                  · exact c2 b (.inl rfl) q
                have hk : ∀ b o, b ≠ Dl → H5 b = some o → upd H5 Dl (.lst (vs0 ++ [vy])) b = some o := fun b o n e => by rw [upd_ne n]; exact e
                have rN := (repL_snoc rA5 p5.pend fun b q1 q2 => c2 b (.inr q1) q2).keep (H' := upd H5 Dl (.lst (vs0 ++ [vy]))) (fun _ _ e => e) fun b q o e => hk b o (hnD b q) e
                have p6 : PR ca X.K Hf5 (upd H5 Dl (.lst (vs0 ++ [vy]))) (fun b => b = Dl ∨ A b ∨ P5 b) (∃ vs, (upd H5 Dl (.lst (vs0 ++ [vy]))) Dl = some (.lst vs) ∧ RepL ca X.K Hf5 (upd H5 Dl (.lst (vs0 ++ [vy]))) (fun b => A b ∨ P5 b) vs (acc ++ [y]) ∧ ¬ (A Dl ∨ P5 Dl)) R5 σ3 st5 :=
                  ⟨⟨_, upd_same, rN, fun q => hnD Dl q rfl⟩, p5.len, fun k d e => by
                    obtain ⟨v, e1, r⟩ := p5.at_ k d e
                    exact ⟨v, e1, r.keep (fun _ _ e => e) fun b q o e => hk b o (fun z => c3 k b (.inl z) q) e⟩, p5.dj, fun k b q1 q2 => by
                    rcases q1 with q | q | q
                    · exact c3 k b (.inl q) q2
                    · exact c3 k b (.inr q) q2
                    · exact p5.dp k b q q2, ⟨fun b o e => by
                      by_cases z : b = Dl
                      · subst z
                        have := c4.nf b (.inl (.inl (.inl rfl)))
                        rw [this] at e; cases e
                      · exact hk b o z (c4.ex b o e), fun b q => by
                      by_cases z : b = Dl
                      · subst z; exact ⟨_, upd_same⟩
                      · obtain ⟨o, e⟩ := c4.dm b (by
                          rcases q with (q | q | q) | q
                          · exact .inl (.inl (.inl q))
                          · exact .inl (.inl (.inr q))
                          · exact .inl (.inr q)
                          · exact .inr q)
                        exact ⟨o, hk b o z e⟩, fun b q => c4.nf b (by
                          rcases q with (q | q | q) | q
                          · exact .inl (.inl (.inl q))
                          · exact .inl (.inl (.inr q))
                          · exact .inl (.inr q)
                          · exact .inr q)⟩⟩
                have := p6.wipe w
                rw [ew] at this
                exact this
            · rw [if_neg hl] at ef; exact (hnf ef.symm).elim
  · have e1 : i = ds.length := by omega
    subst e1
    refine .inl ⟨g2, ?_⟩
    rw [List.drop_length, compD] at ef
    rw [← ef] at h1
    have h2 : Post ca X Hf1 H1 (jn Em R1) σ (.ok (.lst true acc) st') Q := h1
    obtain ⟨vs0, eD, rA, nA⟩ := p'.pend
    exact h2 Hf' H' (fun b => b = Dl ∨ A b) R' (.ref Dl) t' ((p'.unwipe).imp fun _ => .lstO (.inl rfl) eD (rA.mono fun b q => ⟨.inr q, fun z => nA (z ▸ q)⟩))

/-- a reading keeps a meaning -/
def CER (ca : Nat → Addr) (X : Cx) (te : TE) (m : ME) : Prop := ∀ (Hf H : Hp) (R : Nat → Rg) (σ : L2.St) (st : Sl) (Q : VK), PR ca X.K Hf H Em True R σ st → Post ca X Hf H (jn Em R) σ (m st) Q → te σ H Q
theorem ce_of {e : Expr} {te : TE} {m : ME} (hp : PE X e te) (h : CER ca X te m) : CE ca X e m := fun Hf H R σ st Q p hq => we_of hp (h Hf H R σ st Q p hq)
theorem not_but {n i : Nat} {w : List Nat} (h : i ∈ w) : i ∉ but n w := fun q => by
  have := (List.mem_filter.mp q).2
  simp at this
  exact this h
/-- the block of a comprehension -/
abbrev bk (X : Cx) (scope : Scope) (s : Shared) (H : Hp) (C : Addr) (cl : List (Str × Addr)) (fp : List Addr) : Cx := X.blk s H scope (compEnvC scope cl C X.env) fp
def TeB (X : Cx) (scope : Scope) (e : Expr) : TE := fun σ H Q => ∀ s H0 C cl fp, We (bk X scope s H0 C cl fp) e σ H Q
theorem lc_cer {wi : TI} {src : Sl → Res (List D)} {tg elt iter : Expr} {scope : Scope} {t : TG} {g : MG} {me : ME} {w : List Nat}
    (hi : CI ca X tg iter wi src) (hg : ∀ n s H C cl fp, CG ca (bk X scope s H C cl fp) (but n w) tg t g) (he : ∀ s H C cl fp, CE ca (bk X scope s H C cl fp) elt me) : CER ca X (tLc wi t tYes (TeB X scope elt) w) (eLc src g tYesM me w) :=
  fun Hf H R σ st Q p h => lc_read (elt := elt) (mt := tYesM) hi (fun Hf H P R σ st v d Q p h => (hg σ.length {} H 0 [] []).2 Hf H P R σ st v d Q p h) (fun Hf H R σ st Q p h => h Hf H R (Tr.refl fun _ q => q) p)
    (fun Hf H R σ st Q p h s H0 C cl fp => he s H0 C cl fp Hf H R σ st Q p (by
      cases e : me st with
      | ok d st1 => rw [e] at h; exact h
      | exc x st1 => rw [e] at h; exact h.elim
      | fail => rw [e] at h; exact h)) p h
theorem pe_teB {scope : Scope} {elt : Expr} : ∀ (s : Shared) (H : Hp) (C : Addr) (cl : List (Str × Addr)) (fp : List Addr), PE (bk X scope s H C cl fp) elt (TeB X scope elt) := fun s H C cl fp => ⟨fun pins s1 σ H1 Q I h => h s H C cl fp pins s1 I⟩
/-- [elt for tg in iter] -/
theorem ce_lc {wi : TI} {src : Sl → Res (List D)} {tg elt iter : Expr} {scope : Scope} {own : List (Str × Nat)} {pos : Pos} {t : TG} {g : MG} {me : ME} (hc : X.calm = true) (hN : X.N.Nodup) (hi : CI ca X tg iter wi src) (ok : BlkOk X.N X.env.scope scope own)
    (hg : ∀ n s H C cl fp, CG ca (bk X scope s H C cl fp) (but n (own.map (·.2))) tg t g) (he : ∀ s H C cl fp, CE ca (bk X scope s H C cl fp) elt me) (hs : ∀ x, foldedSetIterable iter X.env x = pure x := by intro _; rfl) :
    CE ca X (.ListComp elt [⟨tg, iter, [], 0⟩] scope pos) (eLc src g tYesM me (own.map (·.2))) :=
  ce_of (pe_lc hc hN hi.1 ok (fun s H C cl fp => (hg 0 s H C cl fp).1) (fun _ _ _ _ _ => pts_nil) pe_teB hs) (lc_cer hi hg he)
/-! ### list(range(..)) -/
end
end DL

/-! DL10: slices; methods of lists; is of truth values. -/
namespace DL
open PySem L2 PyProof.Rows

def cutO (lo hi : Option Int) : List D → Option Out
  | [x] => match lstItems x with
    | some xs => newLc (cutD xs lo hi)
    | none => none
  | _ => none
def oSl01 : List D → Option Out
  | [x, .int b] => cutO none (some b) [x]
  | _ => none
def oIsB : List D → Option Out
  | [.bl a, .bl b] => some (.val (.bl (decide (a = b))))
  | _ => none
def oNotB : List D → Option Out
  | [.bl a, .bl b] => some (.val (.bl (!decide (a = b))))
  | _ => none
def isLst (d : D) : Bool := (lstItems d).isSome
/-- a method that only looks: the receiver a slot -/
def eMt (i : Nat) (f : List D → Option Out) (os : List Opd) : ME := fun st => match getS st i with
  | some d0 => if isLst d0 then opds os st fun gs st2 => (match (getS st2 i).bind fun x => (gs st2).bind fun ys => f (x :: ys) with
    | some o => .ok o.d st2
    | none => .fail) else .fail
  | none => .fail
/-- xs.append(e), xs the slot i's own list -/
def eApp (i : Nat) (m : ME) : ME := fun st => match getS st i with
  | some d0 => if isLst d0 then (m st).bind fun d st1 => (match getS st1 i with
    | some (.lst true xs) => if xs.length < 16777216 then .ok .non (st1.set i (some (.lst true (xs ++ [d])))) else .fail
    | _ => .fail) else .fail
  | none => .fail
def ext2 : Option D → D → Option (List D)
  | some (.lst true xs), .lst _ ys => if colds ys && decide (xs.length + ys.length ≤ 16777216) then some (xs ++ ys) else none
  | _, _ => none
/-- xs.extend(e) -/
def eExt (i : Nat) (m : ME) : ME := fun st => match getS st i with
  | some d0 => if isLst d0 then (m st).bind fun d st1 => (match ext2 (getS st1 i) d with
    | some zs => .ok .non (st1.set i (some (.lst true zs)))
    | none => .fail) else .fail
  | none => .fail
section
variable {ca : Nat → Addr} {K : PySem.W.Frag} {Hf H Hf1 H1 Hf2 H2 : Hp} {S S1 S2 P P1 P2 : Rg} {R R1 R2 : Nat → Rg} {pp qq : Prop} {σ σ' : L2.St} {st st' : Sl} {v : V} {d : D} {vs : List V} {ds xs : List D} {X : Cx} {L : List Nat}

/-! ### slices of lists -/
theorem repL_cut {lo hi : Option Int} (r : RepL ca K Hf H S vs xs) (hc : colds (cutD xs lo hi) = true) : RepL ca K Hf H Em (cutV vs lo hi) (cutD xs lo hi) := by
  have rd : ∀ (n : Nat) {S : Rg} {vs : List V} {xs : List D}, RepL ca K Hf H S vs xs → RepL ca K Hf H S (vs.drop n) (xs.drop n) := by
    intro n
    induction n with
    | zero => intro S vs xs r; exact r
    | succ n ih =>
      intro S vs xs r
      cases r with
      | nil => exact .nil
      | cons r1 r2 h1 h2 h3 => exact (ih r2).mono h2
  have rt : ∀ (n : Nat) {S : Rg} {vs : List V} {xs : List D}, RepL ca K Hf H S vs xs → RepL ca K Hf H S (vs.take n) (xs.take n) := by
    intro n
    induction n with
    | zero => intro S vs xs r; exact .nil
    | succ n ih =>
      intro S vs xs r
      cases r with
      | nil => exact .nil
      | cons r1 r2 h1 h2 h3 => exact .cons r1 (ih r2) h1 h2 h3
  refine repL_cold (S := S) ?_ hc
  unfold cutV cutD
  rw [r.length]
  exact rt _ (rd _ r)
theorem os_cut {lo hi : Option Int} {x : D} {o : Out} {Q : VK} (hx : Ex Hf H) (r1 : Rep ca K Hf H S v x) (h : cutO lo hi [x] = some o) (q : OutQ ca K Hf H o Q) : rSlL K v lo hi H Q := by
  dsimp only [cutO] at h
  split at h
  · rename_i xs ei
    obtain ⟨rfl, hc, hl⟩ := newLc_some h
    obtain ⟨a, vs, T, rfl, e2, r3⟩ := rep_lstItems hx r1 ei
    exact ⟨a, vs, rfl, e2, fun p hp => q p _ hp (repL_cut r3 hc)⟩
  · cases h
/-! ### methods that look -/
theorem rep_isLst (hx : Ex Hf H) (r : Rep ca K Hf H S v d) (h : isLst d = true) : tyV K "list" v H := by
  obtain ⟨xs, e⟩ := Option.isSome_iff_exists.mp h
  obtain ⟨a, vs, T, rfl, e2, r3⟩ := rep_lstItems hx r e
  exact .inl ⟨rfl, vs, e2⟩
/-! ### methods that write -/
theorem ce_app {o e : Expr} {i : Nat} {m : ME} {apos cpos : Pos} (ho : PE X o (tVar i)) (he : CE ca X e m)
    (hbase : attributeBase o "append" X.env (eval o X.env) = eval o X.env := by rfl)
    (hfew : ((backTo cpos (starEach [e] X.env)).all (fun x => !x.1) &&
        (backToKw cpos (keywordEach [] X.env)).all (fun x => x.1.isSome)
      && decide ([e].length + ([] : List Keyword).length + (if ([] : List Keyword).isEmpty then 0 else 1) < 30)) = true := by rfl)
    (hline : (apos.endLine == cpos.line) = true := by rfl) (hs : starEach [e] X.env = (false, eval e X.env) :: starEach [] X.env := by rfl) :
    CE ca X (.Call (.Attribute o "append" apos) [e] [] cpos) (eApp i m) := fun Hf H R σ st Q p h => by
  refine we_of (pe_bm PySem.F.plainAttrs_list PySem.F.slot_list_append PySem.F.type_list_append mt_append ho (pa_cons (we_pe X e) pa_nil hs) hbase hfew hline hs rfl) ?_
  unfold eApp at h
  cases g : getS st i with
  | none => rw [g] at h; exact h.elim
  | some d0 =>
    rw [g] at h
    dsimp only at h
    by_cases hl : isLst d0 = true
    · rw [if_pos hl] at h
      obtain ⟨x, ex, rx⟩ := p.at_ i d0 g
      refine ⟨x, ex, rep_isLst p.w.ex rx hl, he Hf H R σ st _ p ?_⟩
      cases em : m st with
      | fail => rw [em] at h; exact h
      | exc x0 st1 => rw [em] at h; exact h
      | ok d st1 =>
        rw [em] at h
        have h0 : Post ca X Hf H (jn Em R) σ (match getS st1 i with
          | some (.lst true xs) => if xs.length < 16777216 then .ok .non (st1.set i (some (.lst true (xs ++ [d])))) else .fail
          | _ => .fail) Q := h
        clear h
        intro Hf1 H1 P1 R1 v t1 p1
        cases g1 : getS st1 i with
        | none => rw [g1] at h0; exact h0.elim
        | some dx =>
          rw [g1] at h0
          cases dx with
          | lst ow xs =>
            cases ow with
            | false => exact h0.elim
            | true =>
              dsimp only at h0
              by_cases hz : xs.length < 16777216
              · rw [if_pos hz] at h0
                obtain ⟨a, vs, e1, ra, e2, r2⟩ := p1.drop.ownList g1
                rw [ex] at e1
                cases e1
                refine ⟨a, vs, v, rfl, rfl, e2, by rw [r2.length, ← sz_eq]; exact hz, ?_⟩
                have hk : ∀ b o, b ≠ a → H1 b = some o → upd H1 a (.lst (vs ++ [v])) b = some o := fun b o n e => by rw [upd_ne n]; exact e
                have hPa : ∀ b, P1 b → b ≠ a := fun b q z => by subst z; exact p1.dp i b q ra
                have rN := (repL_snoc r2 p1.pend fun b q1 q2 => p1.dp i b q2 q1.1).keep (H' := upd H1 a (.lst (vs ++ [v]))) (fun _ _ e => e) fun b q o e => hk b o (q.elim (fun q => q.2) (hPa b)) e
                refine h0 Hf1 (upd H1 a (.lst (vs ++ [v]))) Em (fun j b => if j = i then R1 i b ∨ P1 b else R1 j b) .non (t1.trans ⟨fun _ _ e => e, fun b o e n => hk b o (fun z => n (.inr ⟨i, z ▸ ra⟩)) e, fun b q => ?_, fun _ _ e => .inl e⟩) ⟨.non, by rw [List.length_set]; exact p1.len, fun j d' e => ?_, fun j k b q1 q2 => ?_, fun _ _ q => q.elim, ⟨fun b o e => ?_, fun b q => ?_, fun b q => ?_⟩⟩
                · rcases q with q | ⟨j, q⟩
                  · exact q.elim
                  · split at q
                    · exact .inl (q.elim (fun q => .inr ⟨i, q⟩) .inl)
                    · exact .inl (.inr ⟨j, q⟩)
                · rcases set_get e with ⟨q1, q2⟩ | ⟨q1, q2⟩
                  · subst q1
                    cases q2
                    refine ⟨_, ex, ?_⟩
                    rw [show (fun b => if i = i then R1 i b ∨ P1 b else R1 i b) = (fun b => R1 i b ∨ P1 b) from by funext b; rw [if_pos rfl]]
                    exact .lstO (.inl ra) upd_same (rN.mono fun b q => q.elim (fun q => ⟨.inl q.1, q.2⟩) fun q => ⟨.inr q, hPa b q⟩)
                  · obtain ⟨v', e3, r3⟩ := p1.at_ j d' q2
                    refine ⟨v', e3, ?_⟩
                    rw [show (fun b => if j = i then R1 i b ∨ P1 b else R1 j b) = R1 j from by funext b; rw [if_neg (Ne.symm q1)]]
                    exact r3.keep (fun _ _ e => e) fun b q o e => hk b o (fun z => q1 (p1.dj i j a ra (z ▸ q))) e
                · split at q1 <;> split at q2
                  · rename_i z1 z2; exact z1.trans z2.symm
                  · rename_i z1 z2
                    rcases q1 with q1 | q1
                    · exact z1.trans (p1.dj i k b q1 q2)
                    · exact (p1.dp k b q1 q2).elim
                  · rename_i z1 z2
                    rcases q2 with q2 | q2
                    · exact (p1.dj j i b q1 q2).trans z2.symm
                    · exact (p1.dp j b q2 q1).elim
                  · exact p1.dj j k b q1 q2
                · have hf : Hf1 a = none := p1.w.nf a (.inr ⟨i, ra⟩)
                  have := p1.w.ex b o e
                  exact hk b o (fun z => by subst z; rw [hf] at e; cases e) this
                · have : jn P1 R1 b := by
                    rcases q with q | ⟨j, q⟩
                    · exact q.elim
                    · split at q
                      · exact q.elim (fun q => .inr ⟨i, q⟩) .inl
                      · exact .inr ⟨j, q⟩
                  obtain ⟨o, e⟩ := p1.w.dm b this
                  by_cases z : b = a
                  · subst z; exact ⟨_, upd_same⟩
                  · exact ⟨o, hk b o z e⟩
                · have : jn P1 R1 b := by
                    rcases q with q | ⟨j, q⟩
                    · exact q.elim
                    · split at q
                      · exact q.elim (fun q => .inr ⟨i, q⟩) .inl
                      · exact .inr ⟨j, q⟩
                  exact p1.w.nf b this
              · rw [if_neg hz] at h0; exact h0.elim
          | _ => exact h0.elim
    · rw [if_neg hl] at h; exact h.elim
end
end DL

/-! DL11: instances: made, their fields stored and read, properties, methods. -/
namespace DL
open PySem L2 PyProof.Rows

/-- C(..): a new instance goes to __init__ (f), which keeps its parameter 0 -/
def eMake (C : Nat) (f : MF) (ms : MA) : ME := fun st => (ms st).bind fun ds st1 => match f (.ins true C [] :: ds) with
  | .ok .non ps => (match getS ps 0 with
    | some d => .ok d st1
    | none => .fail)
  | .exc x _ => .exc x st1
  | _ => .fail
def putD (f : Str) (d : D) : List (Str × D) → List (Str × D)
  | [] => [(f, d)]
  | (g, x) :: r => if g = f then (g, d) :: r else (g, x) :: putD f d r
/-- self.f = e, self the slot i's own instance of the class C -/
def sFldM (C i : Nat) (f : Str) (m : ME) : MS := fun st => (m st).toS fun d st1 => match getS st1 i with
  | some (.ins true C' fs) => if C' = C ∧ fs.length < 1000 ∧ cold d = true then .next (st1.set i (some (.ins true C' (putD f d fs)))) else .fail
  | _ => .fail
/-- o.f -/
def oFld (C : Nat) (f : Str) : List D → Option Out
  | [.ins _ C' fs] => if C' = C then (match fs.lookup f with
    | some d => if cold d then some (.val d) else none
    | none => none) else none
  | _ => none

section
variable {ca : Nat → Addr} {K : PySem.W.Frag} {Hf H Hf1 H1 Hf2 H2 : Hp} {S S1 S2 P P1 P2 : Rg} {R R1 R2 : Nat → Rg} {pp qq : Prop} {σ σ' : L2.St} {st st' : Sl} {v : V} {d : D} {vs : List V} {ds xs : List D} {X : Cx} {L : List Nat}

/-! ### reading a field -/
theorem lookup_keys {α β : Type} : ∀ {fs : List (Str × α)} {gs : List (Str × β)} {f : Str} {j : Nat} {b : β}, fs.map (·.1) = gs.map (·.1) → gs.lookup f = some b → ∃ (j : Nat) (a : α), fs.lookup f = some a ∧ (fs.map (·.2))[j]? = some a ∧ (gs.map (·.2))[j]? = some b
  | [], [], _, _, _, _, h => by cases h
  | [], _ :: _, _, _, _, e, _ => by cases e
  | _ :: _, [], _, _, _, e, _ => by cases e
  | (x, a) :: fs, (y, b') :: gs, f, j, b, e, h => by
    simp only [List.map_cons,
        List.cons.injEq] at e
    obtain ⟨rfl, e⟩ := e
    rw [List.lookup_cons] at h ⊢
    cases hq : (f == x) with
    | true =>
      rw [hq] at h
      cases h
      exact ⟨0, a, rfl, rfl, rfl⟩
    | false =>
      rw [hq] at h
      obtain ⟨k, a', h1, h2, h3⟩ := lookup_keys (j := 0) e h
      exact ⟨k + 1, a', h1, by simpa using h2, by simpa using h3⟩
theorem rep_ins {o : Bool} {C : Nat} {gs : List (Str × D)} (hx : Ex Hf H) (r : Rep ca K Hf H S v (.ins o C gs)) : ∃ a dx fs T, v = .ref a ∧ H a = some (.ins (ca C) dx fs) ∧ fs.map (·.1) = gs.map (·.1) ∧ RepL ca K Hf H T (fs.map (·.2)) (gs.map (·.2)) := by
  cases r with
  | insF e k r => exact ⟨_, _, _, Em, rfl, hx _ _ e, k, r⟩
  | insO s e k r => exact ⟨_, _, _, _, rfl, e, k, r⟩
theorem os_fld {C : Nat} {f : Str} : OpS ca K (rl1 fun x H Q => ∃ a dx fs v, x = .ref a ∧ H a = some (.ins (ca C) dx fs) ∧ fs.lookup f = some v ∧ Q v H) (oFld C f) := fun Hf H vs ds o Q hx rd h q => by
  match ds, h with
  | [.ins ow C' gs], hh =>
    dsimp only [oFld] at hh
    by_cases hC : C' = C
    · rw [if_pos hC] at hh
      subst hC
      cases el : gs.lookup f with
      | none => rw [el] at hh; cases hh
      | some dd =>
        rw [el] at hh
        dsimp only at hh
        by_cases hc : cold dd = true
        · rw [if_pos hc] at hh
          cases hh
          obtain ⟨v, S, e1, r1⟩ := rdl1 rd rfl
          subst e1
          obtain ⟨a, dx, fs, T, rfl, e2, k, r⟩ := rep_ins hx r1
          obtain ⟨j, v', h1, h2, h3⟩ := lookup_keys (j := 0) k el
          obtain ⟨v2, T2, e3, r2, _⟩ := repL_at r h3
          rw [h2] at e3
          cases e3
          have hd : hot dd = false := by unfold cold at hc; simpa using hc
          exact ⟨a, dx, fs, v', rfl, e2, h1, q v' (r2.cold hd)⟩
        · rw [if_neg hc] at hh; cases hh
    · rw [if_neg hC] at hh; cases hh
theorem ce_fld {e : Expr} {oe : Opd} {C : Nat} {f : Str} {pos : Pos} (c : Cls X.K (ca C)) (n : NoAttr X.K (ca C) f) (he : CO ca X e oe) (hb : attributeBase e f X.env (eval e X.env) = eval e X.env := by rfl) : CE ca X (.Attribute e f pos) (eOp (oFld C f) [oe]) :=
  ce_op (es := [e]) (fun σ H Q h => we_of (pe_fld (we_pe X e) hb) (by
    refine ⟨fun pins s I => ?_⟩
    refine thn (We.run h pins s I) fun u s1 hh => ?_
    obtain ⟨x, H1, I1, r1, a, dx, fs, v, e1, e2, e3, q⟩ := hh
    exact ⟨x, H1, I1, r1, a, ca C, dx, fs, v, e1, e2, c, n, e3, q⟩)) (.cons he .nil) os_fld
/-- a property whose getter hands back the field f' -/
theorem ce_prop {e : Expr} {oe : Opd} {C : Nat} {f f' : Str} {p g : Addr} {k : Nat} {fd : FuncData} {ps : List Str} {pos : Pos} (c : Cls X.K (ca C)) (hp : PropOf X.K (ca C) f p g) (F : FnOk X.prog X.w X.K X.mg X.base (L2.CX X.prog X.w) k g fd ps (getSp (ca C) f')) (hr : Room (k + 1) X.A) (hb : Binds X.K fd ps []) (he : CO ca X e oe)
    (hab : attributeBase e f X.env (eval e X.env) = eval e X.env := by rfl) : CE ca X (.Attribute e f pos) (eOp (oFld C f') [oe]) :=
  ce_op (es := [e]) (fun σ H Q h => we_of (pe_prop (E := E0) (we_pe X e) c hp F hr hb .nil passL hab) (by
    refine ⟨fun pins s I => ?_⟩
    refine thn (We.run h pins s I) fun u s1 hh => ?_
    obtain ⟨x, H1, I1, r1, a, dx, fs, v, e1, e2, e3, q⟩ := hh
    exact ⟨x, H1, I1, r1, a, dx, fs, e1, e2, a, dx, fs, v, rfl, e2, e3, q⟩)) (.cons he .nil) os_fld

/-! ### storing a field -/
theorem putD_keys {f : Str} {y : V} {d : D} : ∀ {fs : List (Str × V)} {gs : List (Str × D)}, fs.map (·.1) = gs.map (·.1) → (putF f y fs).map (·.1) = (putD f d gs).map (·.1)
  | [], [], _ => rfl
  | [], _ :: _, e => by cases e
  | _ :: _, [], e => by cases e
  | (x, a) :: fs, (y', b) :: gs, e => by
    simp only [List.map_cons,
        List.cons.injEq] at e
    obtain ⟨rfl, e⟩ := e
    rw [putF, putD]
    split
    · simp [e]
    · simp [putD_keys (f := f) (y := y) (d := d) e]
theorem putD_rep {f : Str} {y : V} {d : D} (rd : Rep ca K Hf H Em y d) : ∀ {S : Rg} {fs : List (Str × V)} {gs : List (Str × D)}, fs.map (·.1) = gs.map (·.1) → RepL ca K Hf H S (fs.map (·.2)) (gs.map (·.2)) → RepL ca K Hf H S ((putF f y fs).map (·.2)) ((putD f d gs).map (·.2))
  | _, [], [], _, _ => (RepL.one rd).mono fun _ q => q.elim
  | _, [], _ :: _, e, _ => by cases e
  | _, _ :: _, [], e, _ => by cases e
  | _, (x, a) :: fs, (y', b) :: gs, e, r => by
    simp only [List.map_cons,
        List.cons.injEq] at e
    obtain ⟨rfl, e⟩ := e
    rw [putF, putD]
    cases r with
    | cons r1 r2 h1 h2 h3 =>
      split
      · exact .cons (S1 := Em) rd r2 (fun _ q => q.elim) h2 fun _ q _ => q
      · exact .cons r1 (putD_rep rd e r2) h1 h2 h3
theorem PR.ownIns {i C : Nat} {gs : List (Str × D)} (p : PR ca K Hf H Em True R σ st) (h : getS st i = some (.ins true C gs)) : ∃ a dx fs, σ[i]? = some (some (.ref a)) ∧ R i a ∧ H a = some (.ins (ca C) dx fs) ∧ fs.map (·.1) = gs.map (·.1) ∧ RepL ca K Hf H (fun b => R i b ∧ b ≠ a) (fs.map (·.2)) (gs.map (·.2)) := by
  obtain ⟨v, e, r⟩ := p.at_ i _ h
  cases r with
  | insO s e2 k r => exact ⟨_, _, _, e, s, e2, k, r⟩
theorem PR.writeIns {i C : Nat} {gs ys : List (Str × D)} {a dx : Addr} {ws : List (Str × V)} (p : PR ca K Hf H Em True R σ st) (h : getS st i = some (.ins true C gs)) (hv : σ[i]? = some (some (.ref a))) (ha : R i a) (hk : ws.map (·.1) = ys.map (·.1))
    (r : RepL ca K Hf H (fun b => R i b ∧ b ≠ a) (ws.map (·.2)) (ys.map (·.2))) : PR ca K Hf (upd H a (.ins (ca C) dx ws)) Em True R σ (st.set i (some (.ins true C ys))) ∧ Tr (jn Em R) Hf H (jn Em R) Hf (upd H a (.ins (ca C) dx ws)) := by
  have hk' : ∀ b o, b ≠ a → H b = some o → upd H a (.ins (ca C) dx ws) b = some o := fun b o n e => by rw [upd_ne n]; exact e
  have hf : Hf a = none := p.w.nf a (.inr ⟨i, ha⟩)
  refine ⟨⟨trivial, ?_, fun j d e => ?_, p.dj, fun _ _ q => q.elim, ⟨fun b o e => ?_, fun b q => ?_, p.w.nf⟩⟩, ⟨fun _ _ e => e, fun b o e n => hk' b o (fun z => n (.inr ⟨i, z ▸ ha⟩)) e, fun b q => .inl q, fun _ _ e => .inl e⟩⟩
  · rw [List.length_set]; exact p.len
  · rcases set_get e with ⟨q1, q2⟩ | ⟨q1, q2⟩
    · subst q1
      cases q2
      exact ⟨_, hv, .insO ha upd_same hk (r.keep (fun _ _ e => e) fun b q o e => hk' b o q.2 e)⟩
    · obtain ⟨v', e2, r2⟩ := p.at_ j d q2
      exact ⟨v', e2, r2.keep (fun _ _ e => e) fun b q o e => hk' b o (fun z => q1 (p.dj i j a ha (z ▸ q))) e⟩
  · have := p.w.ex b o e
    exact hk' b o (fun z => by subst z; rw [hf] at e; cases e) this
  · obtain ⟨o, e⟩ := p.w.dm b q
    by_cases z : b = a
    · subst z; exact ⟨_, upd_same⟩
    · exact ⟨o, hk' b o z e⟩
theorem cs_fld {o value : Expr} {i C : Nat} {f : Str} {m : ME} {pos pos' : Pos} (c : Cls X.K (ca C)) (n : NoAttr X.K (ca C) f) (ho : PE X o (tVar i)) (he : CE ca X value m) (hs : swapsWith value (some (.Attribute o f pos')) pos.line X.env = pure false := by rfl) :
    CS ca X L (.Assign [.Attribute o f pos'] value pos) (sFldM C i f m) := fun Hf H R σ st E p h => by
  refine ws_of (ps_fld ho (we_pe X value) hs) (he Hf H R σ st _ p ?_)
  refine post_toS h fun d st1 Hf1 H1 P1 R1 v e1 t1 p1 h1 => ?_
  cases g : getS st1 i with
  | none => rw [g] at h1; exact h1.elim
  | some dx =>
    rw [g] at h1
    cases dx with
    | ins ow C' gs =>
      cases ow with
      | false => exact h1.elim
      | true =>
        dsimp only at h1
        by_cases hc : C' = C ∧ gs.length < 1000 ∧ cold d = true
        · rw [if_pos hc] at h1
          obtain ⟨rfl, hl, hcd⟩ := hc
          have hd : hot d = false := by unfold cold at hcd; simpa using hcd
          obtain ⟨a, dx, fs, ev, ra, e2, kk, r2⟩ := p1.drop.ownIns g
          have hlen : fs.length = gs.length := by
            have := congrArg List.length kk
            simpa using this
          refine ⟨.ref a, ev, a, _, dx, fs, rfl, e2, c, n, by omega, ?_⟩
          obtain ⟨p2, t2⟩ := p1.drop.writeIns (dx := dx) g ev ra (putD_keys (f := f) (y := v) (d := d) kk) (putD_rep (p1.pend.cold hd) kk r2)
          exact h1 Hf1 _ R1 σ (t2.more fun b q => q.elim (fun q => q.elim) .inr) p2 Lk.refl
        · rw [if_neg hc] at h1; exact h1.elim
    | _ => exact h1.elim

/-! ### an instance made -/
/-- what __init__ hands back -/
theorem postC_make {C : Nat} {m : MF} {Q : VK} {x dx : Addr} (p : PR ca X.K Hf H P (RepL ca X.K Hf H P vs ds) R σ st) (hx : H x = none) (hdx : H dx = none) (hne : dx ≠ x)
    (h : Post ca X Hf H (jn P R) σ (match m (.ins true C [] :: ds) with
      | .ok .non ps => (match getS ps 0 with | some d => .ok d st | none => .fail)
      | .exc x _ => .exc x st
      | _ => .fail) Q) :
    spM ca X.K m (.ref x :: vs) (upd (upd H dx (.own x)) x (.ins (ca C) dx [])) (fun v H2 => v = .non ∧ Q (.ref x) H2) (fun cls dd H' => wX X cls dd σ H') := by
  have hx' : (upd H dx (.own x)) x = none := by rw [upd_ne (Ne.symm hne)]; exact hx
  have k1 : Ex H (upd H dx (.own x)) := upd_keep hdx
  have k2 : Ex H (upd (upd H dx (.own x)) x (.ins (ca C) dx [])) := fun b o e => upd_keep hx' b o (k1 b o e)
  have w1 := (wl_new (o := .own x) p.w hdx)
  have w2 := (wl_new (o := .ins (ca C) dx []) w1.1 hx')
  have hnx : ∀ b, jn P R b → b ≠ x := fun b q z => by subst z; obtain ⟨o, e⟩ := p.w.dm b q; rw [hx] at e; cases e
  have rr : RepL ca X.K Hf (upd (upd H dx (.own x)) x (.ins (ca C) dx [])) (fun b => b = x ∨ P b) (.ref x :: vs) (.ins true C [] :: ds) :=
    .cons (S1 := fun b => b = x) (S2 := P) (.insO rfl upd_same rfl .nil) (p.pend.keep (fun _ _ e => e) fun b _ o e => k2 b o e) (fun b q => .inl q) (fun b q => .inr q) fun b q1 q2 => hnx b (.inl q2) q1
  have pr : PR ca X.K Hf (upd (upd H dx (.own x)) x (.ins (ca C) dx [])) (fun b => b = x ∨ P b) (RepL ca X.K Hf (upd (upd H dx (.own x)) x (.ins (ca C) dx [])) (fun b => b = x ∨ P b) (.ref x :: vs) (.ins true C [] :: ds)) R σ st :=
    ⟨rr, p.len, fun i d e => by
      obtain ⟨v, e1, r⟩ := p.at_ i d e
      exact ⟨v, e1, r.keep (fun _ _ e => e) fun b _ o e => k2 b o e⟩, p.dj, fun i b q1 q2 => q1.elim (fun q => hnx b (.inr ⟨i, q2⟩) q) fun q => p.dp i b q q2, ⟨w2.1.ex, fun b q => by
      rcases q with (q | q) | q
      · subst q; exact ⟨_, upd_same⟩
      · exact w2.1.dm b (.inl q)
      · exact w2.1.dm b (.inr q), fun b q => by
      rcases q with (q | q) | q
      · subst q; exact w2.2
      · exact w2.1.nf b (.inl q)
      · exact w2.1.nf b (.inr q)⟩⟩
  have t0 : Tr (jn P R) Hf H (jn (fun b => b = x ∨ P b) R) Hf (upd (upd H dx (.own x)) x (.ins (ca C) dx [])) := ⟨fun _ _ e => e, fun b o e _ => k2 b o e, fun b q => by
    rcases q with (q | q) | q
    · subst q; exact .inr hx
    · exact .inl (.inl q)
    · exact .inl (.inr q), fun _ _ e => .inl e⟩
  refine ⟨Hf, fun b => b = x ∨ P b, .ins true C [] :: ds, rr, pr.w.mono fun b q => .inl q, ?_⟩
  have wR : Wl Hf (upd (upd H dx (.own x)) x (.ins (ca C) dx [])) (tot R) := pr.w.mono fun b q => .inr q
  have old : ∀ {Hf' H' : Hp} {S' P' : Rg} {pp : Prop}, Tr (fun b => b = x ∨ P b) Hf (upd (upd H dx (.own x)) x (.ins (ca C) dx [])) S' Hf' H' → Wl Hf' H' S' → (∀ b, P' b → S' b) → pp → PR ca X.K Hf' H' P' pp R σ st ∧ Tr (jn P R) Hf H (jn P' R) Hf' H' := fun {Hf' H' S' P' pp} t w hP q => by
    have bs := t.beside wR fun b q1 q2 => by obtain ⟨i, q1⟩ := q1; exact pr.dp i b q2 q1
    refine ⟨⟨q, p.len, fun i d e => ?_, p.dj, fun i b q1 q2 => bs.2.1 b ⟨i, q2⟩ (hP b q1), ⟨w.ex, fun b q => ?_, fun b q => ?_⟩⟩, ?_⟩
    · obtain ⟨v, e1, r⟩ := pr.at_ i d e
      exact ⟨v, e1, r.keep t.fx fun b q o e => bs.1 b ⟨i, q⟩ o e⟩
    · rcases q with q | q
      · exact w.dm b (hP b q)
      · exact (bs.2.2 b q).1
    · rcases q with q | q
      · exact w.nf b (hP b q)
      · exact (bs.2.2 b q).2
    · refine t0.trans (((t.with (tot R)).more fun b q => ?_).less fun b q => ?_)
      · exact q.elim .inr .inl
      · exact q.elim (fun q => .inr (hP b q)) .inl
  cases em : m (.ins true C [] :: ds) with
  | fail => rw [em] at h; exact h
  | ok d ps =>
    rw [em] at h
    cases d with
    | non =>
      dsimp only at h
      cases eg : getS ps 0 with
      | none => rw [eg] at h; exact h.elim
      | some d' =>
        rw [eg] at h
        intro Hf' H' P' Rp v t q
        obtain ⟨v', e1, r0⟩ := q.at_ 0 d' eg
        cases e1
        obtain ⟨p2, t2⟩ := old (P' := Rp 0) (pp := Rep ca X.K Hf' H' (Rp 0) (.ref x) d') t q.w (fun b z => .inr ⟨0, z⟩) r0
        exact ⟨rep_non q.pend, h Hf' H' (Rp 0) R (.ref x) t2 p2⟩
    | _ => exact h.elim
  | exc y ps =>
    rw [em] at h
    intro Hf' H' Rp cls dd t q
    obtain ⟨p2, t2⟩ := old (P' := Em) t q.w (fun b z => z.elim) q.pend
    exact h Hf' H' R cls dd t2 p2
end
end DL

/-! DL12: == and != of instances by an own __eq__; isinstance; methods called. -/
namespace DL
open PySem L2 PyProof.Rows

/-- a value is let stand -/
def eFz (m : ME) : ME := fun st => (m st).bind fun d st1 => .ok (frz d) st1
def insC : D → Option Nat
  | .ins false C _ => some C
  | _ => none
/-- a == b (a != b: neg) of two instances of the class C that stand, by the meaning of __eq__ -/
def eEqI (neg : Bool) (C : Nat) (f : MF) (oa ob : Opd) : ME := fun st => opds [oa, ob] st fun gs st2 => match gs st2 with
  | some [x, y] => if insC x = some C ∧ insC y = some C then (match f [x, y] with
    | .ok (.bl k) _ => .ok (.bl (if neg then !k else k)) st2
    | _ => .fail) else .fail
  | _ => .fail

section
variable {ca : Nat → Addr} {K : PySem.W.Frag} {Hf H Hf1 H1 Hf2 H2 : Hp} {S S1 S2 P P1 P2 : Rg} {R R1 R2 : Nat → Rg} {pp qq : Prop} {σ σ' : L2.St} {st st' : Sl} {v : V} {d : D} {vs : List V} {ds xs : List D} {X : Cx} {L : List Nat}
theorem ce_fz {e : Expr} {m : ME} (h : CE ca X e m) : CE ca X e (eFz m) := fun Hf H R σ st Q p hq => by
  refine h Hf H R σ st Q p ?_
  unfold eFz at hq
  cases r : m st with
  | fail => rw [r] at hq; exact hq
  | exc x st1 => rw [r] at hq; exact hq
  | ok d st1 =>
    rw [r] at hq
    intro Hf1 H1 P1 R1 v t1 p1
    obtain ⟨Hf2, x1, x2, p2, t2⟩ := p1.standP
    exact hq Hf2 H1 Em R1 v (t1.trans t2) (p2.put (p1.pend.frz x1 x2))

/-! ### rich comparison by an own __eq__ -/
/-- what the written part says of a class with an own __eq__ and no own __ne__ -/
structure OwnEqC (K : PySem.W.Frag) (C f : Addr) : Prop where
  eq : PySem.W.findIn K (.ref C) "__eq__" = some (some (.ref f))
  fn : PySem.W.isFn K (.ref
      f) = true
  ne : ∃ (of : Obj) (nm q : Str) (N : Addr) (bs : List Value) (hdct : Bool) (sn : List Str) (sub : List Value) (ab : Bool) (col : Option Bool) (dd : Option Addr) (k0 k1 k2 k3 k5 : Option Value) (newId : String),
    K.lookup C = some (excClassObj nm q C N bs [.type "object"] hdct sn sub ab col dd k0 k1 k2 k3 k5 newId) ∧ PySem.W.nsOkIn K N = true ∧ PySem.W.nsIn K N "__eq__" = some (some (.ref f)) ∧ PySem.W.nsIn K N "__ne__" = some none ∧ K.lookup f = some of ∧ of.cls = .type "function"
theorem ns_some {h : Heap} {N : Addr} {m : Str → Option Value} {x : Str} {u : Value} (k : K.In h) (G : h.Ns N m) (e : PySem.W.nsIn K N x = some (some u)) : m x = some u := by
  obtain ⟨ob, ents, epoch, gets, dat, _, finds⟩ := G
  unfold PySem.W.nsIn at e
  split at e
  · rename_i c d ents' n' sl look
    have same := k _ _ look
    rw [gets] at same
    cases same
    cases dat
    split at e
    · rename_i en found
      cases e
      rw [← finds]
      show (findBy _ _ _) = _
      unfold findBy
      rw [← Array.find?_toList, found]
      rfl
    · split at e <;> cases e
  · cases e
def rEqI (neg : Bool) (C : Addr) (sp : Sp) (E : L2.St → XK) (σ : L2.St) : L2.R2 := fun x y H Q => ∃ a b dx dy fs gs, x = .ref a ∧ y = .ref b ∧ H a = some (.ins C dx fs) ∧ H b = some (.ins C dy gs) ∧
  sp [.ref a, .ref b] H (fun v H' => ∃ k, v = .bl k ∧ Q (.bl (if neg then !k else k)) H') (E σ)
end

section
variable {ca : Nat → Addr} {Hf H Hf1 H1 Hf2 H2 : Hp} {S P : Rg} {R R1 R2 : Nat → Rg} {σ : L2.St} {st : Sl} {v : V} {d : D} {vs : List V} {ds : List D} {X : Cx} {L : List Nat}
theorem rdl_ins2 {x y : D} {C : Nat} (hx : Ex Hf H) (rd : RdL ca X.K Hf H vs [x, y]) (c1 : insC x = some C) (c2 : insC y = some C) : ∃ a b dx dy fs gs, vs = [.ref a, .ref b] ∧ H a = some (.ins (ca C) dx fs) ∧ H b = some (.ins (ca C) dy gs) ∧ RepL ca X.K Hf H Em vs [x, y] := by
  obtain ⟨v, w, S, S', e1, r1, r2⟩ := rdl2 rd rfl
  subst e1
  have h1 : hot x = false := by
    cases x <;> try (cases c1; done)
    rename_i o _ _
    cases o
    · rfl
    · cases c1
  have h2 : hot y = false := by
    cases y <;> try (cases c2; done)
    rename_i o _ _
    cases o
    · rfl
    · cases c2
  have q1 := r1.cold (S' := Em) h1
  have q2 := r2.cold (S' := Em) h2
  have hl : RepL ca X.K Hf H Em [v, w] [x, y] := .cons (S1 := Em) (S2 := Em) q1 (RepL.one q2) (fun _ q => q) (fun _ q => q) fun _ q _ => q
  cases x <;> try (cases c1; done)
  cases y <;> try (cases c2; done)
  rename_i o1 C1 g1 o2 C2 g2
  obtain ⟨a, dx, fs, T, rfl, e2, _, _⟩ := rep_ins hx q1
  obtain ⟨b, dy, gs, T', rfl, e3, _, _⟩ := rep_ins hx q2
  have d1 : C1 = C := by
    cases o1
    · exact Option.some.inj c1
    · cases c1
  have d2 : C2 = C := by
    cases o2
    · exact Option.some.inj c2
    · cases c2
  subst d1
  subst d2
  exact ⟨a, b, dx, dy, fs, gs, rfl, e2, e3, hl⟩
/-! ### isinstance -/
/-- what the written part says of an own class, for isinstance of its instances -/
structure InsTy (K : PySem.W.Frag) (C : Addr) : Prop where
  cl : Cls K C
  ha : PySem.W.findIn K (.ref C) "__class__" = some (some
      (.builtin "object.__class__"))
  hn : PySem.W.specialIn K (.builtin "object.__class__") "__get__" = some (some
      (.builtin "getset_descriptor.__get__"))
  htk : PySem.W.takesIn K (.builtin
      "object.__class__") = some true
  hm : PySem.W.mroIn K C (.type
      "object") = some true
def noScr : D → Bool
  | .scr _ => false
  | _ => true
/-- isinstance(x, T), T a built-in type -/
def oIsiB (T : String) : List D → Option Out
  | [x, .ty t] => if t = T ∧ noScr x = true then ((tyName x).bind fun n => L2.kitB n T).map fun b => .val (.bl b) else none
  | _ => none
theorem os_isiB {K : PySem.W.Frag} {T : String} : OpS ca K (rIsi K) (oIsiB T) := fun Hf H vs ds o Q hx rd h q => by
  match ds, h with
  | [x, .ty t], hh =>
    dsimp only [oIsiB] at hh
    by_cases hc : t = T ∧ noScr x = true
    · rw [if_pos hc] at hh
      obtain ⟨rfl, hs⟩ := hc
      cases en : tyName x with
      | none => rw [en] at hh; cases hh
      | some n =>
        rw [en] at hh
        cases ek : L2.kitB n t with
        | none => simp [ek] at hh
        | some b =>
          simp only [Option.bind_some, ek, Option.map_some, Option.some.injEq] at hh
          subst hh
          obtain ⟨v, w, S, S', e1, r1, r2⟩ := rdl2 rd rfl
          subst e1
          cases r2
          exact ⟨v, .ty t, .type n, .type t, b, rfl, .ty t, rep_ty hx r1 en (fun xs e => by subst e; cases hs), kit_ty ek, q _ .bl⟩
    · rw [if_neg hc] at hh; cases hh
/-- isinstance(x, (T, U)) of two built-in types -/
def oIsi2 (T U : String) : List D → Option Out
  | [x, .tup [.ty t, .ty u]] => if t = T ∧ u = U ∧ noScr x = true then (match (tyName x).bind fun n => L2.kitB n T, (tyName x).bind fun n => L2.kitB n U with
    | some a, some b => some (.val (.bl (a || b)))
    | _, _ => none) else none
  | _ => none
theorem os_isi2 {K : PySem.W.Frag} {T U : String} : OpS ca K (rIsiT K) (oIsi2 T U) := fun Hf H vs ds o Q hx rd h q => by
  match ds, h with
  | [x, .tup [.ty t, .ty u]], hh =>
    dsimp only [oIsi2] at hh
    by_cases hc : t = T ∧ u = U ∧ noScr x = true
    · rw [if_pos hc] at hh
      obtain ⟨rfl, rfl, hs⟩ := hc
      cases en : tyName x with
      | none => rw [en] at hh; cases hh
      | some n =>
        rw [en] at hh
        simp only [Option.bind_some] at hh
        cases ek : L2.kitB n t with
        | none => simp [ek] at hh
        | some b =>
          cases ek2 : L2.kitB n u with
          | none => simp [ek, ek2] at hh
          | some b2 =>
            simp only [ek, ek2, Option.some.injEq] at hh
            subst hh
            obtain ⟨v, w, S, S', e1, r1, r2⟩ := rdl2 rd rfl
            subst e1
            obtain ⟨a, vs, rfl, e2, r3⟩ := rep_tup hx r2
            cases r3 with
            | cons q1 q2 _ _ _ => cases q2 with
              | cons q3 q4 _ _ _ =>
                cases q4
                cases q1
                cases q3
                refine ⟨v, a, [.ty t, .ty u], .type n, [.type t, .type u], b || b2, rfl, e2, .cons (.ty t) (.cons (.ty u) .nil), rep_ty hx r1 en (fun xs e => by subst e; cases hs), ?_, q _ .bl⟩
                refine kitAny_cons (kit_ty ek) (fun hb => ?_) fun hb => by rw [hb]; rfl
                subst hb
                exact kitAny_cons (kit_ty ek2) (fun hb => by subst hb; exact kitAny_nil) fun hb => by rw [hb]; rfl
    · rw [if_neg hc] at hh; cases hh
/-- isinstance(x, C), C a class of the text; T: how the instances of other classes are told, B: the built-in types -/
def oIsiC (C : Nat) (T : Nat → Option Bool) : List D → Option Out
  | [.ins _ C' _, .cls c] => if c = C then (T C').map fun b => .val (.bl b) else none
  | [x, .cls c] => if c = C ∧ noScr x = true then (tyName x).map fun _ => .val (.bl false) else none
  | _ => none
theorem os_isiC {K : PySem.W.Frag} {C : Nat} {T : Nat → Option Bool} (hI : ∀ C' b, T C' = some b → InsTy K (ca C') ∧ PySem.W.kitOne K (.ref (ca C')) (.ref (ca C)) = some b)
    (hB : ∀ d n, tyName d = some n → PySem.W.kitOne K (.type n) (.ref (ca C)) = some false) : OpS ca K (rIsi K) (oIsiC C T) := fun Hf H vs ds o Q hx rd h q => by
  obtain ⟨x, c, rfl⟩ : ∃ x c, ds = [x, .cls c] := by
    unfold oIsiC at h
    split at h
    · exact ⟨_, _, rfl⟩
    · exact ⟨_, _, rfl⟩
    · cases h
  obtain ⟨v, w, S, S', e1, r1, r2⟩ := rdl2 rd rfl
  subst e1
  cases r2
  by_cases hi : ∃ o C' gs, x = .ins o C' gs
  · obtain ⟨o', C', gs, rfl⟩ := hi
    dsimp only [oIsiC] at h
    by_cases hc : c = C
    · rw [if_pos hc] at h
      subst hc
      cases et : T C' with
      | none => rw [et] at h; cases h
      | some b =>
        rw [et] at h
        cases h
        obtain ⟨h1, h2⟩ := hI C' b et
        obtain ⟨a, dx, fs, T', rfl, e2, _, _⟩ := rep_ins hx r1
        exact ⟨.ref a, .ref (ca c), .ref (ca C'), .ref (ca c), b, rfl, .own _, .base (.ins e2 h1.cl h1.ha h1.hn h1.htk h1.hm), h2, q _ .bl⟩
    · rw [if_neg hc] at h; cases h
  · have h' : (if c = C ∧ noScr x = true then (tyName x).map fun _ => Out.val (.bl false) else none) = some o := by
      have := h
      unfold oIsiC at this
      cases x <;> first | exact this | exact absurd ⟨_, _, _, rfl⟩ hi
    by_cases hc : c = C ∧ noScr x = true
    · rw [if_pos hc] at h'
      obtain ⟨rfl, hs⟩ := hc
      cases en : tyName x with
      | none => rw [en] at h'; cases h'
      | some n =>
        rw [en] at h'
        cases h'
        exact ⟨v, .ref (ca c), .type n, .ref (ca c), false, rfl, .own _, rep_ty hx r1 en (fun xs e => by subst e; cases hs), hB x n en, q _ .bl⟩
    · rw [if_neg hc] at h'; cases h'

/-! ### methods called -/
end
end DL

/-! DL13: a, b = x, y; len of instances; tests; what is not followed; [.. for .. for ..]. -/
namespace DL
open PySem L2 PyProof.Rows

def eLenI (C : Nat) (f : MF) (oa : Opd) : ME := fun st => opds [oa] st fun gs st2 => match gs st2 with
  | some [x] => if insC x = some C then (match f [x] with
    | .ok (.int n) _ => if 0 ≤ n ∧ n < 2 ^ 63 then .ok (.int n) st2 else .fail
    | _ => .fail) else .fail
  | _ => .fail
def sFail : MS := fun _ => .fail
section
variable {ca : Nat → Addr} {K : PySem.W.Frag} {Hf H Hf1 H1 Hf2 H2 : Hp} {S S1 S2 P P1 P2 : Rg} {R R1 R2 : Nat → Rg} {pp qq : Prop} {σ σ' : L2.St} {st st' : Sl} {v w : V} {d e : D} {vs : List V} {ds xs : List D} {X : Cx} {L : List Nat}
theorem css_fail {s : List Stmt} : CSs ca X L s sFail := fun Hf H R σ st E p h => h.elim
/-! ### a, b = x, y -/
theorem PR.store2 {i j : Nat} (hij : i ≠ j) (p : PR ca K Hf H P (RepL ca K Hf H P [v, w] [d, e]) R σ st) : ∃ R', PR ca K Hf H Em True R' ((σ.set i (some v)).set j (some w)) ((st.set i (some d)).set j (some e)) ∧ Tr (jn P R) Hf H (jn Em R') Hf H := by
  obtain ⟨S1, S2, q1, q2, h1, h2, h3⟩ : ∃ S1 S2 : Rg, Rep ca K Hf H S1 v d ∧ Rep ca K Hf H S2 w e ∧ (∀ b, S1 b → P b) ∧ (∀ b, S2 b → P b) ∧ ∀ b, S1 b → S2 b → False := by
    have r := p.pend
    cases r with
    | cons a b c1 c2 c3 =>
      cases b with
      | cons a' b' c1' c2' c3' => exact ⟨_, _, a, a', c1, fun b q => c2 b (c1' b q), fun b q1 q2 => c3 b q1 (c1' b q2)⟩
  have p1 : PR ca K Hf H S1 (Rep ca K Hf H S1 v d) R σ st := p.toP h1 q1
  have p2 := p1.store i
  have p3 : PR ca K Hf H S2 (Rep ca K Hf H S2 w e) (fun k b => if k = i then S1 b else R k b) (σ.set i (some v)) (st.set i (some d)) :=
    ⟨q2, p2.len, p2.at_, p2.dj, fun k b x y => by
      split at y
      · exact h3 b y x
      · exact p.dp k b (h2 b x) y, p.w.mono fun b q => by
      rcases q with q | ⟨k, q⟩
      · exact .inl (h2 b q)
      · split at q
        · exact .inl (h1 b q)
        · exact .inr ⟨k, q⟩⟩
  refine ⟨_, p3.store j, Tr.refl fun b q => ?_⟩
  rcases q with q | ⟨k, q⟩
  · exact q.elim
  · split at q
    · exact .inl (h2 b q)
    · split at q
      · exact .inl (h1 b q)
      · exact .inr ⟨k, q⟩
theorem cs_par {i j : Nat} {x y : Str} {a b : Expr} {ms : MA} {px py pt pos : Pos} {kt k2 pt2} (hc : X.calm = true) (hN : X.N.Nodup) (hi : X.N[i]? = some x) (hj : X.N[j]? = some y) (hij : i ≠ j)
    (hx : X.env.scope.names.lookup x = some .local) (hy : X.env.scope.names.lookup y = some .local) (hL1 : i ∉ L) (hL2 : j ∉ L) (ha : CL ca X [a, b] ms) (hst : NoStar [a, b])
    (hw : swappedStores [.Tuple [.Name x px, .Name y py] kt
        pt] (.Tuple [a, b] k2 pt2) X.env = pure (some [x, y]))
    (hs : swapsWithSole [.Tuple [.Name x px, .Name y py] kt pt]
        (.Tuple [a, b] k2 pt2) pos.line X.env = pure false := by rfl) :
    CS ca X L (.Assign [.Tuple [.Name x px, .Name y py] kt pt] (.Tuple [a, b] k2 pt2) pos) (sPar i j ms) := fun Hf H R σ st E p h => by
  refine ws_of (ps_par hc hN hi hj hij hx hy (wa_pa X [a, b]) hw hs) ?_
  refine wa_wl (fun e' r' q => noStar_suf hst e' r' q _) (ha Hf H R σ st _ p ?_)
  unfold sPar at h
  cases e1 : ms st with
  | fail => rw [e1] at h; exact h
  | exc x st1 => rw [e1] at h; exact fun Hf' H' R' cls dd t q => h Hf' H' R' σ cls dd t q Lk.refl
  | ok ds st1 =>
    rw [e1] at h
    intro Hf1 H1 P1 R1 vs t1 p1
    dsimp only [Res.toS] at h
    match ds, h with
    | [d1, d2], h =>
      obtain ⟨v1, v2, rfl⟩ : ∃ v1 v2, vs = [v1, v2] := by
        have := p1.pend
        cases this with
        | cons a b _ _ _ => cases b with
          | cons a' b' _ _ _ => cases b'; exact ⟨_, _, rfl⟩
      obtain ⟨R', p2, t2⟩ := PR.store2 hij p1
      exact ⟨v1, v2, rfl, h Hf1 H1 R' _ (t1.trans t2) p2 ((Lk.set hL1).trans (Lk.set hL2))⟩

/-! ### tests -/
theorem isTrue_cmpV {l r : Expr} {op : CmpOp} {pos : Pos} {env : Env} {whole : Sem Value} : isTrue (.Compare l [op] [r] pos) env whole = (do let c ← eval (.Compare l [op] [r] pos) env; holding [c] (truthy c)) := by
  rw [isTrue_Compare1, eval_Compare1]
  simp only [bind_assoc]
theorem ct_cmp {a b : Expr} {op : CmpOp} {pos : Pos} {m : ME} (h : CE ca X (.Compare a [op] [b] pos) m) : CT ca X (.Compare a [op] [b] pos) (tE m) := by
  refine ct_e ⟨fun pins s σ H Q I hw => ?_⟩ h
  rw [isTrue_cmpV]
  refine wpAny_bind (thn (We.run hw pins s I) fun v s1 ⟨x, H1, I1, r1, q1⟩ => wpAny_holding ?_)
  obtain ⟨d, rfl, q⟩ := q1
  cases r1
  exact wpAny_truthy_bool ⟨H1,
      I1, q⟩
/-- an expression of any other form -/
theorem ct_val {e : Expr} {m : ME} (h : CE ca X e m) (he : ∀ whole, isTrue e X.env whole = (do let v ← whole; standAt e.pos; holding [v] (truthy v)) := by intro _; rfl) : CT ca X e (tE m) :=
  ct_e (pt_val (we_pe X e) he) h
structure Ww (X : Cx) (e : Expr) (σ : L2.St) (H : Hp) (Q : Bool → Hp → Prop) : Prop where
  run : ∀ (whole : Sem Value) (pins : List (Addr × Obj)) (s : Shared), Inv X pins σ H s → wpAny (model X.prog X.w) X.A (isTrue e X.env whole) (TP X pins σ Q) X.xe s
def CW (ca : Nat → Addr) (X : Cx) (e : Expr) (m : MT) : Prop := ∀ (Hf H : Hp) (R : Nat → Rg) (σ : L2.St) (st : Sl) (Q : Bool → Hp → Prop), PR ca X.K Hf H Em True R σ st → PostB ca X Hf H (jn Em R) σ (m st) Q → Ww X e σ H Q
theorem ww_pw (X : Cx) (e : Expr) : PW X e (Ww X e) := ⟨fun wh pins s _ _ _ I h => h.run wh pins s I⟩
theorem ct_w {e : Expr} {m : MT} (h : CW ca X e m) : CT ca X e m := fun Hf H R σ st Q p hq => ⟨fun pins s I => (h Hf H R σ st Q p hq).run _ pins s I⟩
theorem cw_and1 {a : Expr} {m : MT} {pos : Pos} (h : CT ca X a m) : CW ca X (.BoolOp .And [a] pos) m := fun Hf H R σ st Q p hq => ⟨fun wh pins s I => (pw_and1 (wt_pt X a)).run wh pins s σ H Q I (h Hf H R σ st Q p hq)⟩
theorem cw_or1 {a : Expr} {m : MT} {pos : Pos} (h : CT ca X a m) : CW ca X (.BoolOp .Or [a] pos) m := fun Hf H R σ st Q p hq => ⟨fun wh pins s I => (pw_or1 (wt_pt X a)).run wh pins s σ H Q I (h Hf H R σ st Q p hq)⟩
theorem post_tB {r : Res Bool} {k : Bool → Sl → Res Bool} {Q Q' : Bool → Hp → Prop} (h : PostB ca X Hf H S σ (r.bind k) Q) (hk : ∀ b st Hf1 H1 R1, Tr S Hf H (jn Em R1) Hf1 H1 → PR ca X.K Hf1 H1 Em True R1 σ st → PostB ca X Hf1 H1 (jn Em R1) σ (k b st) Q → Q' b H1) : PostB ca X Hf H S σ r Q' := by
  cases r with
  | fail => exact h
  | exc x st1 => exact h
  | ok b st1 => exact fun Hf1 H1 R1 t1 p1 => hk b st1 Hf1 H1 R1 t1 p1 (PostB.from t1 h)
theorem cw_and {a b : Expr} {r : List Expr} {ma mb : MT} {pos : Pos} (ha : CT ca X a ma) (hb : CW ca X (.BoolOp .And (b :: r) pos) mb) : CW ca X (.BoolOp .And (a :: b :: r) pos) (tAndM ma mb) := fun Hf H R σ st Q p hq => ⟨fun wh pins s I => by
  refine (pw_and (wt_pt X a) (ww_pw X _)).run wh pins s σ H Q I (ha Hf H R σ st _ p ?_)
  refine post_tB hq fun c st1 Hf1 H1 R1 t1 p1 h1 => ?_
  cases c with
  | true => exact hb Hf1 H1 R1 σ st1 Q p1 h1
  | false => exact h1 Hf1 H1 R1 (Tr.refl fun _ q => q) p1⟩
theorem cw_or {a b : Expr} {r : List Expr} {ma mb : MT} {pos : Pos} (ha : CT ca X a ma) (hb : CW ca X (.BoolOp .Or (b :: r) pos) mb) : CW ca X (.BoolOp .Or (a :: b :: r) pos) (tOrM ma mb) := fun Hf H R σ st Q p hq => ⟨fun wh pins s I => by
  refine (pw_or (wt_pt X a) (ww_pw X _)).run wh pins s σ H Q I (ha Hf H R σ st _ p ?_)
  refine post_tB hq fun c st1 Hf1 H1 R1 t1 p1 h1 => ?_
  cases c with
  | true => exact h1 Hf1 H1 R1 (Tr.refl fun _ q => q) p1
  | false => exact hb Hf1 H1 R1 σ st1 Q p1 h1⟩
theorem ct_not {a : Expr} {ma : MT} {pos : Pos} (ha : CT ca X a ma) : CT ca X (.UnaryOp .Not a pos) (tNotM ma) := fun Hf H R σ st Q p hq => by
  refine wt_of (pt_not (wt_pt X a)) (ha Hf H R σ st _ p ?_)
  exact post_tB hq fun c st1 Hf1 H1 R1 t1 p1 h1 => h1 Hf1 H1 R1 (Tr.refl fun _ q => q) p1
/-! ### len of an instance -/
/-- what the written part says of a class with an own special method -/
structure OwnSpC (K : PySem.W.Frag) (C f : Addr) (name : Str) : Prop where
  obj : ∃ (of : Obj) (nm q : Str) (N : Addr) (bs : List Value) (hdct : Bool) (sn : List Str) (sub : List Value) (ab : Bool) (col : Option Bool) (dd : Option Addr) (k0 k1 k2 k3 k5 : Option Value) (newId : String),
    K.lookup C = some (excClassObj nm q C N bs [.type "object"] hdct sn sub ab col dd k0 k1 k2 k3 k5 newId) ∧ PySem.W.nsOkIn K N = true ∧ PySem.W.nsIn K N name = some (some (.ref f)) ∧ K.lookup f = some of ∧ of.cls = .type "function"
theorem OwnSpC.at {C f : Addr} {name : Str} {pins : List (Addr × Obj)} {s : Shared} {a dx : Addr} {fs : List (Str × V)} {y : Option Value} (c : OwnSpC X.K C f name) (I : Inv X pins σ H s) (ha : H a = some (.ins C dx fs)) (hB : typeLookup (.type "object") name = pure y) : s.heap.OwnSpecial a C f "object" name := by
  obtain ⟨of, nm, q, N, bs, hdct, sn, sub, ab, col, dd, k0, k1, k2, k3, k5, newId, hC, hN0, hN1, hf, hfc⟩ := c.obj
  have hk : X.K.In s.heap := I.kIn
  have hNs : s.heap.Ns N (s.heap.nsMap N) := .of_isNs (PySem.W.isNs_of_in hk hN0)
  obtain ⟨mA, J, _⟩ :=
      ins_get I.hok ha
  exact ⟨_, of, nm, q, N, bs, _, hdct, sn, sub, ab, col, dd, k0, k1, k2, k3, k5, newId, _, y, J.obj, rfl, hk _ _ hC, hNs, ns_some hk hNs hN1, hk _ _ hf, hfc, PySem.F.mro_object, hB⟩
end
end DL

/-! DL14: [e for x in xs for y in ys if t]. -/
namespace DL
open PySem L2 PyProof.Rows
def comp2D (g : MG) (src1 : Sl → Res (List D)) (g1 : MG) (t1 : MT) (e : ME) (vs vs1 : List Nat) : List D → Sl → List D → Res (List D)
  | [], st, acc => .ok acc st
  | d :: ds, st, acc => (g d st).noX.bind fun _ st1 => (src1 st1).noX.bind fun ds1 st2 => (compD g1 t1 e vs1 ds1 (wipeS st2 vs1) acc).bind fun acc' st3 => comp2D g src1 g1 t1 e vs vs1 ds (wipeS st3 vs) acc'
def eLc2 (src : Sl → Res (List D)) (g : MG) (src1 : Sl → Res (List D)) (g1 : MG) (t1 : MT) (e : ME) (vs vs1 : List Nat) : ME := fun st => (src st).bind fun ds st1 => (comp2D g src1 g1 t1 e vs vs1 ds (wipeS st1 vs) []).bind fun acc st2 => .ok (.lst true acc) st2
section
variable {ca : Nat → Addr} {K : PySem.W.Frag} {Hf H Hf1 H1 Hf2 H2 : Hp} {S S1 S2 P P1 P2 : Rg} {R R1 R2 : Nat → Rg} {pp qq : Prop} {σ σ' : L2.St} {st st' : Sl} {v : V} {d : D} {vs : List V} {ds : List D} {X : Cx} {L : List Nat}
end
end DL

/-! DL15: short forms for printed derivations; getters; a law's end. -/
namespace DL
open PySem L2 PyProof.Rows ClX
section
variable {ca : Nat → Addr} {K : PySem.W.Frag} {Hf H : Hp} {S : Rg} {R : Nat → Rg} {σ : L2.St} {st : Sl} {v : V} {d : D} {vs : List V} {ds : List D} {X : Cx} {L : List Nat}
/-- a name in the slot i -/
theorem en (i : Nat) {x : Str} {pos : Pos} (hN : X.N[i]? = some x := by rfl) (hv : Vis X.env.scope x := by first | exact Or.inl rfl | exact Or.inr (Or.inl rfl) | exact Or.inr (Or.inr rfl)) (hd : (x == ("__debug__" : Str)) = false := by decide)
    (hcd : (x == ("__classdict__" : Str)) = false := by decide) : CE ca X (.Name x pos) (eN i) := ce_n (pe_var hN hv hd hcd)
theorem emv (i : Nat) {x : Str} {pos : Pos} (hN : X.N[i]? = some x := by rfl) (hv : Vis X.env.scope x := by first | exact Or.inl rfl | exact Or.inr (Or.inl rfl) | exact Or.inr (Or.inr rfl)) (hd : (x == ("__debug__" : Str)) = false := by decide)
    (hcd : (x == ("__classdict__" : Str)) = false := by decide) : CE ca X (.Name x pos) (eMv i) := ce_mv (pe_var hN hv hd hcd)
theorem es (i : Nat) {x : Str} {pos : Pos} (hN : X.N[i]? = some x := by rfl) (hv : Vis X.env.scope x := by first | exact Or.inl rfl | exact Or.inr (Or.inl rfl) | exact Or.inr (Or.inr rfl)) (hd : (x == ("__debug__" : Str)) = false := by decide)
    (hcd : (x == ("__classdict__" : Str)) = false := by decide) : CO ca X (.Name x pos) (.s i) := co_s (pe_var hN hv hd hcd)
theorem gn (i : Nat) {x : Str} {pos : Pos} (hN : X.N.Nodup) (hi : X.N[i]? = some x := by rfl) (hx : Loc X.env.scope x := by first | exact .inl rfl | exact .inr rfl) (hL : i ∉ L := by decide)
    (hf : X.fn x = true ∨ X.env.scope.names.lookup x = some .local := by first | exact .inl rfl | exact .inr rfl) : CG ca X L (.Name x pos) (gName i) (gN i) := cg_name (pg_name hN hi hx hf) hL
theorem cs_set (i : Nat) {x : Str} {e : Expr} {m : ME} {pos pos' : Pos} (hN : X.N.Nodup) (he : CE ca X e m) (hi : X.N[i]? = some x := by rfl) (hx : Loc X.env.scope x := by first | exact .inl rfl | exact .inr rfl) (hL : i ∉ L := by decide)
    (hs : swapsWith e (some (.Name x pos')) pos.line X.env = pure false := by rfl) (hf : X.fn x = true ∨ X.env.scope.names.lookup x = some .local := by first | exact .inl rfl | exact .inr rfl) : CS ca X L (.Assign [.Name x pos'] e pos) (sAsg m (gN i)) :=
  cs_asg he (cg_name (pg_name hN hi hx hf) hL) (ps_set hN hi hx (we_pe X e) hs hf)
theorem cs_asgT {tg e : Expr} {m : ME} {t : TG} {g : MG} {pos : Pos} (he : CE ca X e m) (hg : CG ca X L tg t g) (hs : swapsWithSole [tg] e pos.line X.env = pure false := by rfl) (hw : swappedStores [tg] e X.env = pure none := by rfl)
    (h1 : (assignEach [tg] X.env).map (·.2) = [assign tg X.env] := by rfl) : CS ca X L (.Assign [tg] e pos) (sAsg m g) := cs_asg he hg (ps_asg (we_pe X e) hg.1 hs hw h1)
theorem relRef (a : Addr) : RelV (.ref a) (.ref a) := rfl
theorem relTy (n : String) : RelV (.ty n) (.type n) := rfl
/-- a constant of a class -/
theorem ce_cval {x f : Str} {w : Value} {p pos : Pos} {C : Addr} {mc : Value} (hg : Gl X x) (hm : X.mg x = some (.ref C)) (r : CRead X.K C mc) (k : CVal X.K C mc f v w) (rd : ∀ Hf H, Rep ca X.K Hf H Em v d)
    (hd : (x == ("__debug__" : Str)) = false := by decide) (hb : attributeBase (.Name x p) f X.env (eval (.Name x p) X.env) = eval (.Name x p) X.env := by rfl) : CE ca X (.Attribute (.Name x p) f pos) (eC d) := by
  refine ce_c (v := v) ⟨fun pins s σ H Q I h => ?_⟩ rd
  exact (pe_cval (pe_glob hg hm (relRef _) hd) hb).run pins s σ H Q I ⟨C, mc, v, w, rfl, r, k, h⟩
/-- a built-in type, a class, as values -/
theorem ce_ty {x : Str} {T : String} {p : Pos} (hg : Gl X x) (hm : X.mg x = none) (hv : bootBuiltins x = some (.type T)) (hn : x ≠ "__name__" := by decide) (hd : (x == ("__debug__" : Str)) = false := by decide) : CE ca X (.Name x p) (eC (.ty T)) :=
  ce_c (pe_bltn hg hm hv (relTy _) hn hd) fun _ _ => .ty
theorem ce_cls {x : Str} {C : Nat} {p : Pos} (hg : Gl X x) (hm : X.mg x = some (.ref (ca C))) (hd : (x == ("__debug__" : Str)) = false := by decide) : CE ca X (.Name x p) (eC (.cls C)) :=
  ce_c (pe_glob hg hm (relRef _) hd) fun _ _ => .cls
end
/-- a property's getter -/
theorem getter_ok {CX : CXT} {P : Program} {w : World} {K : PySem.W.Frag} {mg : Str → Option Value} {base : Heap} {k : Nat} {fa C : Addr} {name qual f : Str} {st : Stmt} {fd : FuncData} {N : List Str} {p1 p2 p3 : Pos} (F : Fun K name qual st fa fd) (S : FnScope N ["self"] (defScope st))
    (hN : N[0]? = some ("self" : Str)) (hb : defBody st = [.Return (some (.Attribute (.Name "self" p1) f p2)) p3]) (c : Cls K C) (n : NoAttr K C f) : FnOk P w K mg base CX (k + 1) fa fd ["self"] (getSp C f) := by
  obtain ⟨oc, od, kV, doc, pm, an, cdv, ct, osl, rfl, lk, hcd⟩ :=
      F.ex
  exact fn_getter lk hcd S hN hb c n
/-- a law's promise from its meaning -/
theorem sp_law {ca : Nat → Addr} {K : PySem.W.Frag} {m : MF} {n : Nat} (h : ∀ ns : List Int, ns.length ≤ n → ∃ ps, m [.scr ns] = .ok (.bl true) ps) (H : Hp) (a : Addr) (ns : List Int) (hn : ns.length ≤ n) (hS : SqL K H a (ns.map V.int)) :
    spM ca K m [.ref a] H (fun v _ => v = .bl true) fun _ _ _ => False := by
  refine ⟨H, Em, [.scr ns], RepL.one (.scr hS), ⟨fun _ _ e => e, fun _ q => q.elim, fun _ q => q.elim⟩, ?_⟩
  obtain ⟨ps, e⟩ := h ns hn
  rw [e]
  exact fun Hf' H' P' Rp v t p => rep_bl p.pend
theorem law_cx {P : Program} {w : World} {H : Hp} {s : Shared} {e : Value} {s' : Shared} (h : L2.CX P w [] H s (fun _ _ _ => False) e s') : False := by
  obtain ⟨a, B, H', cls, d, _, _, _, _, _, _, _, hE⟩ := h
  exact hE
end DL

/-! DL16: blocks, checked by computing. -/
namespace DL
open PySem L2 PyProof.Rows
def blkB (N : List Str) (sc scope : Scope) (own : List (Str × Nat)) : Bool :=
  scope.names.all (fun y => decide (scope.names.lookup y.1 = some y.2)) && (own.all (fun p => decide (N[p.2]? = some p.1)) &&
  (scope.names.all (fun y => !decide (y.2 = .free) || (decide (sc.names.lookup y.1 = some .cell) || decide (sc.names.lookup y.1 = some .free))) &&
  scope.names.all (fun y => !(decide (y.2 = .local) || decide (y.2 = .cell)) || (decide (y.1 ∈ own.map (·.1)) || !decide (y.1 ∈ N)))))
theorem blk_of {N : List Str} {sc scope : Scope} {own : List (Str × Nat)} (hk : scope.kind = .function) (h : blkB N sc scope own = true) : BlkOk N sc scope own := by
  unfold blkB at h
  simp only [Bool.and_eq_true, List.all_eq_true, Bool.or_eq_true, Bool.not_eq_true', decide_eq_true_eq, decide_eq_false_iff_not] at h
  obtain ⟨h1, h2, h3, h4⟩ := h
  refine ⟨hk, fun y hy => h1 y hy, fun p hp => h2 p hp, fun y hy hf => ?_, fun y hy hl => ?_⟩
  · rcases h3 y hy with q | q
    · exact absurd hf q
    · exact q
  · rcases h4 y hy with q | q
    · rcases hl with hl | hl
      · rw [hl] at q; simp at q
      · rw [hl] at q; simp at q
    · exact q
section
variable {ca : Nat → Addr} {X : Cx} {L : List Nat}
/-- a block's own name stored -/
theorem gb (i : Nat) {n : Nat} {w : List Nat} {x : Str} {pos : Pos} (hN : X.N.Nodup) (hi : X.N[i]? = some x := by rfl) (hx : Loc X.env.scope x := by first | exact .inl rfl | exact .inr rfl) (hL : i ∈ w := by decide)
    (hf : X.fn x = true ∨ X.env.scope.names.lookup x = some .local := by first | exact .inl rfl | exact .inr rfl) : CG ca X (but n w) (.Name x pos) (gName i) (gN i) := cg_name (pg_name hN hi hx hf) (not_but hL)
end
end DL

/-! DL17: enumerate over a tuple: how it is made, how it yields, how it ends; over the library's Draws. -/
namespace DL
open PySem L2 PyProof.Rows
open Sem (wp)
/-- the two objects that enumerate(tuple) lays -/
abbrev etI (t : Addr) : Obj := { cls := .type "tuple_iterator", data := .fields #[.ref t, .int 0 0] }
abbrev etE (it : Addr) : Obj :=
  { cls := .type "enumerate",
    data := .fields #[.none, .bool false, .ref it, rawInt 0, .none, .none] }
abbrev etH (h : Heap) (t : Addr) : Heap := (h.push (etI t)).push (etE h.objs.size)
abbrev etO (dc : Option Addr) (xs : Array Value) (n : Nat) (sl : Array (Option Value)) : Obj := { cls := .type "tuple", dict := dc, data := .seq xs n, slots := sl }
theorem et_new (t : Addr) (xs : Array Value) (n : Nat) (dc : Option Addr) (sl : Array (Option Value)) :
    Meets (Builtin.«enumerate.__new__» ⟨[.type "enumerate", .ref t], []⟩) fun _ R s => s.heap.get? t = some (etO dc xs n sl) ∧ R (.ok (.ret (.ref (s.heap.push (etI t)).objs.size))) { s with heap := etH s.heap t } :=
  .of_wp fun pr wo Ar R st hst => by
    rcases st with ⟨hp, gs, dr, tk, os⟩
    rcases hst with ⟨ht, hR⟩
    have sub := sub_enumerate
    have isT : Heap.IsTuple (Shared.heap ⟨hp, gs, dr, tk, os⟩) t xs := ⟨_, ht, rfl, n, rfl⟩
    have ends : ∀ {P : Prop}, P → P := id
    wp_walk using AutoSeq1.wpAny_loadPart' ht
    refine wpAny_stack_any fun _ =>
      wpAny_pure ?_
    split
    case _ c _ _ _ _ _ =>
      cases hc : (c == Value.type "enumerate") <;>
        (wp_walk using AutoSeq1.wpAny_loadPart' ht, wpAny_pyIter_tuple isT) <;>
        exact ends ⟨_, rfl, hR⟩
    all_goals
      wp_walk using AutoSeq1.wpAny_loadPart' ht, wpAny_pyIter_tuple isT
      exact ends ⟨_, rfl, hR⟩
section
variable {pr : Program} {wo : World} {Ar : Around} {Ex' : Value → Shared → Prop} {st : Shared}
/-- the call enumerate(t) -/
theorem et_call {t : Addr} {xs : Array Value} {Q : Value → Shared → Prop} (ht : st.heap.IsTuple t xs) (hq : Q (.ref (st.heap.objs.size + 1)) { st with heap := etH st.heap t }) :
    wpAny (model pr wo) Ar (call (.type "enumerate") [.ref t]) Q Ex' st := by
  rcases ht with ⟨⟨cl, dc, dat, sl⟩, ho, hcl, n, hdat⟩
  obtain rfl : cl = .type "tuple" := hcl
  obtain rfl : dat = .seq xs n := hdat
  have sz : (st.heap.push (etI t)).objs.size = st.heap.objs.size + 1 := Heap.size_push ..
  have at1 : (etH st.heap t).get? (st.heap.objs.size + 1) = some (etE st.heap.objs.size) := by
    rw [← sz]
    exact Heap.get?_push_size _
        rfl
  have args : ∀ obj, _ := fun obj => F.args_object_init_2 obj (Value.ref t)
  refine callType_new F.called_enumerate (by decide) (F.typeCall_enumerate_1 _) (F.newCall_enumerate_1 _) args
    F.entry_enumerate_new (et_new t xs n dc sl) ⟨ho, ?_⟩
  show (∃ _, _) ∧ _
  rw [sz]
  exact ⟨⟨_, at1, rfl⟩, hq⟩
/-- its end -/
theorem et_end {e it t : Addr} {i : Nat} {xs : Array Value} {old : Value} {Q : Option Value → Shared → Prop} (hh : Ar.handled = none) (he : IsEnum st.heap e it i old) (hi : st.heap.IsTupleIter it t i)
    (ht : st.heap.IsTuple t xs) (hx : xs[i]? = none) (hq : ∀ h', Heap.ExtBut it st.heap h' → Q none { st with heap := h' }) : wpAny (model pr wo) Ar (pyNext (.ref e)) Q Ex' st := by
  have ty : st.TypeIs (.ref e) "enumerate" := ⟨_, he, rfl⟩
  have inner := fun {Q'} {E'} k => wpAny_nextOf_tuple_end (prog := pr) (w := wo) (A := Ar.in1) (Q := Q') (E := E') (s := st) hh hi ht hx k
  unfold pyNext
  refine wpAny_bind (wpAny_attempt
      ?_)
  refine wpAny_callSpecial?_slot (name := Str.ofString "__next__") ty F.slot_enumerate_next ?_
  refine wpAny_call_entry F.slot_enumerate_next ty F.entry_enumerate_next ?_ (F.args_enumerate_next_1 _)
  refine wpAny_bind (m := field (.ref e) 2) ?_
  refine wpAny_field he rfl (x := .ref it) rfl (wpAny_bind ?_)
  refine wpAny_nextOf_tuple_end hh hi ht hx fun h' x ext ⟨o, ho, hc⟩ => ?_
  refine wpAny_bind ?_
  exact wpAny_isInstance (T := "StopIteration") (b := true)
    ⟨o, ho, hc⟩ isSubtype_stop (wpAny_pure (hq _ ext))
end
/-- the tuple at a, each item in a new pair with its number -/
def IteT (K : PySem.W.Frag) (a : Addr) : It where
  go := fun i H => ∃ ys y, SqT K H a ys ∧ ys[i]? = some y
  yld := fun i H v H' => ∃ T x, v = .ref T ∧ H T = none ∧ H' = upd H T (.tup [.int (i : Nat), x]) ∧ ∀ ys, SqT K H a ys → ys[i]? = some x
  stop := fun i H => ∃ ys : List V, SqT K H a ys ∧ ys.length ≤ i
/-- how the enumeration stands before its turn i -/
structure EtAt (a e it : Addr) (i : Nat) (h : Heap) : Prop where
  en : ∃ old, IsEnum h e it ((i : Nat) : Int) old
  iter : h.IsTupleIter it a i
  n1 : e ≠ it
  n2 : e ≠ a
  n3 : a ≠ it
theorem two_mem {b e it : Addr} (h : b ∈ [e, it]) : b = e ∨ b = it := by simpa using h
theorem turn_enumT {P : Program} {w : World} {K : PySem.W.Frag} {elts : List Expr} {kk : Nat} {tpos : Pos} (a e it : Addr) : Turn P w K (.Tuple elts kk tpos) (IteT K a) [e, it] e (EtAt a e it) where
  mem := List.mem_cons_self
  obj := by
    intro i h z b hb
    obtain ⟨old, he⟩ := z.en
    obtain ⟨o, ho, _, hd⟩ := z.iter
    rcases two_mem hb with rfl | rfl
    · exact ⟨_, he, fun _ q => nomatch q⟩
    · refine ⟨o, ho, fun v q => ?_⟩
      rw [hd] at q
      cases q
  keep := by
    intro i h h' z k
    obtain ⟨old, he⟩ := z.en
    exact ⟨⟨old, k e (List.mem_cons_self) _ he⟩, z.iter.at fun o q => k it (by simp) o q, z.n1, z.n2, z.n3⟩
  item := by
    intro X e1 e2 e3 calm i pins s σ H E I fresh z go
    subst e1 e2 e3
    obtain ⟨old, he⟩ := z.en
    obtain ⟨ys, y, hq, hy⟩ := go
    obtain ⟨us, rel, isT, _⟩ := I.tuple hq
    obtain ⟨u, hu, ru⟩ := rel.get hy
    have isT' : s.heap.IsTuple a us.toArray := isT
    have below : ∀ b ∈ [e, it], b < s.heap.objs.size := fun b hb => by
      rcases two_mem hb with rfl | rfl
      · exact Heap.lt_size he
      · obtain ⟨_, q, _⟩ := z.iter
        exact Heap.lt_size q
    have ilt : i < us.toArray.size := by simpa using (List.getElem?_eq_some_iff.mp hu).1
    have draws := Draws.tuple (prog := X.prog) (w := X.w) (A := X.A.in1) (I.ok.hd calm) it a z.n3 us.toArray
    refine wpAny_pyNext_enum_itemD draws he ⟨z.iter, isT'⟩ ilt z.n1 (by simp [z.n1, z.n2]) fun xv h1 tk at_i out st1 newT size kept => ?_
    obtain rfl : u = xv := by
      have q : us.toArray[i]? = some u := by simpa using hu
      exact Option.some.inj (q.symm.trans at_i)
    refine ⟨_, rfl, ?_⟩
    refine wpAny_letOwnedTupleGo_enum (s := { s with heap := h1, toks := tk + 1 }) out fun h2 en2 same => ?_
    have eN : s.heap.objs.size ≠ e := Nat.ne_of_gt (below e List.mem_cons_self)
    have T2 : h2.get? s.heap.objs.size = some { cls := .type "tuple", data := .seq #[.int i tk, u] } := (same.2 _ eN).trans newT
    have pair : Vals [V.int (i : Nat), y] [.int i tk, u] := .cons ⟨_, rfl⟩ (.cons ru .nil)
    have ok : ObjOk X.prog X.w (upd H s.heap.objs.size (.tup [.int (i : Nat), y])) h2 s.heap.objs.size
        (.tup [.int (i : Nat), y]) := ⟨show 2 ≤ sizeLine from by decide, _, pair, ⟨_, T2, rfl, _, rfl⟩⟩
    have stays : ∀ b o, b ∉ [e, it] → s.heap.get? b = some o → h2.get? b = some o := fun b o nb q => by
      have b1 : b ≠ e := fun h => nb (by simp [h])
      have b2 : b ≠ it := fun h => nb (by simp [h])
      exact (same.2 b b1).trans (kept b o b1 b2 q)
    have J := I.turnedNew (t' := tk + 1) (ch := [e, it]) stays fresh (Nat.le_refl _) ok
    refine ⟨.ref s.heap.objs.size, _, J, rfl, ⟨_, y, rfl, I.hok.fresh (Nat.le_refl _), rfl, ?_⟩, ⟨⟨u, ?_⟩, ?_, z.n1, z.n2, z.n3⟩, ?_⟩
    · intro ws hws
      rw [I.tuple_inj hws hq]
      exact hy
    · rw [show ((i + 1 : Nat) : Int) = (i : Int) + 1 by omega]
      exact en2
    · exact st1.1.at fun o q => (same.2 it z.n1.symm).trans q
    · intro b hb
      rw [upd_ne (Nat.ne_of_lt (below b hb))]
      exact (fresh b hb).1
  done := by
    intro X e1 e2 e3 calm i pins s σ H E I fresh z stop
    subst e1 e2 e3
    obtain ⟨old, he⟩ := z.en
    obtain ⟨ys, hq, le⟩ := stop
    obtain ⟨us, rel, isT, _⟩ := I.tuple hq
    have isT' : s.heap.IsTuple a us.toArray := isT
    have len := rel.length
    have none_at : us.toArray[i]? = none := by
      simp
      omega
    have ft := fresh it (by simp)
    refine et_end (I.ok.hd calm) he z.iter isT' none_at fun h' ext => ⟨rfl, ?_⟩
    exact I.turned (t' := s.toks) (fun b o nb q => ext b o nb q) ft.1 ft.2.1 ft.2.2.2.1 ft.2.2.2.2.1 ft.2.2.2.2.2
  self := by
    intro A i s Q E z h
    obtain ⟨_, he⟩ := z.en
    exact wpAny_pyIter_enum he h
def iEnumT (K : PySem.W.Frag) (ta : TA) : TI := fun σ H R => ta σ H fun vs H1 => ∃ a ys, vs = [.ref a] ∧ SqT K H1 a ys ∧ R (IteT K a) H1
theorem pi_enumT {X : Cx} {e : Expr} {ta : TA} {p pos tpos : Pos} {elts : List Expr} {kk : Nat} (hg : Gl X "enumerate") (hm : X.mg "enumerate" = none) (ha : PA X [e] ta)
    (one : starEach [e] X.env = [(false, eval e X.env)] := by rfl) : PI X (.Tuple elts kk tpos) (.Call (.Name "enumerate" p) [e] [] pos) (iEnumT X.K ta) := by
  constructor
  intro pins s σ H R I h
  refine Call_ (ld_blt I hg hm boot_enumerate ?_)
  refine PyProof.Rows.callWith_type1 (thn (ha.run pos pins s σ H _ I h) ?_) one rfl
  rintro us s1 ⟨vs, H1, I1, rel, a, ys, rfl, hq, goal⟩
  obtain ⟨u, rfl, ru⟩ := vals1 rel
  obtain rfl : u = .ref a := ru
  obtain ⟨its, _, isT, _⟩ := I1.tuple hq
  have isT' : s1.heap.IsTuple a its.toArray := isT
  have alt : a < s1.heap.objs.size := by
    obtain ⟨o, ho, _⟩ := isT'
    exact Heap.lt_size ho
  have sz : (s1.heap.push (etI a)).objs.size = s1.heap.objs.size + 1 := Heap.size_push ..
  have en : IsEnum (etH s1.heap a) (s1.heap.objs.size + 1) s1.heap.objs.size 0 .none := by
    show (etH s1.heap a).get? _ = _
    rw [← sz]
    exact Heap.get?_push_size _
        rfl
  have itr : (etH s1.heap a).IsTupleIter s1.heap.objs.size a 0 := ⟨_, Heap.get?_push_of_some _ (Heap.get?_push_size _ rfl), rfl, rfl⟩
  have grown : ∀ b o, s1.heap.get? b = some o → (etH s1.heap a).get? b = some o := fun b o q => Heap.get?_push_of_some _ (Heap.get?_push_of_some _ q)
  refine et_call isT' (wpAny_pyIter_enum en ?_)
  have I2 := I1.kept (t' := s1.toks) grown
  refine ⟨s1.heap.objs.size + 1, [s1.heap.objs.size + 1, s1.heap.objs.size], _, _, H1, rfl, I2, turn_enumT a (s1.heap.objs.size + 1) s1.heap.objs.size,
    ⟨⟨.none, en⟩, itr, Nat.succ_ne_self _, Nat.ne_of_gt (Nat.lt_succ_of_lt alt), Nat.ne_of_lt alt⟩, ?_, goal⟩
  intro b hb
  have up : s1.heap.objs.size ≤ b := by
    rcases two_mem hb with rfl | rfl
    · exact Nat.le_succ _
    · exact Nat.le_refl _
  exact I1.fpOk up (I1.hok.fresh up)
section
variable {ca : Nat → Addr} {K : PySem.W.Frag} {Hf H : Hp} {vs : List V} {ds : List D} {X : Cx}
theorem itd_enumT {a : Addr} (h : SqT K Hf a vs) (r : RepL ca K Hf H Em vs ds) (hc : colds ds = true) : ItD ca K (IteT K a) Hf (enumD 0 ds) := by
  intro Hf' H' x1 x2
  have x3 : Ex Hf H' := fun a o e => x2 a o (x1 a o e)
  refine ⟨fun i hi => ?_, ⟨vs, sqT_ex x3 h, by rw [r.length, enumD_length]; exact Nat.le_refl _⟩, fun i d x H2 e y => ?_⟩
  · have : i < vs.length := by rw [r.length]; rw [enumD_length] at hi; exact hi
    exact ⟨vs, vs[i], sqT_ex x3 h, by simp [this]⟩
  · obtain ⟨T, xv, rfl, hT, rfl, y⟩ := y
    obtain ⟨d', e1, rfl⟩ := enumD_get e
    obtain ⟨v', T', e2, r2, z⟩ := repL_at r e1
    have := y vs (sqT_ex x3 h)
    rw [e2] at this
    have e3 : v' = xv := Option.some.inj this
    subst e3
    have hT' : Hf' T = none := by
      cases q : Hf' T with
      | none => rfl
      | some o => rw [x2 T o q] at hT; cases hT
    refine ⟨rfl, upd Hf' T (.tup [.int (i : Nat), v']), fun b o e => upd_keep hT' b o e, fun b o e => upd_keep hT b o e, fun b o e => ?_, fun b o e => ?_, ?_⟩
    · by_cases q : b = T
      · subst q; rw [upd_same] at e ⊢; exact e
      · rw [upd_ne q] at e ⊢; exact x2 b o e
    · by_cases q : b = T
      · subst q; exact .inr hT
      · rw [upd_ne q] at e; exact .inl e
    · refine .tup upd_same (.cons (S1 := Em) (S2 := Em) (by rw [Nat.zero_add]; exact .int) (.cons (S1 := Em) (S2 := Em) ((r2.mono z).keep (fun b o e => upd_keep hT' b o (x1 b o e)) fun _ q => q.elim) .nil (fun _ q => q) (fun _ q => q) fun _ q _ => q) (fun _ q => q) (fun _ q => q) fun _ q _ => q)
/-- enumerate(tuple) -/
def iEnT (m : ME) : Sl → Res (List D) := fun st => (m st).bind fun d st1 => match tupItems d with
  | some ds => if colds ds then .ok (enumD 0 ds) st1 else .fail
  | none => .fail
theorem ci_enumT {e : Expr} {m : ME} {p pos tpos : Pos} {elts : List Expr} {kk : Nat} (hg : Gl X "enumerate") (hm : X.mg "enumerate" = none) (he : CE ca X e m) (hs : starEach [e] X.env = [(false, eval e X.env)] := by rfl) :
    CI ca X (.Tuple elts kk tpos) (.Call (.Name "enumerate" p) [e] [] pos) (iEnumT X.K (tCons (We X e) tNil)) (iEnT m) := ⟨pi_enumT hg hm (pa_cons (we_pe X e) pa_nil hs) hs, fun Hf H R σ st Q p h => by
  refine he Hf H R σ st _ p ?_
  unfold iEnT at h
  cases r : m st with
  | fail => rw [r] at h; exact h
  | exc x st => rw [r] at h; exact h
  | ok d st1 =>
    rw [r] at h
    dsimp only [Res.bind] at h
    intro Hf1 H1 P R1 v t1 p1
    cases d with
    | tup ds =>
      dsimp only [tupItems] at h
      by_cases hc : colds ds = true
      · rw [if_pos hc] at h
        obtain ⟨Hf', a, vs, rfl, s1, r1, p2, t2⟩ := p1.walkedT
        exact ⟨a, vs, rfl, sqT_ex p2.w.ex s1, h Hf' H1 R1 _ (t1.trans t2) p2 (itd_enumT s1 r1 hc)⟩
      · rw [if_neg hc] at h; exact h.elim
    | _ => exact h.elim⟩
end
end DL

/-! DL18: a law's end. -/
namespace DL
open PySem L2 PyProof.Rows
theorem kit_no {K : PySem.W.Frag} {C : Addr} {n : String} (h1 : PySem.W.isClsIn K C = true) (h2 : PySem.W.typeIn K (.ref C) = some (.type "type")) (h3 : PySem.W.subIn K (.type n) (.ref C) = some false) : PySem.W.kitOne K (.type n) (.ref C) = some false := by
  have e1 : (Value.type n == Value.ref C) = false := rfl
  have e2 : (PySem.W.clsIn K C).isSome = true := h1
  show (if (Value.type n == Value.ref C) = true then some true else PySem.W.kitCls K (.type n) (.ref C)) = some false
  rw [e1, if_neg
      Bool.false_ne_true]
  show (if ((PySem.W.clsIn K C).isSome && PySem.W.typeIn K (.ref C) == some (.type "type")) = true then PySem.W.subIn K (.type n) (.ref C) else none) = some false
  rw [e2, h2]
  exact (if_pos (by simp)).trans h3
theorem kit_self {K : PySem.W.Frag} {C : Addr} : PySem.W.kitOne K (.ref C) (.ref C) = some true := if_pos (beq_self_eq_true _)
def strKeys (es : Array DictEntry) : Bool := es.all fun e => match e.key with
  | .str _ _ => true
  | _ => false
theorem nsOk_of {K : PySem.W.Frag} {N : Addr} {oc : Value} {od : Option Addr} {es : Array DictEntry} {n : Nat} {sl : Array (Option Value)} (l : K.lookup N = some ⟨oc, od, .dict es n, sl⟩) (h : strKeys es = true) : PySem.W.nsOkIn K N = true := by
  unfold PySem.W.nsOkIn
  rw [l]
  exact h
end DL

/-! DL19: lists of whole numbers as data; loops read. -/
namespace DL
open PySem (Str)
open L2 (atI ixN)
def nums (l : List Int) : List D := l.map D.int
theorem nums_nil : nums [] = [] := rfl
theorem nums_cons (a : Int) (l : List Int) : nums (a :: l) = .int a :: nums l := rfl
theorem nums_len (l : List Int) : (nums l).length = l.length := by unfold nums; rw [List.length_map]
theorem nums_app (l k : List Int) : nums (l ++ k) = nums l ++ nums k := by unfold nums; rw [List.map_append]
theorem nums_colds (l : List Int) : colds (nums l) = true := by
  unfold colds nums
  rw [List.all_map]
  exact List.all_eq_true.mpr fun x _ => rfl
theorem nums_frz : ∀ l : List Int, frzL (nums l) = nums l
  | [] => rfl
  | a :: l => by rw [nums_cons, frzL, frz, nums_frz l]
theorem nums_as : ∀ l : List Int, asInts (nums l) = some l
  | [] => rfl
  | a :: l => by rw [nums_cons, asInts, nums_as l]; rfl
theorem scr_items (l : List Int) : l.map D.int = nums l := rfl
theorem ixN_nat {n : Nat} {i : Int} (h0 : 0 ≤ i) (h1 : i < n) : ixN n i = some i.toNat := by
  unfold ixN
  rw [if_pos h0, if_pos h1]
theorem nums_at {l : List Int} {i : Int} (h0 : 0 ≤ i) (h1 : i < l.length) : atI (nums l) i = some (.int (l.getD i.toNat 0)) := by
  unfold atI
  rw [nums_len, ixN_nat h0 h1, Option.bind_some]
  unfold nums
  have h2 : i.toNat < l.length := by omega
  rw [List.getElem?_map, List.getElem?_eq_getElem h2, Option.map_some, List.getD_eq_getElem?_getD, List.getElem?_eq_getElem h2, Option.getD_some]
theorem oIx_nums {o : Bool} {l : List Int} {i : Int} (h0 : 0 ≤ i) (h1 : i < l.length) : oIx [.lst o (nums l), .int i] = some (.val (.int (l.getD i.toNat 0))) := by
  simp [oIx, items, nums_at h0 h1, cold, hot]
theorem oIx_tup {l : List Int} {i : Int} (h0 : 0 ≤ i) (h1 : i < l.length) : oIx [.tup (nums l), .int i] = some (.val (.int (l.getD i.toNat 0))) := by
  simp [oIx, items, nums_at h0 h1, cold, hot]
theorem oIx_scr {l : List Int} {i : Int} (h0 : 0 ≤ i) (h1 : i < l.length) : oIx [.scr l, .int i] = some (.val (.int (l.getD i.toNat 0))) := by
  simp [oIx, items, scr_items, nums_at h0 h1, cold, hot]
/-- a for over data, with an invariant by the items that are behind -/
theorem forD_ok {g : MG} {body : MS} (I : Nat → Sl → Prop) : ∀ (ds : List D) (k : Nat) (st : Sl), I k st →
    (∀ (i : Nat) (d : D) (st : Sl), ds[i]? = some d → I (k + i) st → ∃ st1 st2, g d st = .ok () st1 ∧ (body st1 = .next st2 ∨ body st1 = .cont st2) ∧ I (k + i + 1) st2) → ∃ st', forD g body ds st = .next st' ∧ I (k + ds.length) st'
  | [], k, st, h, _ => ⟨st, rfl, h⟩
  | d :: ds, k, st, h, hs => by
    obtain ⟨st1, st2, e1, e2, h2⟩ := hs 0 d st rfl h
    obtain ⟨st', e3, h3⟩ := forD_ok I ds (k + 1) st2 h2 fun i d' st3 e h4 => by
      have := hs (i + 1) d' st3 (by simpa using e) (by rw [show k + (i + 1) = k + 1 + i by omega]; exact h4)
      rw [show k + (i + 1) + 1 = k + 1 + i + 1 by omega] at this
      exact this
    refine ⟨st', ?_, by rw [show k + (d :: ds).length = k + 1 + ds.length by rw [List.length_cons]; omega]; exact h3⟩
    rw [forD, e1]
    show (match body st1 with | .next st2 => forD g body ds st2 | .cont st2 => forD g body ds st2 | .brk st2 => .next st2 | r => r) = _
    rcases e2 with e2 | e2
    · rw [e2]; exact e3
    · rw [e2]; exact e3
/-- a comprehension's loop, with an invariant -/
theorem compD_ok {g : MG} {t : MT} {e : ME} {vs : List Nat} (I : Nat → Sl → List D → Prop) : ∀ (ds : List D) (k : Nat) (st : Sl) (acc : List D), I k st acc →
    (∀ (i : Nat) (d : D) (st : Sl) (acc : List D), ds[i]? = some d → I (k + i) st acc → ∃ st1 b st2, g d st = .ok () st1 ∧ t st1 = .ok b st2 ∧
      (b = false → I (k + i + 1) (wipeS st2 vs) acc) ∧ (b = true → acc.length < 16777216 ∧ ∃ y st3, e st2 = .ok y st3 ∧ I (k + i + 1) (wipeS st3 vs) (acc ++ [y]))) →
    ∃ acc' st', compD g t e vs ds st acc = .ok acc' st' ∧ I (k + ds.length) st' acc'
  | [], k, st, acc, h, _ => ⟨acc, st, rfl, h⟩
  | d :: ds, k, st, acc, h, hs => by
    obtain ⟨st1, b, st2, e1, e2, h2, h3⟩ := hs 0 d st acc rfl h
    have step : ∀ st' acc', I (k + 1) st' acc' → ∃ acc2 st2, compD g t e vs ds st' acc' = .ok acc2 st2 ∧ I (k + (d :: ds).length) st2 acc2 := fun st' acc' h' => by
      obtain ⟨a2, s2, q1, q2⟩ := compD_ok I ds (k + 1) st' acc' h' fun i d' st3 acc3 e' h4 => by
        have := hs (i + 1) d' st3 acc3 (by simpa using e') (by rw [show k + (i + 1) = k + 1 + i by omega]; exact h4)
        rw [show k + (i + 1) + 1 = k + 1 + i + 1 by omega] at this
        exact this
      exact ⟨a2, s2, q1, by rw [show k + (d :: ds).length = k + 1 + ds.length by rw [List.length_cons]; omega]; exact q2⟩
    rw [compD, e1]
    dsimp only [Res.noX, Res.bind]
    rw [e2]
    dsimp only
    cases b with
    | false =>
      rw [if_neg (by decide)]
      exact step _ _ (h2 rfl)
    | true =>
      obtain ⟨hl, y, st3, e3, h4⟩ := h3 rfl
      rw [if_pos rfl, e3]
      dsimp only
      rw [if_pos hl]
      exact step _ _ h4
theorem rangeD_get {lo : Int} {n i : Nat} {d : D} (h : (rangeD lo n)[i]? = some d) : i < n ∧ d = .int (lo + i) := by
  unfold rangeD at h
  rw [List.getElem?_map] at h
  cases e : (List.range n)[i]? with
  | none =>
    rw [e] at h
    cases h
  | some j =>
    rw [e] at h
    have hi : i < n := by
      have := (List.getElem?_eq_some_iff.mp e).1
      simpa using this
    have : j = i := by
      have := (List.getElem?_eq_some_iff.mp e).2
      simp at this
      exact this.symm
    subst this
    exact ⟨hi, (Option.some.inj h).symm⟩
theorem rangeD_len (lo : Int) (n : Nat) : (rangeD lo n).length = n := by unfold rangeD; rw [List.length_map, List.length_range]
theorem nums_get {l : List Int} {i : Nat} {d : D} (h : (nums l)[i]? = some d) : ∃ x, l[i]? = some x ∧ d = .int x := by
  unfold nums at h
  rw [List.getElem?_map] at h
  cases e : l[i]? with
  | none =>
    rw [e] at h
    cases h
  | some x => rw [e] at h; exact ⟨x, rfl, (Option.some.inj h).symm⟩
theorem colds_range (lo : Int) (n : Nat) : colds (rangeD lo n) = true := by
  unfold colds rangeD
  rw [List.all_map]
  exact List.all_eq_true.mpr fun x _ => rfl
theorem nums_py : ∀ l : List Int, toPyL (nums l) = l.map PySem.PyData.int
  | [] => by rw [nums_nil, toPyL]; rfl
  | a :: l => by rw [nums_cons, toPyL, toPy, nums_py l]; rfl
theorem lay_nums : ∀ l : List Int, PySem.PyData.canLayAll0 (l.map PySem.PyData.int) = true
  | [] => by rw [List.map_nil, PySem.PyData.canLayAll0]
  | a :: l => by rw [List.map_cons, PySem.PyData.canLayAll0, lay_nums l, PySem.PyData.canLay0]; rfl
theorem depth_nums : ∀ l : List Int, PySem.PyData.depthAll (l.map PySem.PyData.int) = 0
  | [] => by rw [List.map_nil, PySem.PyData.depthAll]
  | a :: l => by rw [List.map_cons, PySem.PyData.depthAll, depth_nums l, PySem.PyData.depth]; rfl
theorem eqv_nums : ∀ l k : List Int, PySem.PyData.eqvAll (l.map PySem.PyData.int) (k.map PySem.PyData.int) = decide (l = k)
  | [], [] => by rw [List.map_nil, PySem.PyData.eqvAll]; rfl
  | [], b :: k => by rw [List.map_nil, List.map_cons, PySem.PyData.eqvAll]; rfl
  | a :: l, [] => by rw [List.map_nil, List.map_cons, PySem.PyData.eqvAll]; rfl
  | a :: l, b :: k => by
    rw [List.map_cons, List.map_cons, PySem.PyData.eqvAll, eqv_nums l k, PySem.PyData.eqv]
    by_cases h : a = b <;> by_cases h2 : l = k <;> simp [h, h2]
theorem sh_int (a : Int) : PySem.SeqAt.shaped (toPy (.int a)) = true := by
  rw [toPy]
  unfold PySem.SeqAt.shaped
  rw [PySem.PyData.canLay0, PySem.PyData.depth]
  rfl
theorem sh_bl (a : Bool) : PySem.SeqAt.shaped (toPy (.bl a)) = true := by
  rw [toPy]
  unfold PySem.SeqAt.shaped
  rw [PySem.PyData.canLay0, PySem.PyData.depth]
  rfl
theorem sh_lst (o : Bool) (l : List Int) : PySem.SeqAt.shaped (toPy (.lst o (nums l))) = true := by
  rw [toPy, nums_py]
  unfold PySem.SeqAt.shaped
  rw [PySem.PyData.canLay0, PySem.PyData.depth, lay_nums, depth_nums]
  rfl
theorem sh_tup (l : List Int) : PySem.SeqAt.shaped (toPy (.tup (nums l))) = true := by
  rw [toPy, nums_py]
  unfold PySem.SeqAt.shaped
  rw [PySem.PyData.canLay0, PySem.PyData.depth, lay_nums, depth_nums]
  rfl
theorem pEq_int (a b : Int) : pEq (.int a) (.int b) = some (.bl (decide (a = b))) := by
  unfold pEq
  rw [sh_int, sh_int, toPy, toPy, PySem.PyData.eqv]
  by_cases h : a = b <;> simp [h]
theorem pNe_int (a b : Int) : pNe (.int a) (.int b) = some (.bl (!decide (a = b))) := by
  unfold pNe
  rw [sh_int, sh_int, toPy, toPy, PySem.PyData.eqv]
  by_cases h : a = b <;> simp [h]
theorem pEq_bl (a b : Bool) : pEq (.bl a) (.bl b) = some (.bl (decide (a = b))) := by
  unfold pEq
  rw [sh_bl, sh_bl, toPy, toPy, PySem.PyData.eqv]
  by_cases h : a = b <;> simp [h]
theorem pNe_bl (a b : Bool) : pNe (.bl a) (.bl b) = some (.bl (!decide (a = b))) := by
  unfold pNe
  rw [sh_bl, sh_bl, toPy, toPy, PySem.PyData.eqv]
  by_cases h : a = b <;> simp [h]
theorem pEq_lst (o p : Bool) (l k : List Int) : pEq (.lst o (nums l)) (.lst p (nums k)) = some (.bl (decide (l = k))) := by
  unfold pEq
  rw [sh_lst, sh_lst, toPy, toPy, nums_py, nums_py, PySem.PyData.eqv, eqv_nums]
  rfl
theorem pNe_lst (o p : Bool) (l k : List Int) : pNe (.lst o (nums l)) (.lst p (nums k)) = some (.bl (!decide (l = k))) := by
  unfold pNe
  rw [sh_lst, sh_lst, toPy, toPy, nums_py, nums_py, PySem.PyData.eqv, eqv_nums]
  rfl
theorem pEq_tup (l k : List Int) : pEq (.tup (nums l)) (.tup (nums k)) = some (.bl (decide (l = k))) := by
  unfold pEq
  rw [sh_tup, sh_tup, toPy, toPy, nums_py, nums_py, PySem.PyData.eqv, eqv_nums]
  rfl
theorem pNe_tup (l k : List Int) : pNe (.tup (nums l)) (.tup (nums k)) = some (.bl (!decide (l = k))) := by
  unfold pNe
  rw [sh_tup, sh_tup, toPy, toPy, nums_py, nums_py, PySem.PyData.eqv, eqv_nums]
  rfl
theorem eLenI_v {C : Nat} {f : MF} {m : ME} {st st2 : Sl} {x : D} {n : Nat} {ps : Sl} (h : m st = .ok x st2) (hc : insC x = some C) (hf : f [x] = .ok (.int (n : Int)) ps) (hn : n < 1000000000) : eLenI C f (.v m) st = .ok (.int (n : Int)) st2 := by
  unfold eLenI
  rw [opds, h]
  dsimp only [Res.bind, opds, Option.map]
  rw [if_pos hc, hf]
  dsimp only
  rw [if_pos ⟨by omega, by omega⟩]
theorem eOp2_v {f : List D → Option Out} {m1 m2 : ME} {st st1 st2 : Sl} {a b : D} {o : Out} (h1 : m1 st = .ok a st1) (h2 : m2 st1 = .ok b st2) (hf : f [a, b] = some o) : eOp f [.v m1, .v m2] st = .ok o.d st2 := by
  unfold eOp
  rw [opds, h1]
  dsimp only [Res.bind]
  rw [opds, h2]
  dsimp only [Res.bind, opds, Option.map, Option.bind]
  rw [hf]
theorem fn_ret {n w : Nat} {L : List Nat} {body : MS} {ds : List D} {d : D} {st : Sl} (hl : ds.length = n) (h : body (ds.map some ++ List.replicate (w - n) none) = .ret d st) : fn n w L body ds = .ok d (keepL L n st) := by
  unfold fn
  rw [if_pos hl, h]
theorem sRet_ok {m : ME} {st st1 : Sl} {d : D} (h : m st = .ok d st1) : sRet m st = .ret d st1 := by
  unfold sRet
  rw [h]
  rfl
theorem sSeq_next {a b : MS} {st st1 : Sl} {r : SR} (h : a st = .next st1) (h2 : b st1 = r) : sSeq a b st = r := by
  unfold sSeq
  rw [h]
  exact h2
theorem sAsg_ok {m : ME} {g : MG} {st st1 st2 : Sl} {d : D} (h : m st = .ok d st1) (h2 : g d st1 = .ok () st2) : sAsg m g st = .next st2 := by
  unfold sAsg
  rw [h]
  show (g d st1).toN _ = _
  rw [h2]
  rfl
theorem sIf_ok {c : MT} {a b : MS} {st st1 : Sl} {k : Bool} (h : c st = .ok k st1) : sIf c a b st = if k then a st1 else b st1 := by
  unfold sIf
  rw [h]
  rfl
theorem tE_ok {m : ME} {st st1 : Sl} {k : Bool} (h : m st = .ok (.bl k) st1) : tE m st = .ok k st1 := by
  unfold tE
  rw [h]
  rfl
theorem tOr_ok {a b : MT} {st st1 st2 : Sl} {k : Bool} (h : a st = .ok false st1) (h2 : b st1 = .ok k st2) : tOrM a b st = .ok k st2 := by
  unfold tOrM
  rw [h]
  exact h2
theorem eEqI_v {neg : Bool} {C : Nat} {f : MF} {m1 m2 : ME} {st st1 st2 : Sl} {a b : D} {k : Bool} {ps : Sl} (h1 : m1 st = .ok a st1) (h2 : m2 st1 = .ok b st2) (ha : insC a = some C) (hb : insC b = some C) (hf : f [a, b] = .ok (.bl k) ps) : eEqI neg C f (.v m1) (.v m2) st = .ok (.bl (if neg then !k else k)) st2 := by
  unfold eEqI
  rw [opds, h1]
  dsimp only [Res.bind]
  rw [opds, h2]
  dsimp only [Res.bind, opds, Option.map]
  rw [if_pos ⟨ha, hb⟩, hf]
theorem eFz_v {m : ME} {st st1 : Sl} {a : D} (h : m st = .ok a st1) : eFz m st = .ok (frz a) st1 := by
  unfold eFz
  rw [h]
  rfl
theorem eOp1_v {f : List D → Option Out} {m1 : ME} {st st1 : Sl} {a : D} {o : Out} (h1 : m1 st = .ok a st1) (hf : f [a] = some o) : eOp f [.v m1] st = .ok o.d st1 := by
  unfold eOp
  rw [opds, h1]
  dsimp only [Res.bind, opds, Option.map, Option.bind]
  rw [hf]
theorem eOpvs_v {f : List D → Option Out} {m1 : ME} {i : Nat} {st st1 : Sl} {a b : D} {o : Out} (h1 : m1 st = .ok a st1) (h2 : getS st1 i = some b) (hf : f [a, b] = some o) : eOp f [.v m1, .s i] st = .ok o.d st1 := by
  unfold eOp
  rw [opds, h1]
  dsimp only [Res.bind]
  rw [opds, if_pos (by rw [h2]; rfl)]
  dsimp only [opds, Option.map, Option.bind]
  rw [h2]
  dsimp only
  rw [hf]
theorem iR1_v {m : ME} {st st1 : Sl} {n : Nat} {j : Int} (hj : j = (n : Int)) (h : m st = .ok (.int j) st1) (hs : small62 j = true) : iR1 m st = .ok (rangeD 0 n) st1 := by
  have e : j.toNat = n := by omega
  simp only [iR1, h, Res.bind, hs, if_true, e]
theorem eN_v {i : Nat} {st : Sl} {d : D} (h : getS st i = some d) (hc : hot d = false) : eN i st = .ok d st := by
  unfold eN
  rw [h]
  dsimp only
  rw [hc]
  rfl
theorem eNf_v {i : Nat} {st : Sl} {d : D} (h : getS st i = some d) (hc : hot d = true) : eN i st = .ok (frz d) (st.set i (some (frz d))) := by
  unfold eN
  rw [h]
  dsimp only
  rw [hc]
  rfl
theorem eOp1_s {f : List D → Option Out} {i : Nat} {st : Sl} {a : D} {o : Out} (h1 : getS st i = some a) (hf : f [a] = some o) : eOp f [.s i] st = .ok o.d st := by
  unfold eOp
  rw [opds, if_pos (by rw [h1]; rfl)]
  dsimp only [opds, Option.map, Option.bind]
  rw [h1]
  dsimp only
  rw [hf]
theorem oLen_l {o : Bool} {l : List Int} : oLen [.lst o (nums l)] = some (.val (.int (l.length : Nat))) := by
  show some (Out.val (.int (nums l).length)) = _
  rw [nums_len]
theorem oMul_v {i j : Int} (h : -(2 ^ 64) < j ∧ j < 2 ^ 64) : oMul [.int i, .int j] = some (.val (.int (i * j))) := by
  show (if (-(2 ^ 64) < i ∧ i < 2 ^ 64) ∨ (-(2 ^ 64) < j ∧ j < 2 ^ 64) then some (Out.val (.int (i * j))) else none) = _
  rw [if_pos (.inr h)]
theorem oMod_v {i j : Int} (h : 0 < j) : oMod [.int i, .int j] = some (.val (.int (i % j))) := by
  show (if 0 < j then some (Out.val (.int (i % j))) else none) = _
  rw [if_pos h]
theorem oDiv_v {i j : Int} (h : 0 < j) (h2 : j < 9000) : oDiv [.int i, .int j] = some (.val (.int (i / j))) := by
  show (if 0 < j ∧ j.natAbs.log2 < 9000 then some (Out.val (.int (i / j))) else none) = _
  rw [if_pos ⟨h, by
    have := Nat.log2_le_self j.natAbs
    omega⟩]
theorem oPow_v {i j : Int} (h : 0 ≤ j ∧ j ≤ 1000000) (h2 : i.natAbs < 2 ^ 64) : oPow [.int i, .int j] = some (.val (.int (i ^ j.toNat))) := by
  show (if 0 ≤ j ∧ j ≤ 1000000 ∧ i.natAbs < 2 ^ 64 then some (Out.val (.int (i ^ j.toNat))) else none) = _
  rw [if_pos ⟨h.1, h.2, h2⟩]
theorem ix2_0 {o : Bool} {a b : Int} : oIx [.lst o [.int a, .int b], .int 0] = some (.val (.int a)) := oIx_nums (l := [a, b]) (i := 0) (by decide) (by show (0 : Int) < ((2 : Nat) : Int); decide)
theorem ix2_1 {o : Bool} {a b : Int} : oIx [.lst o [.int a, .int b], .int 1] = some (.val (.int b)) := oIx_nums (l := [a, b]) (i := 1) (by decide) (by show (1 : Int) < ((2 : Nat) : Int); decide)
theorem ixN2_0 : L2.ixN 2 0 = some 0 := rfl
theorem ixN2_1 : L2.ixN 2 1 = some 1 := rfl
theorem oMul_l {i j : Int} (h : -(2 ^ 64) < i ∧ i < 2 ^ 64) : oMul [.int i, .int j] = some (.val (.int (i * j))) := by
  show (if (-(2 ^ 64) < i ∧ i < 2 ^ 64) ∨ (-(2 ^ 64) < j ∧ j < 2 ^ 64) then some (Out.val (.int (i * j))) else none) = _
  rw [if_pos (.inl h)]
theorem cut_nums (l : List Int) (lo hi : Option Int) : ∃ k, cutD (nums l) lo hi = nums k ∧ k.length ≤ l.length := by
  refine ⟨(l.drop (HT.sIx l.length 0 lo)).take (HT.sIx l.length l.length hi - HT.sIx l.length 0 lo), ?_, ?_⟩
  · unfold cutD nums
    rw [List.length_map, List.map_take, List.map_drop]
  · rw [List.length_take, List.length_drop]
    omega
theorem oSl01_scr (l : List Int) (j : Int) (hl : l.length ≤ 63) : ∃ k, oSl01 [.scr l, .int j] = some (.newL (nums k)) := by
  obtain ⟨k, e, h⟩ := cut_nums l none (some j)
  refine ⟨k, ?_⟩
  show newLc (cutD (nums l) none (some j)) = _
  rw [e]
  unfold newLc
  rw [nums_colds, nums_len, decide_eq_true (by omega : k.length ≤ 16777216)]
  rfl
theorem oSum_nums (o : Bool) (k : List Int) : oSum [.lst o (nums k)] = some (.val (.int k.sum)) := by
  unfold oSum lstItems
  dsimp only [Option.bind]
  rw [nums_as]
  rfl
theorem oLen_scr (l : List Int) : oLen [.scr l] = some (.val (.int (l.length : Nat))) := by
  show some (Out.val (.int (l.map D.int).length)) = _
  rw [List.length_map]
theorem eLc_v {src : Sl → Res (List D)} {g : MG} {t : MT} {e : ME} {vs : List Nat} {st st1 st2 : Sl} {ds acc : List D} (h1 : src st = .ok ds st1) (h2 : compD g t e vs ds (wipeS st1 vs) [] = .ok acc st2) : eLc src g t e vs st = .ok (.lst true acc) st2 := by
  unfold eLc
  rw [h1]
  dsimp only [Res.bind]
  rw [h2]
theorem eOpsv_v {f : List D → Option Out} {m1 : ME} {i : Nat} {st st1 : Sl} {a b : D} {o : Out} (h0 : (getS st i).isSome = true) (h1 : m1 st = .ok b st1) (h2 : getS st1 i = some a) (hf : f [a, b] = some o) : eOp f [.s i, .v m1] st = .ok o.d st1 := by
  unfold eOp
  rw [opds, if_pos h0, opds, h1]
  dsimp only [Res.bind, opds, Option.map, Option.bind]
  rw [h2]
  dsimp only
  rw [hf]
theorem kb_NoneType_int : L2.kitB "NoneType" "int" = some false := by kernel_rfl
theorem kb_NoneType_bool : L2.kitB "NoneType" "bool" = some false := by kernel_rfl
theorem kb_NoneType_list : L2.kitB "NoneType" "list" = some false := by kernel_rfl
theorem kb_NoneType_tuple : L2.kitB "NoneType" "tuple" = some false := by kernel_rfl
theorem kb_NoneType_str : L2.kitB "NoneType" "str" = some false := by kernel_rfl
theorem kb_bool_int : L2.kitB "bool" "int" = some true := by kernel_rfl
theorem kb_bool_bool : L2.kitB "bool" "bool" = some true := by kernel_rfl
theorem kb_bool_list : L2.kitB "bool" "list" = some false := by kernel_rfl
theorem kb_bool_tuple : L2.kitB "bool" "tuple" = some false := by kernel_rfl
theorem kb_bool_str : L2.kitB "bool" "str" = some false := by kernel_rfl
theorem kb_int_int : L2.kitB "int" "int" = some true := by kernel_rfl
theorem kb_int_bool : L2.kitB "int" "bool" = some false := by kernel_rfl
theorem kb_int_list : L2.kitB "int" "list" = some false := by kernel_rfl
theorem kb_int_tuple : L2.kitB "int" "tuple" = some false := by kernel_rfl
theorem kb_int_str : L2.kitB "int" "str" = some false := by kernel_rfl
theorem kb_str_int : L2.kitB "str" "int" = some false := by kernel_rfl
theorem kb_str_bool : L2.kitB "str" "bool" = some false := by kernel_rfl
theorem kb_str_list : L2.kitB "str" "list" = some false := by kernel_rfl
theorem kb_str_tuple : L2.kitB "str" "tuple" = some false := by kernel_rfl
theorem kb_str_str : L2.kitB "str" "str" = some true := by kernel_rfl
theorem kb_list_int : L2.kitB "list" "int" = some false := by kernel_rfl
theorem kb_list_bool : L2.kitB "list" "bool" = some false := by kernel_rfl
theorem kb_list_list : L2.kitB "list" "list" = some true := by kernel_rfl
theorem kb_list_tuple : L2.kitB "list" "tuple" = some false := by kernel_rfl
theorem kb_list_str : L2.kitB "list" "str" = some false := by kernel_rfl
theorem kb_tuple_int : L2.kitB "tuple" "int" = some false := by kernel_rfl
theorem kb_tuple_bool : L2.kitB "tuple" "bool" = some false := by kernel_rfl
theorem kb_tuple_list : L2.kitB "tuple" "list" = some false := by kernel_rfl
theorem kb_tuple_tuple : L2.kitB "tuple" "tuple" = some true := by kernel_rfl
theorem kb_tuple_str : L2.kitB "tuple" "str" = some false := by kernel_rfl
theorem kb_dict_int : L2.kitB "dict" "int" = some false := by kernel_rfl
theorem kb_dict_bool : L2.kitB "dict" "bool" = some false := by kernel_rfl
theorem kb_dict_list : L2.kitB "dict" "list" = some false := by kernel_rfl
theorem kb_dict_tuple : L2.kitB "dict" "tuple" = some false := by kernel_rfl
theorem kb_dict_str : L2.kitB "dict" "str" = some false := by kernel_rfl
end DL

/-! DL20: the plain law of comparators between neighbours: exchanges, active steps, inversions. -/
namespace Nw
def hit (l : List Int) (s : Int) : Bool := decide (l.getD s.toNat 0 < l.getD (s - 1).toNat 0)
def xch (l : List Int) (s : Int) : List Int := (l.set (s - 1).toNat (l.getD s.toNat 0)).set s.toNat (l.getD (s - 1).toNat 0)
def stp (l : List Int) (s : Int) : List Int := if hit l s then xch l s else l
def runL (ss : List Int) (l : List Int) : List Int := ss.foldl stp l
def okS (w : Int) (ss : List Int) : Prop := ∀ s ∈ ss, 1 ≤ s ∧ s ≤ w - 1
def actS : List Int → List Int → List Int
  | [], _ => []
  | s :: ss, l => if hit l s then s :: actS ss (stp l s) else actS ss (stp l s)
theorem stp_len (l : List Int) (s : Int) : (stp l s).length = l.length := by
  unfold stp xch
  split <;> simp
/-! ### inversions -/
def cnt (x : Int) (p : List Int) : Nat := (p.filter fun y => decide (x < y)).length
def invP : List Int → List Int → Nat
  | _, [] => 0
  | p, x :: r => cnt x p + invP (p ++ [x]) r
def inv (l : List Int) : Nat := invP [] l
theorem cnt_app (x : Int) (p q : List Int) : cnt x (p ++ q) = cnt x p + cnt x q := by unfold cnt; rw [List.filter_append, List.length_append]
theorem cnt_one (x y : Int) : cnt x [y] = if x < y then 1 else 0 := by
  unfold cnt
  by_cases h : x < y <;> simp [h]
theorem xch_split {p r : List Int} {a b : Int} {s : Int} (h1 : 1 ≤ s) (hp : (p.length : Int) = s - 1) : xch (p ++ a :: b :: r) s = p ++ b :: a :: r := by
  have e1 : (s - 1).toNat = p.length := by omega
  have e2 : s.toNat = p.length + 1 := by omega
  unfold xch
  rw [e1, e2]
  have g1 : (p ++ a :: b :: r).getD p.length 0 = a := by
    rw [List.getD_eq_getElem?_getD, List.getElem?_append_right (Nat.le_refl _), Nat.sub_self]; rfl
  have g2 : (p ++ a :: b :: r).getD (p.length + 1) 0 = b := by
    rw [List.getD_eq_getElem?_getD, List.getElem?_append_right (by omega), show p.length + 1 - p.length = 1 by omega]; rfl
  rw [g1, g2, List.set_append_right _ _ (Nat.le_refl _), Nat.sub_self, List.set_cons_zero, List.set_append_right _ _ (by omega), show p.length + 1 - p.length = 1 by omega]
  rfl
def desc : Nat → List Int
  | 0 => []
  | n + 1 => ((n + 1 : Nat) : Int) :: desc n
theorem desc_len : ∀ n, (desc n).length = n
  | 0 => rfl
  | n + 1 => by rw [desc, List.length_cons, desc_len n]
theorem cnt_all {x : Int} : ∀ {p : List Int}, (∀ y ∈ p, x < y) → cnt x p = p.length
  | [], _ => rfl
  | a :: p, h => by
    have := cnt_all (x := x) (p := p) fun y hy => h y (List.mem_cons_of_mem _ hy)
    unfold cnt at this ⊢
    rw [List.filter_cons, if_pos (decide_eq_true (h a List.mem_cons_self)), List.length_cons, List.length_cons, this]
end Nw

/-! DL21: the relations of the steps; every network is as a normal one. -/
namespace Nw
/-- the step between the places i and i + 1 -/
def sN (l : List Int) (i : Nat) : List Int := stp l ((i : Int) + 1)
theorem sN_len (l : List Int) (i : Nat) : (sN l i).length = l.length := stp_len _ _
theorem sN_get {l : List Int} {i : Nat} (h : i + 1 < l.length) (k : Nat) : (sN l i).getD k 0 = if k = i then min (l.getD i 0) (l.getD (i + 1) 0) else if k = i + 1 then max (l.getD i 0) (l.getD (i + 1) 0) else l.getD k 0 := by
  have e1 : ((i : Int) + 1).toNat = i + 1 := by omega
  have e2 : ((i : Int) + 1 - 1).toNat = i := by omega
  unfold sN stp hit xch
  rw [e1, e2]
  by_cases hh : l.getD (i + 1) 0 < l.getD i 0
  · rw [if_pos (decide_eq_true hh)]
    simp only [List.getD_eq_getElem?_getD, List.getElem?_set, List.length_set]
    simp only [List.getD_eq_getElem?_getD] at hh
    by_cases k1 : k = i
    · subst k1
      rw [if_neg (by omega), if_pos rfl, if_pos (by omega), if_pos rfl]
      simp only [Option.getD_some]
      omega
    · by_cases k2 : k = i + 1
      · subst k2
        rw [if_pos rfl, if_pos (by omega), if_neg (by omega), if_pos rfl]
        simp only [Option.getD_some]
        omega
      · rw [if_neg (by omega), if_neg (by omega), if_neg k1, if_neg k2]
  · rw [if_neg (by simpa using hh)]
    by_cases k1 : k = i
    · subst k1
      rw [if_pos rfl]
      omega
    · rw [if_neg k1]
      by_cases k2 : k = i + 1
      · subst k2
        rw [if_pos rfl]
        omega
      · rw [if_neg k2]
theorem ext_get {l m : List Int} (hl : l.length = m.length) (h : ∀ k, l.getD k 0 = m.getD k 0) : l = m := by
  apply List.ext_getElem hl
  intro k h1 h2
  have := h k
  rw [List.getD_eq_getElem?_getD, List.getD_eq_getElem?_getD, List.getElem?_eq_getElem h1, List.getElem?_eq_getElem h2] at this
  exact this
theorem sN_idem {l : List Int} {i : Nat} (h : i + 1 < l.length) : sN (sN l i) i = sN l i := by
  apply ext_get (by rw [sN_len])
  intro k
  rw [sN_get (by rw [sN_len]; exact h)]
  simp only [sN_get h, if_true]
  by_cases k1 : k = i <;> by_cases k2 : k = i + 1 <;> simp [k1, k2] <;> omega
theorem sN_comm {l : List Int} {i j : Nat} (hi : i + 1 < l.length) (hj : j + 1 < l.length) (hij : i + 2 ≤ j) : sN (sN l i) j = sN (sN l j) i := by
  apply ext_get (by rw [sN_len, sN_len, sN_len, sN_len])
  intro k
  rw [sN_get (l := sN l i) (i := j) (by rw [sN_len]; exact hj), sN_get (l := sN l j) (i := i) (by rw [sN_len]; exact hi)]
  simp only [sN_get hi, sN_get hj]
  rw [if_neg (show ¬ j = i by omega), if_neg (show ¬ j = i + 1 by omega), if_neg (show ¬ j + 1 = i by omega), if_neg (show ¬ j + 1 = i + 1 by omega), if_neg (show ¬ i = j by omega), if_neg (show ¬ i = j + 1 by omega), if_neg (show ¬ i + 1 = j by omega), if_neg (show ¬ i + 1 = j + 1 by omega)]
  by_cases k1 : k = i
  · rw [if_neg (by omega), if_neg (by omega), if_pos k1, if_pos k1]
  · by_cases k2 : k = i + 1
    · rw [if_neg (by omega), if_neg (by omega), if_neg k1, if_pos k2, if_neg k1, if_pos k2]
    · rw [if_neg k1, if_neg k2, if_neg k1, if_neg k2]
theorem sN_braid {l : List Int} {i : Nat} (h : i + 2 < l.length) : sN (sN (sN l (i + 1)) i) (i + 1) = sN (sN (sN l i) (i + 1)) i := by
  apply ext_get (by simp only [sN_len])
  intro k
  have h1 : i + 1 < l.length := by omega
  have g1 : ∀ k, (sN l (i + 1)).getD k 0 = if k = i + 1 then min (l.getD (i + 1) 0) (l.getD (i + 1 + 1) 0) else if k = i + 1 + 1 then max (l.getD (i + 1) 0) (l.getD (i + 1 + 1) 0) else l.getD k 0 := fun k => sN_get h k
  have g2 : ∀ k, (sN l i).getD k 0 = if k = i then min (l.getD i 0) (l.getD (i + 1) 0) else if k = i + 1 then max (l.getD i 0) (l.getD (i + 1) 0) else l.getD k 0 := fun k => sN_get h1 k
  have g3 : ∀ k, (sN (sN l (i + 1)) i).getD k 0 = if k = i then min ((sN l (i + 1)).getD i 0) ((sN l (i + 1)).getD (i + 1) 0) else if k = i + 1 then max ((sN l (i + 1)).getD i 0) ((sN l (i + 1)).getD (i + 1) 0) else (sN l (i + 1)).getD k 0 := fun k => sN_get (by rw [sN_len]; exact h1) k
  have g4 : ∀ k, (sN (sN l i) (i + 1)).getD k 0 = if k = i + 1 then min ((sN l i).getD (i + 1) 0) ((sN l i).getD (i + 1 + 1) 0) else if k = i + 1 + 1 then max ((sN l i).getD (i + 1) 0) ((sN l i).getD (i + 1 + 1) 0) else (sN l i).getD k 0 := fun k => sN_get (by rw [sN_len]; exact h) k
  rw [sN_get (l := sN (sN l (i + 1)) i) (i := i + 1) (by rw [sN_len, sN_len]; exact h), sN_get (l := sN (sN l i) (i + 1)) (i := i) (by rw [sN_len, sN_len]; exact h1)]
  simp only [g3, g4, g1, g2]
  generalize l.getD i 0 = a
  generalize l.getD (i + 1) 0 = b
  generalize l.getD (i + 1 + 1) 0 = c
  generalize l.getD k 0 = d
  by_cases k1 : k = i
  · subst k1
    simp
    omega
  · by_cases k2 : k = i + 1
    · subst k2
      simp
      omega
    · by_cases k3 : k = i + 1 + 1
      · subst k3
        simp
        omega
      · simp [k1, k2, k3]
/-! ### words of steps, by the left place -/
def runN (w : List Nat) (l : List Int) : List Int := w.foldl sN l
theorem runN_app (a b : List Nat) (l : List Int) : runN (a ++ b) l = runN b (runN a l) := by unfold runN; rw [List.foldl_append]
theorem runN_cons (i : Nat) (a : List Nat) (l : List Int) : runN (i :: a) l = runN a (sN l i) := rfl
theorem runN_one (i : Nat) (l : List Int) : runN [i] l = sN l i := rfl
theorem runN_len : ∀ (w : List Nat) (l : List Int), (runN w l).length = l.length
  | [], _ => rfl
  | i :: w, l => by rw [runN_cons, runN_len w, sN_len]
theorem sN_comm2 {l : List Int} {i j : Nat} (hi : i + 1 < l.length) (hj : j + 1 < l.length) (h : i + 2 ≤ j ∨ j + 2 ≤ i) : sN (sN l i) j = sN (sN l j) i := by
  rcases h with h | h
  · exact sN_comm hi hj h
  · exact (sN_comm hj hi h).symm
theorem comm_past {i : Nat} : ∀ (ds : List Nat) (l : List Int), i + 1 < l.length → (∀ d ∈ ds, d + 1 < l.length ∧ (i + 2 ≤ d ∨ d + 2 ≤ i)) → runN (ds ++ [i]) l = runN (i :: ds) l
  | [], _, _, _ => rfl
  | d :: ds, l, hi, h => by
    obtain ⟨hd, hc⟩ := h d List.mem_cons_self
    have ih := comm_past ds (sN l d) (by rw [sN_len]; exact hi) fun e he => by
      rw [sN_len]
      exact h e (List.mem_cons_of_mem _ he)
    rw [List.cons_append, runN_cons, ih, runN_cons, runN_cons, runN_cons, sN_comm2 hd hi (hc.symm)]
/-- a descending block: m, m - 1, .. (c of them) -/
def dn : Nat → Nat → List Nat
  | _, 0 => []
  | m, c + 1 => m :: dn (m - 1) c
theorem dn_mem : ∀ (c m : Nat), c ≤ m + 1 → ∀ d ∈ dn m c, d ≤ m ∧ m < d + c
  | 0, _, _, d, h => by cases h
  | c + 1, m, hc, d, h => by
    rcases List.mem_cons.mp h with h | h
    · subst h
      omega
    · cases m with
      | zero =>
        have : c = 0 := by omega
        subst this
        cases h
      | succ m =>
        have := dn_mem c m (by omega) d h
        omega
theorem dn_snoc : ∀ (c m : Nat), c ≤ m → dn m (c + 1) = dn m c ++ [m - c]
  | 0, m, _ => rfl
  | c + 1, m, h => by
    rw [dn, dn_snoc c (m - 1) (by omega), dn, List.cons_append, show m - 1 - c = m - (c + 1) by omega]
/-- a step that lies within a block goes through it, one place lower -/
theorem push : ∀ (c m i : Nat) (l : List Int), c ≤ m + 1 → m + 1 < i + c → i ≤ m → m + 1 < l.length → runN (dn m c ++ [i]) l = runN ((i - 1) :: dn m c) l
  | 0, m, i, l, _, h1, h2, _ => by omega
  | c + 1, m, i, l, hc, h1, h2, hl => by
    by_cases him : i = m
    · subst him
      cases c with
      | zero => omega
      | succ c =>
        obtain ⟨k, rfl⟩ : ∃ k, i = k + 1 := ⟨i - 1, by omega⟩
        have far := comm_past (i := k + 1) (dn (k - 1) c) (sN (sN l (k + 1)) k) (by rw [sN_len, sN_len]; omega) fun d hd => by
          rw [sN_len, sN_len]
          cases k with
          | zero =>
            have : c = 0 := by omega
            subst this
            cases hd
          | succ k =>
            have := dn_mem c k (by omega) d hd
            omega
        show runN (dn (k - 1) c ++ [k + 1]) (sN (sN l (k + 1)) k) = runN (dn (k - 1) c) (sN (sN (sN l k) (k + 1)) k)
        rw [far, runN_cons, sN_braid (by omega)]
    · have ih := push c (m - 1) i (sN l m) (by omega) (by omega) (by omega) (by rw [sN_len]; omega)
      show runN (dn (m - 1) c ++ [i]) (sN l m) = runN (dn (m - 1) c) (sN (sN l (i - 1)) m)
      rw [ih, runN_cons, sN_comm2 (l := l) (i := m) (j := i - 1) hl (by omega) (.inr (by omega))]
/-! ### normal words by codes; a code is given from its end -/
def nfR : List Nat → List Nat
  | [] => []
  | c :: r => nfR r ++ dn r.length c
def okC : List Nat → Prop
  | [] => True
  | c :: r => c ≤ r.length + 1 ∧ okC r
/-- a step behind a normal word: a normal word again -/
theorem absorb : ∀ (cs : List Nat) (i : Nat), okC cs → i < cs.length → ∃ cs', cs'.length = cs.length ∧ okC cs' ∧ ∀ l : List Int, cs.length < l.length → runN (nfR cs ++ [i]) l = runN (nfR cs') l
  | [], i, _, h => by cases h
  | c :: r, i, ⟨h1, h2⟩, hi => by
    rw [List.length_cons] at hi
    -- a step for what lies before
    have before : ∀ j, j < r.length → (∀ l : List Int, r.length + 1 < l.length → runN (dn r.length c ++ [i]) l = runN (j :: dn r.length c) l) →
        ∃ cs', cs'.length = (c :: r).length ∧ okC cs' ∧ ∀ l : List Int, (c :: r).length < l.length → runN (nfR (c :: r) ++ [i]) l = runN (nfR cs') l := fun j hj hp => by
      obtain ⟨r', e1, e2, e3⟩ := absorb r j h2 hj
      refine ⟨c :: r', by rw [List.length_cons, e1, List.length_cons], ⟨by rw [e1]; exact h1, e2⟩, fun l hl => ?_⟩
      rw [List.length_cons] at hl
      show runN (nfR r ++ dn r.length c ++ [i]) l = runN (nfR r' ++ dn r'.length c) l
      rw [List.append_assoc, runN_app, hp _ (by rw [runN_len]; exact hl), runN_app, e1, ← e3 l (by omega), runN_app]
      rfl
    cases c with
    | zero =>
      by_cases him : i = r.length
      · subst him
        refine ⟨1 :: r, rfl, ⟨by omega, h2⟩, fun l _ => ?_⟩
        show runN (nfR r ++ [] ++ [r.length]) l = runN (nfR r ++ [r.length]) l
        rw [List.append_nil]
      · exact before i (by omega) fun l _ => rfl
    | succ c =>
      by_cases q1 : i + c + 1 = r.length
      · -- it makes the block longer
        refine ⟨(c + 2) :: r, rfl, ⟨by omega, h2⟩, fun l _ => ?_⟩
        show runN (nfR r ++ dn r.length (c + 1) ++ [i]) l = runN (nfR r ++ dn r.length (c + 1 + 1)) l
        rw [dn_snoc (c + 1) r.length (by omega), List.append_assoc, show r.length - (c + 1) = i by omega]
      · by_cases q2 : i + c = r.length
        · -- it is the block's last step
          refine ⟨(c + 1) :: r, rfl, ⟨h1, h2⟩, fun l hl => ?_⟩
          rw [List.length_cons] at hl
          show runN (nfR r ++ dn r.length (c + 1) ++ [i]) l = runN (nfR r ++ dn r.length (c + 1)) l
          rw [dn_snoc c r.length (by omega), show r.length - c = i by omega]
          rw [runN_app, ← List.append_assoc, runN_app, runN_one, runN_one, sN_idem (by rw [runN_len]; omega)]
        · by_cases q3 : i + c + 1 < r.length
          · refine before i (by omega) fun l hl => comm_past _ l (by omega) fun d hd => ?_
            have := dn_mem (c + 1) r.length h1 d hd
            omega
          · exact before (i - 1) (by omega) fun l hl => push (c + 1) r.length i l h1 (by omega) (by omega) hl
theorem normal_from : ∀ (f : List Nat) (cs : List Nat), okC cs → (∀ i ∈ f, i < cs.length) → ∃ cs', cs'.length = cs.length ∧ okC cs' ∧ ∀ l : List Int, cs.length < l.length → runN (nfR cs ++ f) l = runN (nfR cs') l
  | [], cs, h, _ => ⟨cs, rfl, h, fun l _ => by rw [List.append_nil]⟩
  | i :: f, cs, h, hf => by
    obtain ⟨c1, e1, e2, e3⟩ := absorb cs i h (hf i List.mem_cons_self)
    obtain ⟨c2, e4, e5, e6⟩ := normal_from f c1 e2 fun j hj => by
      rw [e1]
      exact hf j (List.mem_cons_of_mem _ hj)
    refine ⟨c2, e4.trans e1, e5, fun l hl => ?_⟩
    rw [show nfR cs ++ i :: f = nfR cs ++ [i] ++ f by simp, runN_app, e3 l hl, ← runN_app]
    exact e6 l (by omega)
theorem zeros_ok : ∀ w, okC (List.replicate w 0)
  | 0 => trivial
  | w + 1 => ⟨Nat.zero_le _, zeros_ok w⟩
theorem zeros_nf : ∀ w, nfR (List.replicate w 0) = []
  | 0 => rfl
  | w + 1 => by
    rw [List.replicate_succ, nfR, zeros_nf w]
    rfl
/-- every word is as a normal one -/
theorem normal (w : Nat) (f : List Nat) (h : ∀ i ∈ f, i < w) : ∃ cs, cs.length = w ∧ okC cs ∧ ∀ l : List Int, w < l.length → runN f l = runN (nfR cs) l := by
  obtain ⟨cs, e1, e2, e3⟩ := normal_from f (List.replicate w 0) (zeros_ok w) (by simpa using h)
  rw [List.length_replicate] at e1 e3
  rw [zeros_nf] at e3
  exact ⟨cs, e1, e2, e3⟩
end Nw

/-! DL22: the profile of a normal word, its code; equal profiles, equal effects. -/
namespace Nw
/-- what a normal word makes of the descending list: numbers put in one after the other -/
def pf (w : Int) : List Nat → List Int
  | [] => [w]
  | c :: r => (pf w r).take (r.length + 1 - c) ++ (w - ((r.length : Int) + 1)) :: (pf w r).drop (r.length + 1 - c)
theorem pf_len (w : Int) : ∀ cs, (pf w cs).length = cs.length + 1
  | [] => rfl
  | c :: r => by
    have ih := pf_len w r
    rw [pf, List.length_append, List.length_cons, List.length_take, List.length_drop, List.length_cons, ih]
    omega
theorem pf_gt (w : Int) : ∀ cs, ∀ y ∈ pf w cs, w - (cs.length : Int) ≤ y
  | [], y, h => by
    have : y = w := by simpa [pf] using h
    subst this
    show y - ((0 : Nat) : Int) ≤ y
    omega
  | c :: r, y, h => by
    have ih := pf_gt w r
    rw [List.length_cons]
    rw [pf] at h
    rcases List.mem_append.mp h with h | h
    · have := ih y (List.mem_of_mem_take h)
      omega
    · rcases List.mem_cons.mp h with h | h
      · subst h
        omega
      · have := ih y (List.mem_of_mem_drop h)
        omega
theorem sN_at {q rest : List Int} {x y : Int} (h : x < y) : sN (q ++ y :: x :: rest) q.length = q ++ x :: y :: rest := by
  have e2 : ((q.length : Int) + 1).toNat = q.length + 1 := by omega
  have e1 : ((q.length : Int) + 1 - 1).toNat = q.length := by omega
  have g1 : (q ++ y :: x :: rest).getD q.length 0 = y := by
    rw [List.getD_eq_getElem?_getD, List.getElem?_append_right (Nat.le_refl _), Nat.sub_self]
    rfl
  have g2 : (q ++ y :: x :: rest).getD (q.length + 1) 0 = x := by
    rw [List.getD_eq_getElem?_getD, List.getElem?_append_right (by omega), show q.length + 1 - q.length = 1 by omega]
    rfl
  have hh : hit (q ++ y :: x :: rest) ((q.length : Int) + 1) = true := by
    unfold hit
    rw [e1, e2, g1, g2]
    exact decide_eq_true h
  unfold sN stp
  rw [hh, if_pos rfl]
  exact xch_split (by omega) (by omega)
/-- a block carries the small number c places down -/
theorem bubble : ∀ (c m : Nat) (q rest : List Int) (x : Int), q.length = m + 1 → c ≤ m + 1 → (∀ y ∈ q, x < y) → runN (dn m c) (q ++ x :: rest) = q.take (m + 1 - c) ++ x :: (q.drop (m + 1 - c) ++ rest)
  | 0, m, q, rest, x, hq, _, _ => by
    rw [Nat.sub_zero, ← hq, List.take_length, List.drop_length]
    rfl
  | c + 1, m, q, rest, x, hq, hc, hx => by
    obtain ⟨q', y, rfl⟩ : ∃ q' y, q = q' ++ [y] := by
      have : q ≠ [] := fun z => by rw [z] at hq; cases hq
      exact ⟨q.dropLast, q.getLast this, (List.dropLast_concat_getLast this).symm⟩
    have hq' : q'.length = m := by simpa using hq
    have hy : x < y := hx y (by simp)
    rw [dn, runN_cons, show q' ++ [y] ++ x :: rest = q' ++ y :: x :: rest by simp]
    have s := sN_at (q := q') (rest := rest) hy
    rw [hq'] at s
    rw [s]
    cases m with
    | zero =>
      have c0 : c = 0 := by omega
      subst c0
      have q0 : q' = [] := List.length_eq_zero_iff.mp hq'
      subst q0
      rfl
    | succ m =>
      have ih := bubble c m q' (y :: rest) x hq' (by omega) fun z hz => hx z (List.mem_append_left _ hz)
      rw [show m + 1 - 1 = m by omega, ih]
      rw [show m + 1 + 1 - (c + 1) = m + 1 - c by omega, List.take_append_of_le_length (by omega), List.drop_append_of_le_length (by omega)]
      simp
theorem desc_succ (n : Nat) : desc (n + 1) = ((n + 1 : Nat) : Int) :: desc n := rfl
/-- the profile of a normal word -/
theorem run_nf (w : Nat) : ∀ cs, okC cs → cs.length + 1 ≤ w → runN (nfR cs) (desc w) = pf w cs ++ desc (w - cs.length - 1)
  | [], _, h => by
    obtain ⟨k, rfl⟩ : ∃ k, w = k + 1 := ⟨w - 1, by simp at h; omega⟩
    show desc (k + 1) = [((k + 1 : Nat) : Int)] ++ desc (k + 1 - 0 - 1)
    rw [show k + 1 - 0 - 1 = k by omega]
    rfl
  | c :: r, ⟨h1, h2⟩, h => by
    rw [List.length_cons] at h
    obtain ⟨k, hk⟩ : ∃ k, w - r.length - 1 = k + 1 := ⟨w - r.length - 2, by omega⟩
    have ih := run_nf w r h2 (by omega)
    rw [nfR, runN_app, ih, hk, desc_succ]
    have ex : ((k + 1 : Nat) : Int) = (w : Int) - ((r.length : Int) + 1) := by omega
    rw [ex]
    rw [bubble c r.length (pf w r) (desc k) _ (pf_len _ _) h1 fun y hy => by
      have := pf_gt w r y hy
      omega]
    rw [pf, List.length_cons, show w - (r.length + 1) - 1 = k by omega]
    simp
/-- what stands behind the first n -/
def aft (n : Int) : List Int → List Int
  | [] => []
  | x :: r => if x = n then r else aft n r
theorem aft_at {n : Int} : ∀ {a b : List Int}, (∀ y ∈ a, n < y) → aft n (a ++ n :: b) = b
  | [], b, _ => by
    show (if n = n then b else aft n b) = b
    rw [if_pos rfl]
  | x :: a, b, h => by
    have := h x List.mem_cons_self
    show (if x = n then a ++ n :: b else aft n (a ++ n :: b)) = b
    rw [if_neg (by omega)]
    exact aft_at fun y hy => h y (List.mem_cons_of_mem _ hy)
theorem cnt_cons (n x : Int) (p : List Int) : cnt n (x :: p) = (if n < x then 1 else 0) + cnt n p := by
  rw [show x :: p = [x] ++ p from rfl, cnt_app, cnt_one]
theorem cnt_put {n x : Int} (h : x < n) : ∀ (a b : List Int), cnt n (aft n (a ++ x :: b)) = cnt n (aft n (a ++ b))
  | [], b => by
    show cnt n (if x = n then b else aft n b) = _
    rw [if_neg (by omega)]
    rfl
  | y :: a, b => by
    show cnt n (if y = n then a ++ x :: b else aft n (a ++ x :: b)) = cnt n (if y = n then a ++ b else aft n (a ++ b))
    split
    · rw [cnt_app, cnt_app, cnt_cons, if_neg (by omega)]
      omega
    · exact cnt_put h a b
/-- how many greater numbers stand behind n -/
def cd (p : List Int) (n : Int) : Nat := cnt n (aft n p)
theorem cd_new {w : Int} {c : Nat} {r : List Nat} (h : c ≤ r.length + 1) : cd (pf w (c :: r)) (w - ((r.length : Int) + 1)) = c := by
  unfold cd
  have gt : ∀ y ∈ pf w r, w - ((r.length : Int) + 1) < y := fun y hy => by
    have := pf_gt w r y hy
    omega
  rw [pf, aft_at fun y hy => gt y (List.mem_of_mem_take hy), cnt_all fun y hy => gt y (List.mem_of_mem_drop hy), List.length_drop, pf_len]
  omega
theorem cd_old {w : Int} {c : Nat} {r : List Nat} {n : Int} (h : w - ((r.length : Int) + 1) < n) : cd (pf w (c :: r)) n = cd (pf w r) n := by
  unfold cd
  rw [pf, cnt_put h, List.take_append_drop]
/-- the code of the profile of a normal word -/
theorem code_pf (w : Int) : ∀ cs, okC cs → (List.range cs.length).map (fun (i : Nat) => cd (pf w cs) (w - 1 - (i : Int))) = cs.reverse
  | [], _ => rfl
  | c :: r, ⟨h1, h2⟩ => by
    rw [List.length_cons, List.range_succ, List.map_append, List.reverse_cons, ← code_pf w r h2]
    congr 1
    · apply List.map_congr_left
      intro i hi
      have := List.mem_range.mp hi
      exact cd_old (by omega)
    · show [cd (pf w (c :: r)) (w - 1 - (r.length : Int))] = [c]
      rw [show w - 1 - (r.length : Int) = w - ((r.length : Int) + 1) by omega, cd_new h1]
/-- equal profiles: equal codes -/
theorem pf_inj {w : Nat} {cs ds : List Nat} (hc : okC cs) (hd : okC ds) (e : cs.length = ds.length) (h : cs.length + 1 ≤ w) (hp : runN (nfR cs) (desc w) = runN (nfR ds) (desc w)) : cs = ds := by
  rw [run_nf w cs hc h, run_nf w ds hd (by omega), e] at hp
  have p : pf w cs = pf w ds := List.append_cancel_right hp
  have a := code_pf w cs hc
  have b := code_pf w ds hd
  rw [p, e, b] at a
  exact (List.reverse_inj.mp a).symm
/-- THE DESCENDING LIST DECIDES -/
theorem decides {w : Nat} {f g : List Nat} (hw : 1 ≤ w) (hf : ∀ i ∈ f, i + 1 < w) (hg : ∀ i ∈ g, i + 1 < w) (hp : runN f (desc w) = runN g (desc w)) (l : List Int) (hl : l.length = w) : runN f l = runN g l := by
  obtain ⟨cs, a1, a2, a3⟩ := normal (w - 1) f fun i hi => by have := hf i hi; omega
  obtain ⟨ds, b1, b2, b3⟩ := normal (w - 1) g fun i hi => by have := hg i hi; omega
  rw [a3 _ (by rw [desc_len]; omega), b3 _ (by rw [desc_len]; omega)] at hp
  have : cs = ds := pf_inj a2 b2 (by omega) (by omega) hp
  rw [a3 l (by omega), b3 l (by omega), this]
end Nw

/-! DL23: sorted of whole numbers. -/
namespace DL
open PySem L2 PyProof.Rows
def srt (ns : List Int) : List Int := ns.mergeSort fun a b => decide (a ≤ b)
def oSorted : List D → Option Out
  | [x] => ((lstItems x).bind asInts).map fun ns => .newL (nums (srt ns))
  | _ => none
section
variable {ca : Nat → Addr} {K : PySem.W.Frag} {Hf H : Hp} {S : Rg}
theorem oSorted_l {o : Bool} {l : List Int} : oSorted [.lst o (nums l)] = some (.newL (nums (srt l))) := by
  show ((lstItems (.lst o (nums l))).bind asInts).map _ = _
  rw [show lstItems (.lst o (nums l)) = some (nums l) from rfl, Option.bind_some, nums_as]
  rfl
end
end DL

/-! DL24: codes as the program's lists; steps as whole numbers. -/
namespace Nw
def up1 (f : List Nat) : List Int := f.map fun (i : Nat) => (i : Int) + 1
theorem up1_run : ∀ (f : List Nat) (l : List Int), runL (up1 f) l = runN f l
  | [], _ => rfl
  | i :: f, l => up1_run f (sN l i)
theorem up1_of {w : Int} : ∀ {ss : List Int}, okS w ss → ∃ f : List Nat, ss = up1 f ∧ ∀ i ∈ f, (i : Int) + 1 ≤ w - 1
  | [], _ => ⟨[], rfl, fun i hi => by cases hi⟩
  | s :: ss, h => by
    obtain ⟨f, e, hf⟩ := up1_of fun t ht => h t (List.mem_cons_of_mem _ ht)
    have hs := h s List.mem_cons_self
    refine ⟨(s - 1).toNat :: f, ?_, fun i hi => ?_⟩
    · rw [e]
      show s :: up1 f = ((((s - 1).toNat : Nat) : Int) + 1) :: up1 f
      rw [show (((s - 1).toNat : Nat) : Int) + 1 = s by omega]
    · rcases List.mem_cons.mp hi with hi | hi
      · subst hi
        omega
      · exact hf i hi
end Nw

/-! DL25: the reading of codes: index, slices, extend. -/
namespace DL
open PySem (Str)
open Nw
theorem nums_flat (l : List Int) : (nums l).all flat = true := by
  unfold nums
  rw [List.all_map]
  exact List.all_eq_true.mpr fun x _ => rfl
theorem eMt_s {i j : Nat} {f : List D → Option Out} {st : Sl} {x y : D} {o : Out} (h0 : getS st i = some x) (hl : isLst x = true) (h1 : getS st j = some y) (hf : f [x, y] = some o) : eMt i f [.s j] st = .ok o.d st := by
  unfold eMt
  rw [h0]
  dsimp only
  rw [if_pos hl, opds, if_pos (by rw [h1]; rfl)]
  dsimp only [opds, Option.map, Option.bind]
  rw [h0, h1]
  dsimp only
  rw [hf]
theorem eApp_v {i : Nat} {m : ME} {st st1 : Sl} {d d0 : D} {xs : List D} (h0 : getS st i = some d0) (hl : isLst d0 = true) (h1 : m st = .ok d st1) (h2 : getS st1 i = some (.lst true xs)) (hn : xs.length < 16777216) : eApp i m st = .ok .non (st1.set i (some (.lst true (xs ++ [d])))) := by
  unfold eApp
  rw [h0]
  dsimp only
  rw [if_pos hl, h1]
  dsimp only [Res.bind]
  rw [h2]
  dsimp only
  rw [if_pos hn]
theorem eExt_v {i : Nat} {m : ME} {st st1 : Sl} {d0 : D} {o : Bool} {xs ys : List Int} (h0 : getS st i = some d0) (hl : isLst d0 = true) (h1 : m st = .ok (.lst o (nums ys)) st1) (h2 : getS st1 i = some (.lst true (nums xs))) (hn : xs.length + ys.length ≤ 16777216) : eExt i m st = .ok .non (st1.set i (some (.lst true (nums (xs ++ ys))))) := by
  unfold eExt
  rw [h0]
  dsimp only
  rw [if_pos hl, h1]
  dsimp only [Res.bind]
  rw [h2]
  have e : ext2 (some (.lst true (nums xs))) (.lst o (nums ys)) = some (nums (xs ++ ys)) := by
    unfold ext2
    dsimp only
    rw [nums_colds, nums_len, nums_len, decide_eq_true hn, nums_app]
    rfl
  rw [e]
theorem sExpr_ok {m : ME} {st st1 : Sl} {d : D} (h : m st = .ok d st1) : sExpr m st = .next st1 := by
  unfold sExpr
  rw [h]
  rfl
end DL
namespace Nw
/-- the code's part as it stands after i turns -/
def part (cs : List Nat) (i : Nat) : List Nat := (cs.reverse.take i).reverse
end Nw
namespace DL
open Nw
theorem sm62 {z : Int} (h1 : -1000 ≤ z) (h2 : z ≤ 1000) : small62 z = true := by
  unfold small62
  refine decide_eq_true ?_
  omega
end DL
namespace Nw
end Nw
namespace DL
open Nw
theorem log2_small {m : Int} (h : m.natAbs < 2 ^ 80) : m.natAbs.log2 < 9000 := by
  by_cases z : m.natAbs = 0
  · rw [z]
    decide
  · exact Nat.lt_trans ((Nat.log2_lt z).mpr h) (by decide)
theorem oDiv_w {i j : Int} (h : 0 < j) (h2 : j.natAbs < 2 ^ 80) : oDiv [.int i, .int j] = some (.val (.int (i / j))) := by
  show (if 0 < j ∧ j.natAbs.log2 < 9000 then some (Out.val (.int (i / j))) else none) = _
  rw [if_pos ⟨h, log2_small h2⟩]
end DL

/-! DL26: no network exchanges more often than on the descending list. -/
namespace Nw
end Nw

/-! DL27: the meanings evaluated step by step, by unification. -/
namespace DL
open PySem (Str)
section
variable {m m1 m2 m3 : ME} {ms ns : MA} {st st1 st2 st3 st' : Sl} {a b c d d' x y : D} {ds es : List D} {o : Out} {f : List D → Option Out} {i j k : Nat} {F : MF} {ps : Sl} {g : MG} {s s1 s2 : MS} {r : SR} {t t1 t2 : MT} {p q : Bool} {C : Nat}
theorem od_val : (Out.val d).d = d := rfl
theorem od_newL : (Out.newL ds).d = .lst true ds := rfl
theorem od_newT : (Out.newT ds).d = .tup ds := rfl
theorem od_eq (h : d = d') : (Out.val d).d = d' := h
theorem set_0 {o : Option D} {l : Sl} : (o :: l).set 0 x' = x' :: l := rfl
theorem set_s {o : Option D} {l l' : Sl} {z : Option D} (h : l.set i z = l') : (o :: l).set (i + 1) z = o :: l' := by rw [← h]; rfl
/-! expressions -/
theorem xC : eC d st = .ok d st := rfl
theorem xN (h : getS st i = some d) (hc : hot d = false) : eN i st = .ok d st := eN_v h hc
theorem xNf (h : getS st i = some d) (hc : hot d = true) (hf : frz d = d') (hs : st.set i (some d') = st') : eN i st = .ok d' st' := by
  rw [eNf_v h hc, hf, hs]
theorem xMv (h : getS st i = some d) (hs : st.set i none = st') : eMv i st = .ok d st' := by
  unfold eMv; rw [h]; subst hs; rfl
theorem xOv (h : m st = .ok a st1) (hf : f [a] = some o) (hd : o.d = d) : eOp f [.v m] st = .ok d st1 := by rw [eOp1_v h hf, hd]
theorem xOs (h : getS st i = some a) (hf : f [a] = some o) (hd : o.d = d) : eOp f [.s i] st = .ok d st := by rw [eOp1_s h hf, hd]
theorem xOvv (h : m1 st = .ok a st1) (h2 : m2 st1 = .ok b st2) (hf : f [a, b] = some o) (hd : o.d = d) : eOp f [.v m1, .v m2] st = .ok d st2 := by rw [eOp2_v h h2 hf, hd]
theorem xOvs (h : m1 st = .ok a st1) (h2 : getS st1 i = some b) (hf : f [a, b] = some o) (hd : o.d = d) : eOp f [.v m1, .s i] st = .ok d st1 := by rw [eOpvs_v h h2 hf, hd]
theorem xOsv (h0 : getS st i = some x) (h : m1 st = .ok b st1) (h2 : getS st1 i = some a) (hf : f [a, b] = some o) (hd : o.d = d) : eOp f [.s i, .v m1] st = .ok d st1 := by rw [eOpsv_v (by rw [h0]; rfl) h h2 hf, hd]
theorem xOss (h1 : getS st i = some a) (h2 : getS st j = some b) (hf : f [a, b] = some o) (hd : o.d = d) : eOp f [.s i, .s j] st = .ok d st := by
  unfold eOp opds opds opds
  rw [h1, h2]
  simp only [Option.isSome_some, if_true, h1, h2, Option.bind_some, Option.map_some, hf, hd]
theorem xAndT (h : m1 st = .ok (.bl true) st1) (h2 : m2 st1 = .ok d st2) : eAnd m1 m2 st = .ok d st2 := by unfold eAnd; rw [h]; exact h2
theorem xAndF (h : m1 st = .ok (.bl false) st1) : eAnd m1 m2 st = .ok (.bl false) st1 := by unfold eAnd; rw [h]; rfl
theorem xAndB (h : m1 st = .ok (.bl p) st1) (h2 : m2 st1 = .ok (.bl q) st1) : eAnd m1 m2 st = .ok (.bl (p && q)) st1 := by
  unfold eAnd; rw [h]; cases p
  · rfl
  · exact h2
theorem xOrB (h : m1 st = .ok (.bl p) st1) (h2 : m2 st1 = .ok (.bl q) st1) : eOr m1 m2 st = .ok (.bl (p || q)) st1 := by
  unfold eOr; rw [h]; cases p
  · exact h2
  · rfl
theorem xNot (h : m st = .ok (.bl p) st1) : eNot m st = .ok (.bl (!p)) st1 := by unfold eNot; rw [h]; rfl
theorem xIfT (h : t st = .ok true st1) (h2 : m1 st1 = .ok d st2) : eIf t m1 m2 st = .ok d st2 := by unfold eIf; rw [h]; exact h2
theorem xIfF (h : t st = .ok false st1) (h2 : m2 st1 = .ok d st2) : eIf t m1 m2 st = .ok d st2 := by unfold eIf; rw [h]; exact h2
theorem xANil : aNil st = .ok [] st := rfl
theorem xACons (h : m st = .ok d st1) (h2 : ms st1 = .ok ds st2) : aCons m ms st = .ok (d :: ds) st2 := by unfold aCons; rw [h]; show (ms st1).bind _ = _; rw [h2]; rfl
theorem xLst (h : ms st = .ok ds st1) (hl : Nat.ble ds.length 16777216 = true) : eLst ms st = .ok (.lst true ds) st1 := by
  unfold eLst; rw [h]; exact if_pos (Nat.le_of_ble_eq_true hl)
theorem xTup (h : ms st = .ok ds st1) (hl : Nat.ble ds.length 16777216 = true) (hf : frzL ds = es) : eTup ms st = .ok (.tup es) st1 := by
  unfold eTup; rw [h]; subst hf; exact if_pos (Nat.le_of_ble_eq_true hl)
theorem xFz (h : m st = .ok d st1) (hf : frz d = d') : eFz m st = .ok d' st1 := by rw [eFz_v h, hf]
theorem xCall (h : ms st = .ok ds st1) (hf : F ds = .ok d ps) : eCall F ms st = .ok d st1 := by
  unfold eCall; rw [h]; show (match F ds with | .ok d _ => _ | .exc x _ => _ | .fail => _) = _; rw [hf]
theorem xCallL (h : ms st = .ok ds st1) (h0 : getS st1 i = some y) (h1 : ns st1 = .ok es st2) (h2 : getS st2 i = some x) (hx : hot x = true) (hf : F (ds ++ x :: es) = .ok d ps) (hg : getS ps ds.length = some x1) (hs : st2.set i (some x1) = st') : eCallL F ms i ns st = .ok d st' := by
  rw [← hg] at hs
  unfold eCallL; rw [h]
  show (if (getS st1 i).isSome = true then _ else _) = _
  rw [if_pos (by rw [h0]; rfl), h1]
  show (match getS st2 i with | some d => _ | none => _) = _
  rw [h2]
  show (if hot x = true then _ else _) = _
  rw [if_pos hx, hf]
  subst hs
  rfl
/-- a lent slot that is not owned -/
theorem xCallLc (h : ms st = .ok ds st1) (h0 : getS st1 i = some y) (h1 : ns st1 = .ok es st2) (h2 : getS st2 i = some x) (hx : hot x = false) (hf : F (ds ++ x :: es) = .ok d ps) : eCallL F ms i ns st = .ok d st2 := by
  unfold eCallL; rw [h]
  show (if (getS st1 i).isSome = true then _ else _) = _
  rw [if_pos (by rw [h0]; rfl), h1]
  show (match getS st2 i with | some d => _ | none => _) = _
  rw [h2]
  show (if hot x = true then _ else _) = _
  rw [if_neg (by rw [hx]; exact Bool.false_ne_true), hf]
theorem xMake (h : ms st = .ok ds st1) (hf : F (.ins true C [] :: ds) = .ok .non (some x :: ps)) : eMake C F ms st = .ok x st1 := by
  unfold eMake; rw [h]; show (match F (.ins true C [] :: ds) with | .ok .non ps => _ | .exc x _ => _ | _ => _) = _; rw [hf]; rfl
theorem xEqI {neg : Bool} (h1 : m1 st = .ok a st1) (h2 : m2 st1 = .ok b st2) (ha : insC a = some C) (hb : insC b = some C) (hf : F [a, b] = .ok (.bl p) ps) (hd : D.bl (if neg then !p else p) = d) : eEqI neg C F (.v m1) (.v m2) st = .ok d st2 := by
  rw [eEqI_v h1 h2 ha hb hf, hd]
theorem xLenI {n : Nat} (h : m st = .ok x st2) (hc : insC x = some C) (hf : F [x] = .ok (.int (n : Int)) ps) (hn : Nat.blt n 1000000000 = true) : eLenI C F (.v m) st = .ok (.int (n : Int)) st2 := eLenI_v h hc hf (Nat.le_of_ble_eq_true hn)
theorem xApp {xs : List D} (h0 : getS st i = some a) (hl : isLst a = true) (h : m st = .ok d st1) (h2 : getS st1 i = some (.lst true xs)) (hn : xs.length < 16777216) (hs : st1.set i (some (.lst true (xs ++ [d]))) = st') : eApp i m st = .ok .non st' := by
  rw [eApp_v h0 hl h h2 hn, hs]
theorem xExt {z : Bool} {xs ys : List Int} (h0 : getS st i = some a) (hl : isLst a = true) (h : m st = .ok (.lst z (nums ys)) st1) (h2 : getS st1 i = some (.lst true (nums xs))) (hn : xs.length + ys.length ≤ 16777216) (hs : st1.set i (some (.lst true (nums (xs ++ ys)))) = st') : eExt i m st = .ok .non st' := by
  rw [eExt_v h0 hl h h2 hn, hs]
theorem xMtS (h0 : getS st i = some x) (hl : isLst x = true) (h1 : getS st j = some y) (hf : f [x, y] = some o) (hd : o.d = d) : eMt i f [.s j] st = .ok d st := by rw [eMt_s h0 hl h1 hf, hd]
/-! walked things -/
theorem wE {P : D → Option (List D)} (h : m st = .ok d st1) (hp : P d = some ds) (hc : colds ds = true) : iE m P st = .ok ds st1 := by
  unfold iE; rw [h]; show (match P d with | some ds => _ | none => _) = _; rw [hp]; exact if_pos hc
theorem wR1 {n : Nat} {z : Int} (h : m st = .ok (.int z) st1) (hz : z = (n : Int)) (hs : small62 z = true) : iR1 m st = .ok (rangeD 0 n) st1 := iR1_v hz h hs
theorem lst_it {z : Bool} : lstItems (.lst z ds) = some ds := rfl
theorem tup_it : tupItems (.tup ds) = some ds := rfl
/-! tests -/
theorem cE (h : m st = .ok (.bl p) st1) : tE m st = .ok p st1 := tE_ok h
theorem cNotF (h : t st = .ok true st1) : tNotM t st = .ok false st1 := by unfold tNotM; rw [h]; rfl
theorem cNotT (h : t st = .ok false st1) : tNotM t st = .ok true st1 := by unfold tNotM; rw [h]; rfl
theorem cOrF (h : t1 st = .ok false st1) (h2 : t2 st1 = .ok p st2) : tOrM t1 t2 st = .ok p st2 := tOr_ok h h2
theorem cOrT (h : t1 st = .ok true st1) : tOrM t1 t2 st = .ok true st1 := by unfold tOrM; rw [h]; rfl
theorem cAndT (h : t1 st = .ok true st1) (h2 : t2 st1 = .ok p st2) : tAndM t1 t2 st = .ok p st2 := by unfold tAndM; rw [h]; exact h2
theorem cAndF (h : t1 st = .ok false st1) : tAndM t1 t2 st = .ok false st1 := by unfold tAndM; rw [h]; rfl
/-! statements -/
theorem zSeq (h : s1 st = .next st1) (h2 : s2 st1 = r) : sSeq s1 s2 st = r := sSeq_next h h2
theorem zSeqR (h : s1 st = .ret d st1) : sSeq s1 s2 st = .ret d st1 := by unfold sSeq; rw [h]; rfl
theorem zAsg (h : m st = .ok d st1) (hg : g d st1 = .ok () st2) : sAsg m g st = .next st2 := sAsg_ok h hg
theorem zExpr (h : m st = .ok d st1) : sExpr m st = .next st1 := sExpr_ok h
theorem zRet (h : m st = .ok d st1) : sRet m st = .ret d st1 := sRet_ok h
theorem zYes (h : t st = .ok true st1) (h2 : s1 st1 = r) : sIf t s1 s2 st = r := by rw [sIf_ok h]; exact h2
theorem zNo (h : t st = .ok false st1) (h2 : s2 st1 = r) : sIf t s1 s2 st = r := by rw [sIf_ok h]; exact h2
theorem zSkip : sNext st = .next st := rfl
theorem zFor {src : Sl → Res (List D)} {B : MS} (h : src st = .ok ds st1) (h2 : forD g B ds st1 = r) : sFor src g B st = r := by unfold sFor; rw [h]; exact h2
theorem zPar (h : ms st = .ok [a, b] st1) (hs : st1.set i (some a) = st2) (hs2 : st2.set j (some b) = st3) : sPar i j ms st = .next st3 := by
  unfold sPar; rw [h]; subst hs hs2; rfl
theorem zAug (h0 : getS st i = some a) (hc : cold a = true) (h : m st = .ok b st1) (hf : f [a, b] = some (.val d)) (hs : st1.set i (some d) = st') : sAug i f m st = .next st' := by
  unfold sAug; rw [h0]; show (if cold a = true then _ else _) = _; rw [if_pos hc, h]; show (match f [a, b] with | some (.val z) => _ | _ => _) = _; rw [hf]; subst hs; rfl
theorem gN_r (hs : st.set i (some d) = st') : gN i d st = .ok () st' := by unfold gN; rw [hs]
theorem gIx_r {xs : List D} {kk : Int} {n : Nat} (hc : cold d = true) (h0 : getS st i = some a) (h : m st = .ok (.int kk) st1) (h2 : getS st1 i = some (.lst true xs)) (hn : L2.ixN xs.length kk = some n) (hs : st1.set i (some (.lst true (xs.set n d))) = st') : gIx i m d st = .ok () st' := by
  unfold gIx; rw [hc, h0]
  show (if true = true then _ else _) = _
  rw [if_pos rfl, h]
  show (match getS st1 i with | some (.lst true xs) => _ | _ => _) = _
  rw [h2]
  show (match L2.ixN xs.length kk with | some j => _ | none => _) = _
  rw [hn]; subst hs; rfl
theorem fn_go {n w : Nat} {L : List Nat} {body : MS} (hl : ds.length = n) (h : body (ds.map some ++ List.replicate (w - n) none) = .ret d st) : fn n w L body ds = .ok d (keepL L n st) := fn_ret hl h
theorem fn_goN {n w : Nat} {L : List Nat} {body : MS} (hl : ds.length = n) (h : body (ds.map some ++ List.replicate (w - n) none) = .next st) : fn n w L body ds = .ok .non (keepL L n st) := by
  unfold fn; rw [if_pos hl, h]
/-! operations -/
theorem add_i {i j : Int} : oAdd [.int i, .int j] = some (.val (.int (i + j))) := rfl
theorem sub_i {i j : Int} : oSub [.int i, .int j] = some (.val (.int (i - j))) := rfl
theorem neg_i {i : Int} : oNeg [.int i] = some (.val (.int (-i))) := rfl
theorem abs_i {i : Int} : oAbs [.int i] = some (.val (.int (if i < 0 then -i else i))) := rfl
theorem lt_i {i j : Int} : f2 pLt [.int i, .int j] = some (.val (.bl (decide (i < j)))) := rfl
theorem le_i {i j : Int} : f2 pLe [.int i, .int j] = some (.val (.bl (decide (i ≤ j)))) := rfl
theorem gt_i {i j : Int} : f2 pGt [.int i, .int j] = some (.val (.bl (decide (j < i)))) := rfl
theorem ge_i {i j : Int} : f2 pGe [.int i, .int j] = some (.val (.bl (decide (j ≤ i)))) := rfl
theorem int_i {i : Int} : oInt [.int i] = some (.val (.int i)) := rfl
theorem int_b {b : Bool} : oInt [.bl b] = some (.val (.int (if b then 1 else 0))) := rfl
theorem eq_of {a b c : D} (h : pEq a b = some c) : f2 pEq [a, b] = some (.val c) := by simp only [f2, h, Option.map_some]
theorem ne_of {a b c : D} (h : pNe a b = some c) : f2 pNe [a, b] = some (.val c) := by simp only [f2, h, Option.map_some]
theorem bl_y {P : Prop} [Decidable P] (h : P) : D.bl (decide P) = .bl true := by rw [decide_eq_true h]
theorem bl_n {P : Prop} [Decidable P] (h : ¬ P) : D.bl (decide P) = .bl false := by rw [decide_eq_false h]
theorem nbl_y {P : Prop} [Decidable P] (h : ¬ P) : D.bl (!decide P) = .bl true := by rw [decide_eq_false h]; rfl
theorem nbl_n {P : Prop} [Decidable P] (h : P) : D.bl (!decide P) = .bl false := by rw [decide_eq_true h]; rfl
theorem lst_o {z : Bool} {l : List Int} (h : l.length ≤ 16777216) : oList [.lst z (nums l)] = some (.newL (nums l)) := by
  simp [oList, items, newLc, nums_colds, nums_len, h]
theorem lst_t {l : List Int} (h : l.length ≤ 16777216) : oList [.tup (nums l)] = some (.newL (nums l)) := by
  simp [oList, items, newLc, nums_colds, nums_len, h]
theorem tup_l {z : Bool} {l : List Int} (h : l.length ≤ 16777216) : oTuple [.lst z (nums l)] = some (.newT (nums l)) := by
  simp [oTuple, nums_colds, nums_len, h]
theorem tup_t {l : List D} : oTuple [.tup l] = some (.val (.tup l)) := rfl
theorem len_t {l : List Int} : oLen [.tup (nums l)] = some (.val (.int (l.length : Nat))) := by simp [oLen, items, nums_len]
theorem fz_l {z : Bool} {l : List Int} : frz (.lst z (nums l)) = .lst false (nums l) := by rw [frz, nums_frz]
theorem fz_t {l : List Int} : frz (.tup (nums l)) = .tup (nums l) := by rw [frz, nums_frz]
theorem fz_i {i : Int} : frz (.int i) = .int i := by rw [frz]
theorem fz_b {b : Bool} : frz (.bl b) = .bl b := by rw [frz]
theorem fz_s {b : Str} : frz (.str b) = .str b := by rw [frz]
theorem fz_n : frz .non = .non := by rw [frz]
theorem fzL_n : frzL [] = [] := by rw [frzL]
theorem fzL_c (h : frz d = d') (h2 : frzL ds = es) : frzL (d :: ds) = d' :: es := by rw [frzL, h, h2]
theorem fz_lst {z : Bool} (h : frzL ds = es) : frz (.lst z ds) = .lst false es := by rw [frz, h]
theorem fz_tup (h : frzL ds = es) : frz (.tup ds) = .tup es := by rw [frz, h]
end
/-! comprehensions of one clause whose parts leave the state -/
section
variable {α : Type}
end
end DL

/-! DL28: methods called, defs with a starred parameter, classmethods; promises by FnR. -/
namespace DL
open PySem L2 PyProof.Rows
def insOf (C : Nat) (nm : Str) : D → Bool
  | .ins _ C' fs => decide (C' = C) && (fs.lookup nm).isNone
  | _ => false
/-- o.m(..): o's value handed over -/
def eMth (C : Nat) (nm : Str) (f : MF) (m0 : ME) (ms : MA) : ME := fun st => (m0 st).bind fun d0 st1 => if insOf C nm d0 then (ms st1).bind fun ds st2 => (match f (d0 :: ds) with
  | .ok d _ => .ok d st2
  | .exc x _ => .exc x st2
  | .fail => .fail) else .fail
/-- o.m(..): o a slot, lent -/
def eMthL (C : Nat) (nm : Str) (f : MF) (i : Nat) (ns : MA) : ME := fun st => match getS st i with
  | some d0 => if insOf C nm d0 then eCallL f aNil i ns st else .fail
  | none => .fail
/-- a def whose last parameter is starred, n parameters ahead of it -/
def mStar (n : Nat) (m : MF) : MF := fun ds => if n ≤ ds.length ∧ ds.length ≤ 16777216 then (match m (ds.take n ++ [.tup (frzL (ds.drop n))]) with
  | .ok d ps => .ok d (ps.take n ++ List.replicate (ds.length - n) none)
  | .exc x ps => .exc x (ps.take n ++ List.replicate (ds.length - n) none)
  | .fail => .fail) else .fail
/-- C(..), C at a slot that holds the class -/
def eMakeV (C i : Nat) (f : MF) (ms : MA) : ME := fun st => match getS st i with
  | some (.cls C') => if C' = C then eMake C f ms st else .fail
  | _ => .fail

/-- room, and no repr under way -/
def RoomG (k : Nat) (A : Around) : Prop := A.guards = some [] ∧ Room k A
theorem RoomG.mono {j k : Nat} {A : Around} (r : RoomG k A) (h : j ≤ k) : RoomG j A := ⟨r.1, r.2.mono h⟩
theorem RoomG.in1 {k : Nat} {A : Around} (r : RoomG (k + 1) A) : RoomG k A.in1 := ⟨r.1, r.2.in1⟩
theorem RoomG.deeper {k : Nat} {A : Around} (r : RoomG (k + 1) A) (env : Env) : RoomG k (A.deeper env) := ⟨r.1, r.2.deeper env⟩
theorem RoomG.make {k : Nat} {A : Around} (r : RoomG (k + 1) A) (C : Addr) (us : List Value) (kw : List (Str × Value)) : RoomG k (A.under (.builtin "type.__call__" ⟨.ref C :: us, kw⟩)) := ⟨r.1, r.2.make C us kw⟩
/-- a promise by positional values, no repr under way -/
def FnG (P : Program) (w : World) (K : PySem.W.Frag) (mg : Str → Option Value) (base : Heap) (CX : CXT) (k : Nat) (f : Addr) (sp : Sp) : Prop :=
  ∀ (A : Around) (outer : List Env) (s : Shared) (H : Hp) (us : List Value) (vs : List V) (Q : VK) (E : XK), RoomG k A → Env0 P w K mg base A outer s H → Vals vs us → sp vs H Q E →
    codeAny (model P w) A (.call (.ref f) ⟨us, []⟩) (L2.CR CX outer P w H s Q E) s
section
variable {ca : Nat → Addr} {Hf H Hf1 H1 Hf2 H2 : Hp} {S P P1 P2 : Rg} {R R1 R2 : Nat → Rg} {σ : L2.St} {st : Sl} {v : V} {d : D} {vs : List V} {ds : List D} {X : Cx} {L : List Nat}
theorem run_fnRS {CX : CXT} {pins : List (Addr × Obj)} {s : Shared} {k : Nat} {f : Addr} {sp : Sp} {E : XK} {Q : VK} {us : List Value} {vs : List V} (F : FnG X.prog X.w X.K X.mg X.base CX k f sp) (hr : RoomG k X.A) (hx : PassesAt CX X σ E) (I : Inv X pins σ H s) (r : Vals vs us) (h : sp vs H Q E) :
    codeAny (model X.prog X.w) X.A (.call (.ref f) ⟨us, []⟩) (fun r s' => match r with | .ok (.ret v) => EP X pins σ Q v s' | .ok _ => False | .error e => X.xe e s') s := by
  refine codeAny_mono (F X.A X.stack s H us vs Q E hr I.env0 r h) fun r s' hq => ?_
  cases r with
  | error e => exact hx pins H s e s' I hq
  | ok fl =>
    cases fl with
    | ret u => exact I.after hq
    | next => exact False.elim hq
    | brk => exact False.elim hq
    | cont => exact False.elim hq
/-! ### methods -/
theorem pe_mth {C f : Addr} {CX : CXT} {k : Nat} {sp : Sp} {E : L2.St → XK} {m : Str} {o : Expr} {es : List Expr} {to : TE} {t : TA} {apos pos : Pos} {pl : Sem Bool} (he : PE X o to) (c : Cls X.K C) (hm : Meth X.K C m f) (F : FnG X.prog X.w X.K X.mg X.base CX k f sp) (hr : RoomG k X.A)
    (hx : ∀ σ, PassesAt CX X σ (E σ)) (ha : PA X es t) (hes : es = [] ∨ ∃ e r, es = e :: r ∧ starEach (e :: r) X.env = (false, eval e X.env) :: starEach r X.env ∧ (backTo pos (starEach r X.env)).any (·.1) = false)
    (ht : eval (.Call (.Attribute o m apos) es [] pos) X.env = (do
      let ov ← eval o X.env
      standAt apos.atName
      let (g, first) ← holding [ov] (getMethod ov m pl)
      callWith pos g first (backTo pos (starEach es X.env)) (backToKw pos (keywordEach [] X.env)))) :
    PE X (.Call (.Attribute o m apos) es [] pos) (fun σ H Q => to σ H fun x H1 => ∃ a dx fs, x = .ref a ∧ H1 a = some (.ins C dx fs) ∧ fs.lookup m = none ∧ (match es with | [] => sp [x] H1 Q (E σ) | _ :: _ => t σ H1 fun vs H2 => sp (x :: vs) H2 Q (E σ))) := ⟨fun pins s σ H Q I h => by
  refine PySem.W.methodCall_KW (pl := pl) (thn (he.run pins s σ H _ I h) fun u s1 hh => ?_) ht
  obtain ⟨x, H1, I1, rx, a, dx, fs, ex, ea, lk, q⟩ := hh
  subst ex
  cases rx
  rcases hes with rfl | ⟨e, r, rfl, hst, hpl⟩
  · exact getmeth_ok I1 ea c hm lk (PySem.W.callWith_K0 (first := [.ref a]) I1.kIn hm.kp (wpAny_call (run_fnRS (us := [.ref a]) (vs := [.ref a]) F hr (hx σ) I1 (.cons rfl .nil) q)))
  · refine getmeth_ok I1 ea c hm lk (PySem.W.callWith_K (first := [.ref a]) (h₀ := X.base) I.ok.mod.kin hm.kp (thn (ha.run pos pins s1 σ H1 _ I1 q) fun us s2 hh => ?_) hst hpl)
    obtain ⟨vs, H2, I2, rs, q2⟩ := hh
    exact ⟨I2.kIn, wpAny_call (run_fnRS (us := .ref a :: us) (vs := .ref a :: vs) F hr (hx σ) I2 (.cons rfl rs) q2)⟩⟩
theorem lookup_none {α β : Type} : ∀ {fs : List (Str × α)} {gs : List (Str × β)} {f : Str}, fs.map (·.1) = gs.map (·.1) → gs.lookup f = none → fs.lookup f = none
  | [], [], _, _, _ => rfl
  | [], _ :: _, _, h, _ => by simp at h
  | _ :: _, [], _, h, _ => by simp at h
  | (a, x) :: fs, (b, y) :: gs, f, h, e => by
    simp only [List.map_cons, List.cons.injEq] at h
    obtain ⟨h1, h2⟩ := h
    subst h1
    rw [List.lookup_cons] at e ⊢
    cases hb : f == a with
    | true => rw [hb] at e; cases e
    | false => rw [hb] at e; exact lookup_none h2 e
theorem insOf_rep {C : Nat} {nm : Str} (hx : Ex Hf H) (r : Rep ca X.K Hf H S v d) (h : insOf C nm d = true) : ∃ a dx fs, v = .ref a ∧ H a = some (.ins (ca C) dx fs) ∧ fs.lookup nm = none := by
  cases d with
  | ins o C' gs =>
    simp only [insOf, Bool.and_eq_true, decide_eq_true_eq] at h
    obtain ⟨rfl, h2⟩ := h
    obtain ⟨a, dx, fs, T, e1, e2, e3, _⟩ := rep_ins hx r
    exact ⟨a, dx, fs, e1, e2, lookup_none e3 (by simpa using h2)⟩
  | _ => cases h
/-- the form of a method's call -/
def MForm (X : Cx) (o : Expr) (m : Str) (es : List Expr) (apos pos : Pos) (pl : Sem Bool) : Prop := eval (.Call (.Attribute o m apos) es [] pos) X.env = (do
      let ov ← eval o X.env
      standAt apos.atName
      let (g, first) ← holding [ov] (getMethod ov m pl)
      callWith pos g first (backTo pos (starEach es X.env)) (backToKw pos (keywordEach [] X.env)))
theorem lent_tail {fs : List Expr} {i : Nat} {ns : MA} {m : MF} {Q : VK} {E : L2.St → XK} {Hf1 H1 : Hp} {P1 : Rg} {R1 : Nat → Rg} {vs : List V} {ds : List D} {st1 : Sl} {d0 : D} (hb : CL ca X fs ns) (p1 : PR ca X.K Hf1 H1 P1 (RepL ca X.K Hf1 H1 P1 vs ds) R1 σ st1) (eg : getS st1 i = some d0)
    (h1 : Post ca X Hf1 H1 (jn P1 R1) σ ((ns st1).bind fun es st2 =>
          (match getS st2 i with
          | some d => if hot d then (match m (ds ++ d :: es) with
              | .ok r ps => .ok r (st2.set i (getS ps ds.length))
              | .exc x ps => .exc x (st2.set i (getS ps ds.length))
              | .fail => .fail) else (match m (ds ++ d :: es) with
              | .ok r _ => .ok r st2
              | .exc x _ => .exc x st2
              | .fail => .fail)
          | none => .fail)) Q) (hE : E σ = fun cls dd H' => wX X cls dd σ H') : ∃ v0, σ[i]? = some (some v0) ∧ WL X fs σ H1 fun ws H' => spM ca X.K m (vs ++ v0 :: ws) H' Q (E σ) := by
      obtain ⟨v0, ev0, _⟩ := p1.at_ i d0 eg
      refine ⟨v0, ev0, hb Hf1 H1 R1 σ st1 _ p1.drop ?_⟩
      have h2 := h1
      clear h1
      cases e2 : ns st1 with
      | fail => rw [e2] at h2; exact h2
      | exc x st2 => rw [e2] at h2; exact fun Hf' H' R' cls dd t q => h2 Hf' H' R' cls dd (t.more fun b q => q.elim (fun q => q.elim) .inr) q
      | ok es' st2 =>
        rw [e2] at h2
        intro Hf2 H2 P2 R2 ws t2 p2
        obtain ⟨c1, c2, c3, c4, c5⟩ := PR.carry (ppf := fun _ _ => True) p1 t2 p2
        have h3 := Post.from c5 h2
        clear h2
        dsimp only [Res.bind] at h3
        have r1 := p1.pend.keep t2.fx c1
        have r2 := p2.pend
        cases eg2 : getS st2 i with
        | none => rw [eg2] at h3; exact h3.elim
        | some d =>
          rw [eg2] at h3
          dsimp only at h3
          rw [hE]
          by_cases hh : hot d = true
          · rw [if_pos hh] at h3
            obtain ⟨v, ev, p3⟩ := p2.drop.take eg2
            rw [ev0] at ev
            cases ev
            -- the pending arguments, the lent slot's own
            have hd1 : ∀ b, (P1 b ∨ P2 b) → R2 i b → False := fun b q1 q2 => q1.elim (fun q => c3 i b q q2) fun q => p2.dp i b q q2
            have rr : RepL ca X.K Hf2 H2 (fun b => (P1 b ∨ P2 b) ∨ R2 i b) (vs ++ v0 :: ws) (ds ++ d :: es') :=
              repL_app' (S1 := P1) (S2 := fun b => R2 i b ∨ P2 b) r1 (.cons p3.pend r2 (fun _ q => .inl q) (fun _ q => .inr q) fun b q1 q2 => p2.dp i b q2 q1) (fun b q => .inl (.inl q)) (fun b q => q.elim .inr fun q => .inl (.inr q)) fun b q1 q2 => q2.elim (fun q => c3 i b q1 q) (c2 b q1)
            have p4 : PR ca X.K Hf2 H2 (fun b => (P1 b ∨ P2 b) ∨ R2 i b) (RepL ca X.K Hf2 H2 (fun b => (P1 b ∨ P2 b) ∨ R2 i b) (vs ++ v0 :: ws) (ds ++ d :: es')) (fun j b => j ≠ i ∧ R2 j b) σ (st2.set i none) :=
              ⟨rr, p3.len, p3.at_, p3.dj, fun k b q1 q2 => q1.elim (fun q => q.elim (fun q => c3 k b q q2.2) fun q => p2.dp k b q q2.2) fun q => q2.1 (p2.dj k i b q2.2 q), c4.mono fun b q => by
                rcases q with (q | q) | ⟨k, q⟩
                · exact .inl q
                · exact .inr ⟨i, q⟩
                · exact .inr ⟨k, q.2⟩⟩
            refine ⟨Hf2, _, _, rr, p4.w.mono fun b q => .inl q, postC_lent (i := i) (j := vs.length) (a := v0) p4 (by simp) ev0 (by rw [getS_set, if_pos rfl]; split <;> rfl) (by rw [List.length_set]; exact getS_lt eg2) ?_⟩
            rw [r1.length]
            have hset : ∀ o : Option D, (st2.set i none).set i o = st2.set i o := fun o => by rw [List.set_set]
            simp only [hset]
            refine Post.from (Tr.refl fun b q => ?_) h3
            rcases q with (q | q) | ⟨k, q⟩
            · exact .inl q
            · exact .inr ⟨i, q⟩
            · exact .inr ⟨k, q.2⟩
          · rw [if_neg hh] at h3
            have hh' : hot d = false := by simpa using hh
            obtain ⟨v, ev, rd⟩ := p2.drop.at_ i d eg2
            rw [ev0] at ev
            cases ev
            have rr : RepL ca X.K Hf2 H2 (fun b => P1 b ∨ P2 b) (vs ++ v0 :: ws) (ds ++ d :: es') :=
              repL_app' (S1 := P1) (S2 := P2) r1 (.cons (S1 := Em) (rd.cold hh') r2 (fun _ q => q.elim) (fun _ q => q) fun b q1 q2 => q1) (fun b q => .inl q) (fun b q => .inr q) c2
            have p4 : PR ca X.K Hf2 H2 (fun b => P1 b ∨ P2 b) (RepL ca X.K Hf2 H2 (fun b => P1 b ∨ P2 b) (vs ++ v0 :: ws) (ds ++ d :: es')) R2 σ st2 :=
              ⟨rr, p2.len, p2.at_, p2.dj, fun k b q1 q2 => q1.elim (fun q => c3 k b q q2) fun q => p2.dp k b q q2, c4⟩
            exact ⟨Hf2, _, _, rr, p4.w.mono fun b q => .inl q, postC_of p4 h3⟩

theorem ce_mthL {k C : Nat} {f : Addr} {nm : Str} {o : Expr} {es : List Expr} {i : Nat} {m : MF} {ns : MA} {apos pos : Pos} {pl : Sem Bool} (c : Cls X.K (ca C)) (hm : Meth X.K (ca C) nm f) (F : FnG X.prog X.w X.K X.mg X.base (L2.CX X.prog X.w) k f (spM ca X.K m)) (hr : RoomG k X.A)
    (ho : PE X o (tVar i)) (ha : CL ca X es ns) (hst : NoStar es) (ht : MForm X o nm es apos pos pl := by exact rfl) (hpl : ∀ e r, es = e :: r → (backTo pos (starEach r X.env)).any (·.1) = false := by intro e r h; cases h; rfl) :
    CE ca X (.Call (.Attribute o nm apos) es [] pos) (eMthL C nm m i ns) := fun Hf H R σ st Q pr h => by
  have sub : ∀ σ H Q, WL X es σ H Q → Wa X es σ H Q := fun σ H Q q => wa_wl (fun e' r' q' => noStar_suf hst e' r' q' _) q
  refine we_of (pe_mth ho c hm F hr (E := fun σ cls dd H' => wX X cls dd σ H') (fun σ => passAt (takes_wX X) σ) (wa_pa X es) ?_ ht) ?_
  · cases es with
    | nil => exact .inl rfl
    | cons e r => exact .inr ⟨e, r, rfl, hst.1 _, hpl e r rfl⟩
  · unfold eMthL at h
    cases eg : getS st i with
    | none => rw [eg] at h; exact h.elim
    | some d0 =>
      rw [eg] at h
      change Post ca X Hf H _ σ (if insOf C nm d0 = true then _ else .fail) Q at h
      by_cases hi : insOf C nm d0 = true
      · rw [if_pos hi] at h
        have h1 : Post ca X Hf H (jn Em R) σ ((ns st).bind fun es st2 =>
          (match getS st2 i with
          | some d => if hot d then (match m ([] ++ d :: es) with
              | .ok r ps => .ok r (st2.set i (getS ps ([] : List D).length))
              | .exc x ps => .exc x (st2.set i (getS ps ([] : List D).length))
              | .fail => .fail) else (match m ([] ++ d :: es) with
              | .ok r _ => .ok r st2
              | .exc x _ => .exc x st2
              | .fail => .fail)
          | none => .fail)) Q := by
          unfold eCallL aNil at h
          dsimp only [Res.bind] at h
          rw [eg] at h
          exact h
        obtain ⟨v, ev, rv⟩ := pr.at_ i d0 eg
        obtain ⟨v0, ev0, q⟩ := lent_tail (E := fun σ cls dd H' => wX X cls dd σ H') ha (pr.toP (fun _ q => q) (RepL.nil)) eg h1 rfl
        rw [ev] at ev0
        cases ev0
        obtain ⟨a, dx, fs, e1, e2, e3⟩ := insOf_rep pr.w.ex rv hi
        refine ⟨v, ev, a, dx, fs, e1, e2, e3, ?_⟩
        cases es with
        | nil => exact q
        | cons e r => exact sub _ _ _ q
      · rw [if_neg hi] at h; exact h.elim
end
end DL

/-! DL29: defs with a starred parameter; classmethods. -/
namespace DL
open PySem L2 PyProof.Rows
/-- how a def with a starred parameter binds -/
structure StarB (fd : FuncData) (ps : List Str) (pv : Str) : Prop where
  b : ∀ us rest : List Value, us.length = ps.length → bindArgs fd ⟨us ++ rest, []⟩ = (newTuple rest >>= fun t => pure (ps.zip us ++ [(pv, t)]))
section
variable {ca : Nat → Addr} {P : Program} {w : World} {K : PySem.W.Frag} {mg : Str → Option Value} {base : Heap} {L : List Nat}
theorem repL_cutAt {K : PySem.W.Frag} {Hf H : Hp} : ∀ (n : Nat) {S : Rg} {vs : List V} {ds : List D}, RepL ca K Hf H S vs ds → ∃ A B : Rg, RepL ca K Hf H A (vs.take n) (ds.take n) ∧ RepL ca K Hf H B (vs.drop n) (ds.drop n) ∧ (∀ b, A b → S b) ∧ (∀ b, B b → S b) ∧ ∀ b, A b → B b → False
  | 0, S, vs, ds, r => ⟨Em, S, .nil, r, fun _ q => q.elim, fun _ q => q, fun _ q => q.elim⟩
  | n + 1, S, [], [], r => ⟨Em, S, .nil, r, fun _ q => q.elim, fun _ q => q, fun _ q => q.elim⟩
  | n + 1, S, v :: vs, d :: ds, r => by
    cases r with
    | cons r1 r2 h1 h2 h3 =>
      obtain ⟨A, B, a, b, c, e, f⟩ := repL_cutAt n r2
      exact ⟨_, B, .cons (S := fun x => _ ∨ A x) r1 a (fun _ q => .inl q) (fun _ q => .inr q) (fun x q1 q2 => h3 x q1 (c x q2)), b, fun x q => q.elim (h1 x) fun q => h2 x (c x q), fun x q => h2 x (e x q), fun x q1 q2 => q1.elim (fun q => h3 x q (e x q2)) fun q => f x q q2⟩
  | _ + 1, _, [], _ :: _, r => by cases r
  | _ + 1, _, _ :: _, [], r => by cases r
theorem fn_body {x qual : Str} {st : Stmt} {f : Addr} {fd : FuncData} {N ps : List Str} {k n : Nat} {mb : MS} (F : Fun K x qual st f fd) (S : FnScope N ps (defScope st)) (hn : ps.length = n)
    (hb : ∀ (cdv : Value) (A : Around) (outer : List Env) (s : Shared) (H : Hp) (E : XK), RoomG k (A.deeper (envOfC qual (defScope st) s.heap.objs.size f cdv)) →
      CSs ca (cxOf (L2.CX P w) P w K mg base N qual (defScope st) f cdv A outer s H E) L (defBody st) mb) {cdv : Value} {A : Around} {outer : List Env} {s : Shared} {H : Hp} {vs : List V} {Q : VK} {E : XK} (hr : RoomG k (A.deeper (envOfC qual (defScope st) s.heap.objs.size f cdv)))
    (h : spM ca K (fn n N.length L mb) vs H Q E) : ∃ t, PSs (cxOf (L2.CX P w) P w K mg base N qual (defScope st) f cdv A outer s H E) (defBody st) t ∧ t { nx := fun _ H' => Q .non H', rt := Q } (L2.start N vs) H := by
  refine ⟨_, wss_pss _ _, ?_⟩
  have hl := spM_len h
  obtain ⟨Hf, Pg, ds, r, w1, post⟩ := h
  have hds : ds.length = n := by rw [← r.length]; exact hl
  obtain ⟨R, a, b, c⟩ := repL_split r
  have hvn : vs.length ≤ N.length := by
    have := congrArg List.length S.pre
    rw [List.length_take] at this
    omega
  have p0 : PR ca K Hf H Em True R (L2.start N vs) (ds.map some ++ List.replicate (N.length - n) none) := by
    refine ⟨trivial, ?_, fun i d e => ?_, b, fun _ _ q => q.elim, ?_⟩
    · unfold L2.start; simp [hds, hl]
    · have hi : i < ds.length := by
        by_cases hi : i < ds.length
        · exact hi
        · exfalso
          unfold getS at e
          rw [List.getElem?_append_right (by simp; omega), List.getElem?_replicate] at e
          split at e <;> cases e
      have e1 : ds[i]? = some d := by
        unfold getS at e
        rw [List.getElem?_append_left (by simpa using hi), List.getElem?_map, List.getElem?_eq_getElem hi] at e
        rw [List.getElem?_eq_getElem hi]
        exact e
      obtain ⟨v, e2, r2⟩ := a i d e1
      refine ⟨v, ?_, r2⟩
      rw [start_at (by rw [r.length]; exact hi), e2]
    · exact w1.mono fun b q => q.elim (fun q => q.elim) fun ⟨i, q⟩ => c i b q
  refine hb cdv A outer s H E hr Hf H R (L2.start N vs) _ _ p0 ?_
  unfold fn at post
  rw [if_pos hds] at post
  have hkk : ∀ σ' : L2.St, Lk L (L2.start N vs) σ' → ∀ i ∈ L, i < n → σ'[i]? = some (vs[i]?) := fun σ' k i hi hn' => by
    rw [k.2 i hi]; exact start_at (by omega)
  have hS : ∀ b, jn Em R b → Pg b := fun b q => q.elim (fun q => q.elim) fun ⟨i, q⟩ => c i b q
  have hR : ∀ {P' : Rg} {R' : Nat → Rg} (b : Addr), jn P' (fun i b => i ∈ L ∧ i < n ∧ R' i b) b → jn P' R' b := fun b q => q.elim .inl fun ⟨i, q⟩ => .inr ⟨i, q.2.2⟩
  cases em : mb (ds.map some ++ List.replicate (N.length - n) none) with
  | fail => rw [em] at post; exact post.elim
  | brk st1 => rw [em] at post; exact post.elim
  | cont st1 => rw [em] at post; exact post.elim
  | next st1 =>
    rw [em] at post
    intro Hf1 H1 R1 σ1 t1 p1 k1
    exact post Hf1 H1 Em _ .non ((t1.more hS).less hR) (p1.params hl (hkk σ1 k1) .non fun _ q => q)
  | ret d st1 =>
    rw [em] at post
    intro Hf1 H1 P1 R1 σ1 v t1 p1 k1
    exact post Hf1 H1 P1 _ v ((t1.more hS).less hR) (p1.params hl (hkk σ1 k1) p1.pend fun _ q => q)
  | exc x st1 =>
    rw [em] at post
    intro Hf1 H1 R1 σ1 cls dd t1 p1 k1
    exact wX_of (takes_of rfl rfl rfl rfl) (post Hf1 H1 _ cls dd ((t1.more hS).less hR) (p1.params hl (hkk σ1 k1) p1.pend fun _ q => q))
theorem FnG.imp {CX : CXT} {k : Nat} {f : Addr} {sp sp' : Sp} (F : FnG P w K mg base CX k f sp) (h : ∀ vs H Q E, sp' vs H Q E → sp vs H Q E) : FnG P w K mg base CX k f sp' :=
  fun A outer s H us vs Q E hr e0 r hs => F A outer s H us vs Q E hr e0 r (h _ _ _ _ hs)
theorem fn_okG {x qual : Str} {st : Stmt} {f : Addr} {fd : FuncData} {N ps : List Str} {k n : Nat} {mb : MS} (F : Fun K x qual st f fd) (B : Binds K fd ps []) (S : FnScope N ps (defScope st)) (hn : ps.length = n)
    (hb : ∀ (cdv : Value) (A : Around) (outer : List Env) (s : Shared) (H : Hp) (E : XK), RoomG k (A.deeper (envOfC qual (defScope st) s.heap.objs.size f cdv)) →
      CSs ca (cxOf (L2.CX P w) P w K mg base N qual (defScope st) f cdv A outer s H E) L (defBody st) mb) : FnG P w K mg base (L2.CX P w) (k + 1) f (spM ca K (fn n N.length L mb)) := by
  obtain ⟨oc, od, kV, doc, pm, an, cdv, ct, osl, rfl, lk, hcd⟩ := F.ex
  have F' : Fun K x qual st f (PySem.W.fnOf x qual (defArgs st) (defBody st) (defScope st) .none kV doc pm an cdv ct) := F
  intro A outer s H us vs Q E hr e0 r h
  have hl := spM_len h
  have KX : K.In s.heap := e0.mod.kin.keeps fun b o e => (e0.bs b o e).1
  refine StX.run_bnd lk hcd S hr.2 e0 (G := fun xs H2 => xs = vs ∧ H2 = H) (fun A' Ex Q' hq => ?_) fun s2 H2 xs ⟨e1, e2⟩ hr' => ?_
  · have b := B s us KX (by rw [List.append_nil, ← r.length, hl, hn])
    rw [List.append_nil] at b
    exact b _ _ _ _ (hq s H vs us e0 Un.refl rfl (fun _ _ z => z) r (by rw [hl, hn]) ⟨rfl, rfl⟩)
  · subst e1 e2
    exact fn_body F' S hn hb ⟨hr.1, hr'⟩ h
theorem star_run {k : Nat} {f : Addr} {name qual : Str} {params : Arguments} {body : List Stmt} {scope : Scope} {dV kV doc pm cdv ct oc : Value} {an od : Option Addr} {osl : Array (Option Value)} {N ps : List Str} {sp : Sp} {pv : Str}
    (lk : K.lookup f = some ⟨oc, od, .func (PySem.W.fnOf name qual params body scope dV kV doc pm an cdv ct), osl⟩) (hcd : PySem.W.codeIn K cdv qual = true) (S : FnScope N (ps ++ [pv]) scope)
    (hb : ∀ us rest : List Value, us.length = ps.length → bindArgs (PySem.W.fnOf name qual params body scope dV kV doc pm an cdv ct) ⟨us ++ rest, []⟩ = (newTuple rest >>= fun t => pure (ps.zip us ++ [(pv, t)])))
    (hbody : ∀ (A : Around) (outer : List Env) (s : Shared) (H : Hp) (vs : List V) (Q : VK) (E : XK), RoomG k (A.deeper (envOfC qual scope s.heap.objs.size f cdv)) → sp vs H Q E →
      ∃ t, PSs (cxOf (L2.CX P w) P w K mg base N qual scope f cdv A outer s H E) body t ∧ t { nx := fun _ H' => Q .non H', rt := Q } (L2.start N vs) H) :
    FnG P w K mg base (L2.CX P w) (k + 1) f (fun vs H Q E => ∃ ws rest, vs = ws ++ rest ∧ ws.length = ps.length ∧ rest.length ≤ sizeLine ∧ ∀ p, H p = Option.none → sp (ws ++ [V.ref p]) (upd H p (.tup rest)) Q E) := by
  intro A outer s H us vs Q E hr e0 r ⟨ws, rest, ev, hl, hz, hq⟩
  subst ev
  obtain ⟨u1, u2, eu, r1, r2⟩ := StX.vals_split r
  subst eu
  have fresh : H s.heap.objs.size = Option.none := e0.hok.fresh (Nat.le_refl _)
  have n1 : u1.length = ps.length := r1.length.symm.trans hl
  have n2 : u2.length ≤ sizeLine := by rw [← r2.length]; exact hz
  refine StX.run_bnd lk hcd S hr.2 e0 (G := fun xs H2 => ∃ p, H p = Option.none ∧
    xs = ws ++ [V.ref p] ∧ H2 = upd H p (.tup rest)) (fun A' Ex Q' h => ?_) fun s2 H2 xs ⟨p, hp, ex, eH⟩ hr' => ?_
  · rw [hb u1 u2 n1]
    refine wpAny_bind (wpAny_newTuple
      (wpAny_pure ?_) n2)
    have nob : ObjOk P w (upd H s.heap.objs.size (.tup rest)) (s.heap.push ({ cls := .type "tuple", data := .seq u2.toArray } : Obj))
      s.heap.objs.size (.tup rest) := ⟨hz, u2, r2, ⟨_, Heap.get?_push_size _ rfl, rfl, _, rfl⟩⟩
    have un := StX.un_laid (fs := frs outer) (s := s)
      (o := ({ cls := .type "tuple", data := .seq u2.toArray } : Obj)) (u := .tup rest) fresh
    have z := h _ _ (ws ++ [V.ref s.heap.objs.size]) (u1 ++ [Value.ref s.heap.objs.size]) (StX.env0_laid e0 nob) un rfl
      (fun e s' => StX.cxUp outer s H _ _ E e s' un (fun b o q => Heap.get?_push_of_some _ q) rfl) (r1.append (.cons rfl .nil))
      (by rw [List.length_append, List.length_append, hl] <;> rfl) ⟨_, fresh, rfl, rfl⟩
    rw [List.zip_append n1.symm] at z
    exact z
  · subst ex eH
    exact hbody A outer s2 _ _ Q E ⟨hr.1, hr'⟩ (hq p hp)
theorem star_ok {x qual : Str} {st : Stmt} {f : Addr} {fd : FuncData} {N ps : List Str} {pv : Str} {k n : Nat} {mb : MS} (F : Fun K x qual st f fd) (B : StarB fd ps pv) (S : FnScope N (ps ++ [pv]) (defScope st)) (hn : ps.length = n)
    (hb : ∀ (cdv : Value) (A : Around) (outer : List Env) (s : Shared) (H : Hp) (E : XK), RoomG k (A.deeper (envOfC qual (defScope st) s.heap.objs.size f cdv)) →
      CSs ca (cxOf (L2.CX P w) P w K mg base N qual (defScope st) f cdv A outer s H E) L (defBody st) mb) : FnG P w K mg base (L2.CX P w) (k + 1) f (spM ca K (mStar n (fn (n + 1) N.length L mb))) := by
  obtain ⟨oc, od, kV, doc, pm, an, cdv, ct, osl, rfl, lk, hcd⟩ := F.ex
  have F' : Fun K x qual st f (PySem.W.fnOf x qual (defArgs st) (defBody st) (defScope st) .none kV doc pm an cdv ct) := F
  refine (star_run (ps := ps) (pv := pv) (sp := spM ca K (fn (n + 1) N.length L mb)) lk hcd S B.b fun A outer s H vs Q E hr h => fn_body F' S (by rw [List.length_append, hn]; rfl) hb hr h).imp fun vs H Q E h => ?_
  obtain ⟨Hf, Pg, ds, r, w1, post⟩ := h
  generalize hm : fn (n + 1) N.length L mb = m at *
  have hl := r.length
  unfold mStar at post
  by_cases hc : n ≤ ds.length ∧ ds.length ≤ 16777216
  · rw [if_pos hc] at post
    obtain ⟨h1, h2⟩ := hc
    obtain ⟨A, B, r1, r2, hA, hB, hAB⟩ := repL_cutAt n r
    refine ⟨vs.take n, vs.drop n, (List.take_append_drop n vs).symm, by rw [List.length_take, hl, hn]; omega, by rw [List.length_drop, hl, ← sz_eq]; omega, fun p hp => ?_⟩
    have hpf : Hf p = none := (wl_new (o := .tup []) w1 hp).2
    -- the rest is let stand
    have dec : ∀ b, Decidable (B b) := fun b => Classical.propDecidable _
    obtain ⟨Hf1, g1, g2⟩ : ∃ Hf1 : Hp, (∀ b, B b → Hf1 b = H b) ∧ ∀ b, ¬ B b → Hf1 b = Hf b := ⟨fun b => if B b then H b else Hf b, fun b q => if_pos q, fun b q => if_neg q⟩
    have hpB : ¬ B p := fun q => by obtain ⟨o, e⟩ := w1.dm p (hB p q); rw [hp] at e; cases e
    have hpA : ¬ A p := fun q => by obtain ⟨o, e⟩ := w1.dm p (hA p q); rw [hp] at e; cases e
    have x1 : Ex Hf Hf1 := fun b o e => by
      by_cases q : B b
      · rw [w1.nf b (hB b q)] at e; cases e
      · rw [g2 b q]; exact e
    have hp1 : Hf1 p = none := by rw [g2 p hpB]; exact hpf
    have x2 : Ex Hf1 (upd Hf1 p (.tup (vs.drop n))) := fun b o e => upd_keep hp1 b o e
    have xH : Ex H (upd H p (.tup (vs.drop n))) := fun b o e => upd_keep hp b o e
    have x3 : Ex Hf1 H := fun b o e => by
      by_cases q : B b
      · rw [g1 b q] at e; exact e
      · rw [g2 b q] at e; exact w1.ex b o e
    have rt : Rep ca K (upd Hf1 p (.tup (vs.drop n))) (upd H p (.tup (vs.drop n))) Em (.ref p) (.tup (frzL (ds.drop n))) :=
      .tup upd_same (RepL.frz (fun b o e => x2 b o (x1 b o e)) r2 fun b q o e => x2 b o (by rw [g1 b q]; exact e))
    have ra : RepL ca K (upd Hf1 p (.tup (vs.drop n))) (upd H p (.tup (vs.drop n))) A (vs.take n) (ds.take n) := r1.keep (fun b o e => x2 b o (x1 b o e)) fun b _ o e => xH b o e
    have rr : RepL ca K (upd Hf1 p (.tup (vs.drop n))) (upd H p (.tup (vs.drop n))) A (vs.take n ++ [.ref p]) (ds.take n ++ [.tup (frzL (ds.drop n))]) :=
      repL_app' (S1 := A) (S2 := Em) ra (RepL.one rt) (fun _ q => q) (fun _ q => q.elim) fun _ _ q => q
    have wA : Wl (upd Hf1 p (.tup (vs.drop n))) (upd H p (.tup (vs.drop n))) A := by
      refine ⟨fun b o e => ?_, fun b q => ?_, fun b q => ?_⟩
      · by_cases hb : b = p
        · subst hb; rw [upd_same] at e ⊢; exact e
        · rw [upd_ne hb] at e ⊢; exact x3 b o e
      · obtain ⟨o, e⟩ := w1.dm b (hA b q)
        exact ⟨o, xH b o e⟩
      · have : b ≠ p := fun z => hpA (z ▸ q)
        rw [upd_ne this, g2 b fun z => hAB b q z]
        exact w1.nf b (hA b q)
    have tr : Tr Pg Hf H A (upd Hf1 p (.tup (vs.drop n))) (upd H p (.tup (vs.drop n))) := by
      refine ⟨fun b o e => x2 b o (x1 b o e), fun b o e _ => xH b o e, fun b q => .inl (hA b q), fun b o e => ?_⟩
      by_cases hb : b = p
      · subst hb; exact .inr (.inr hp)
      · rw [upd_ne hb] at e
        by_cases q : B b
        · exact .inr (.inl (hB b q))
        · rw [g2 b q] at e; exact .inl e
    refine ⟨_, A, _, rr, wA, ?_⟩
    have slots : ∀ {Hf' H' : Hp} {P' : Rg} {pp : Prop} {Rp : Nat → Rg} {ps' : Sl}, PR ca K Hf' H' P' pp Rp ((vs.take n ++ [V.ref p]).map some) ps' → PR ca K Hf' H' P' pp (fun i b => i < n ∧ Rp i b) (vs.map some) (ps'.take n ++ List.replicate (ds.length - n) none) := fun {Hf' H' P' pp Rp ps'} q => by
      have ql : ps'.length = n + 1 := by
        have := q.len
        rw [List.length_map, List.length_append, List.length_take, hl] at this
        rw [this, Nat.min_eq_left h1]
        rfl
      refine ⟨q.pend, ?_, fun i d e => ?_, fun i j b z1 z2 => q.dj i j b z1.2 z2.2, fun i b z1 z2 => q.dp i b z1 z2.2, q.w.mono fun b z => z.imp_right fun ⟨i, z⟩ => ⟨i, z.2⟩⟩
      · rw [List.length_append, List.length_take, List.length_replicate, List.length_map, hl, ql]
        omega
      · have hi : i < n := by
          refine Classical.byContradiction fun hi => ?_
          unfold getS at e
          rw [List.getElem?_append_right (by rw [List.length_take, ql]; omega), List.getElem?_replicate] at e
          split at e <;> cases e
        have e2 : getS ps' i = some d := by
          unfold getS at e ⊢
          rw [List.getElem?_append_left (by rw [List.length_take, ql]; omega), List.getElem?_take, if_pos hi] at e
          exact e
        obtain ⟨v, e3, r3⟩ := q.at_ i d e2
        refine ⟨v, ?_, ?_⟩
        · rw [List.getElem?_map, List.getElem?_append_left (by rw [List.length_take, hl]; omega), List.getElem?_take, if_pos hi] at e3
          rw [List.getElem?_map]
          exact e3
        · exact r3.mono fun b z => ⟨hi, z⟩
    cases em : m (ds.take n ++ [.tup (frzL (ds.drop n))]) with
    | fail => rw [em] at post; exact post
    | ok d ps' =>
      rw [em] at post
      intro Hf' H' P' Rp v t q
      exact post Hf' H' P' _ v ((tr.trans t).less fun b z => z.imp_right fun ⟨i, z⟩ => ⟨i, z.2⟩) (slots q)
    | exc y ps' =>
      rw [em] at post
      intro Hf' H' Rp cls dd t q
      exact post Hf' H' _ cls dd ((tr.trans t).less fun b z => z.imp_right fun ⟨i, z⟩ => ⟨i, z.2⟩) (slots q)
  · rw [if_neg hc] at post; exact post.elim
end
end DL

/-! DL30: t[::-1] of a tuple; slices of lists and tuples; classmethods; a class at a slot called. -/
namespace DL
open PySem L2 PyProof.Rows
section
variable {prog : Program} {w : World} {A : Around} {E : Value → Shared → Prop} {s : Shared}
end
section
variable {ca : Nat → Addr} {Hf H Hf1 H1 Hf2 H2 : Hp} {S P P1 P2 : Rg} {R R1 R2 : Nat → Rg} {σ : L2.St} {st : Sl} {v : V} {d : D} {vs : List V} {ds : List D} {X : Cx} {L : List Nat}
end
end DL

/-! DL31: where a statement stands in a def; slices of lists and tuples; classmethods; a class at a slot called. -/
namespace DL
open PySem L2 PyProof.Rows
def nthS (ss : List Stmt) (i : Nat) : Stmt := ss.getD i (.Pass ⟨0, 0, 0, 0⟩)
def forB : Stmt → List Stmt
  | .For _ _ b _ _ => b
  | _ => []
def ifB : Stmt → List Stmt
  | .If _ b _ _ => b
  | _ => []
/-- xs[lo:hi], a list or a tuple -/
def cutA (lo hi : Option Int) : List D → Option Out
  | [.tup xs] => if HT.sIx xs.length 0 lo = 0 ∧ HT.sIx xs.length xs.length hi = xs.length then some (.val (.tup xs)) else if xs.length ≤ 16777216 then some (.newT (cutD xs lo hi)) else none
  | ds => cutO lo hi ds
def oS10 : List D → Option Out
  | [x, .int a] => cutA (some a) none [x]
  | _ => none
def oS01 : List D → Option Out
  | [x, .int b] => cutA none (some b) [x]
  | _ => none
def rSlZ (K : PySem.W.Frag) : V → Option Int → Option Int → Hp → VK → Prop := fun x lo hi H Q => rSlL K x lo hi H Q ∨ rSlA K x lo hi H Q
section
variable {ca : Nat → Addr} {K : PySem.W.Frag} {Hf H Hf1 H1 Hf2 H2 : Hp} {S P P1 P2 : Rg} {R R1 R2 : Nat → Rg} {σ : L2.St} {st : Sl} {v : V} {d : D} {vs : List V} {ds : List D} {X : Cx} {L : List Nat}
theorem sl_any : SlR X (rSlZ X.K) := SlR.or sl_list sl_tupA
theorem os_cutA {lo hi : Option Int} {x : D} {o : Out} {Q : VK} (hx : Ex Hf H) (r1 : Rep ca K Hf H S v x) (h : cutA lo hi [x] = some o) (q : OutQ ca K Hf H o Q) : rSlZ K v lo hi H Q := by
  cases x with
  | tup xs =>
    right
    obtain ⟨a, vs, rfl, e2, r3⟩ := rep_tup hx r1
    have hl := r3.length
    refine ⟨a, vs, rfl, (show SqT K H a vs from .inl (.inl e2)), fun hw => ?_, fun hw p hp => ?_⟩
    · rw [hl] at hw
      dsimp only [cutA] at h
      rw [if_pos hw] at h
      cases h
      exact q _ (r1.cold rfl)
    · rw [hl] at hw
      dsimp only [cutA] at h
      rw [if_neg hw] at h
      split at h
      · cases h
        refine q p _ hp ?_
        obtain ⟨_, B, _, r4, _, hB, _⟩ := repL_cutAt (HT.sIx vs.length 0 lo) r3
        obtain ⟨A, _, r5, _, hA, _, _⟩ := repL_cutAt (HT.sIx vs.length vs.length hi - HT.sIx vs.length 0 lo) r4
        have r6 := r5.mono (S' := Em) fun b z => hB b (hA b z)
        unfold cutV cutD
        rw [← hl]
        exact r6
      · cases h
  | _ => exact .inl (os_cut hx r1 h q)
theorem ce_s10 {e a : Expr} {oe oa : Opd} {p2 pos : Pos} (he : CO ca X e oe) (ha : CO ca X a oa) : CE ca X (.Subscript e (.Slice (some a) none none p2) pos) (eOp oS10 [oe, oa]) :=
  ce_op (es := [e, a]) (rl := rl2 fun x y H Q => ∃ i, y = .int i ∧ rSlZ X.K x (some i) none H Q) (fun σ H Q h => we_of (pe_slice sl_any (we_pe X e) (po_some (we_pe X a)) po_none) h) (.cons he (.cons ha .nil)) fun Hf H vs ds o Q hx rd h q => by
    match ds, h with
    | [x, .int i], h =>
      obtain ⟨v, w, S, S', e1, r1, r2⟩ := rdl2 rd rfl
      subst e1
      exact ⟨i, rep_int r2, os_cutA hx r1 h q⟩
theorem ce_s01 {e a : Expr} {oe oa : Opd} {p2 pos : Pos} (he : CO ca X e oe) (ha : CO ca X a oa) : CE ca X (.Subscript e (.Slice none (some a) none p2) pos) (eOp oS01 [oe, oa]) :=
  ce_op (es := [e, a]) (rl := rl2 fun x y H Q => ∃ i, y = .int i ∧ rSlZ X.K x none (some i) H Q) (fun σ H Q h => we_of (pe_slice sl_any (we_pe X e) po_none (po_some (we_pe X a))) h) (.cons he (.cons ha .nil)) fun Hf H vs ds o Q hx rd h q => by
    match ds, h with
    | [x, .int i], h =>
      obtain ⟨v, w, S, S', e1, r1, r2⟩ := rdl2 rd rfl
      subst e1
      exact ⟨i, rep_int r2, os_cutA hx r1 h q⟩
end
end DL

/-! DL32: classmethods called; a class at a slot called; calls and instances made by FnR. -/
namespace DL
open PySem L2 PyProof.Rows
section
variable {ca : Nat → Addr} {Hf H Hf1 H1 Hf2 H2 : Hp} {S P P1 P2 : Rg} {R R1 R2 : Nat → Rg} {σ : L2.St} {st : Sl} {v : V} {d : D} {vs : List V} {ds : List D} {X : Cx} {L : List Nat}
theorem run_makeG {CX : CXT} {k : Nat} {f C : Addr} {sp : Sp} {E : XK} {pins : List (Addr × Obj)} {s : Shared} {Q : VK} {us : List Value}
    (M : Mk X.K C f) (F : FnG X.prog X.w X.K X.mg X.base CX k f sp) (hr : RoomG (k + 1) X.A) (hx : PassesAt CX X σ E) (I : Inv X pins σ H s) (r : Vals vs us)
    (h : ∀ x dx, H x = none → H dx = none → dx ≠ x → sp (.ref x :: vs) (upd (upd H dx (.own x)) x (.ins C dx [])) (fun v H2 => v = .non ∧ Q (.ref x) H2) E) : wpAny (model X.prog X.w) X.A (call (.ref C) us) (EP X pins σ Q) X.xe s := by
  have wish := h (s.heap.objs.size + 1) s.heap.objs.size (I.hok.fresh (Nat.le_succ _)) (I.hok.fresh (Nat.le_refl _)) (Nat.ne_of_lt (Nat.lt_succ_self _))
  have J := Inv.made (C := C) I
  have rs : Vals (V.ref (s.heap.objs.size + 1) :: vs) (Value.ref (s.heap.objs.size + 1) :: us) := .cons rfl r
  refine wpAny_call (make_map (f := f) I.kIn M.makes M.init (beq_iff_eq.mp M.fn) (codeAny_mono (F _ X.stack _ _ _ _ _ E (hr.make C us []) (J.env0.make C us []) rs wish) fun res s' got => ?_))
  cases res with
  | error e => exact hx pins _ _ e s' J got
  | ok fl => cases fl with
    | ret u =>
      obtain ⟨v, H', I3, rv, ev, q3⟩ := J.after got
      subst ev
      exact ⟨rv, ⟨V.ref (s.heap.objs.size + 1), H', I3, rfl, q3⟩⟩
    | next => exact got.elim
    | brk => exact got.elim
    | cont => exact got.elim
theorem run_cmS {CX : CXT} {k : Nat} {g q C : Addr} {sp : Sp} {E : XK} {Q : VK} {us : List Value} {vs : List V} {pins : List (Addr × Obj)} {s : Shared} (F : FnG X.prog X.w X.K X.mg X.base CX k g sp) (hr : RoomG k X.A) (hx : PassesAt CX X σ E)
    (I : Inv X ((q, PySem.W.methodObj (.ref g) (.ref C)) :: pins) σ H s) (r : Vals vs us) (h : sp (.ref C :: vs) H Q E) : wpAny (model X.prog X.w) X.A (call (.ref q) us) (EP X pins σ Q) X.xe s := by
  have z : wpAny (model X.prog X.w) X.A (call (.ref q) us) (EP X ((q, PySem.W.methodObj (.ref g) (.ref C)) :: pins) σ Q) X.xe s :=
    wpAny_call (PySem.W.method_call (ClX.pin_at I)
      (run_fnRS (us := .ref C :: us) (vs := .ref C :: vs) F hr hx I (.cons rfl r) h))
  exact thn z fun _ _ y => ClX.unpinE y
/-- C.m(e, ..), m a classmethod -/
theorem ce_cmth {k C : Nat} {mc : Value} {pr g : Addr} {nm x : Str} {xp : Pos} {e : Expr} {es : List Expr} {m : MF} {ms : MA} {apos pos : Pos} {pl : Sem Bool} (hg : Gl X x) (hmx : X.mg x = some (.ref (ca C))) (r : ClX.CRead X.K (ca C) mc) (c : ClX.CMet X.K (ca C) mc nm pr g)
    (F : FnG X.prog X.w X.K X.mg X.base (L2.CX X.prog X.w) k g (spM ca X.K m)) (hr : RoomG k X.A) (ha : CL ca X (e :: es) ms) (hst : NoStar (e :: es)) (ht : MForm X (.Name x xp) nm (e :: es) apos pos pl := by exact rfl) (hdb : (x == ("__debug__" : Str)) = false := by decide) (hpl : (backTo pos (starEach es X.env)).any (·.1) = false := by rfl) :
    CE ca X (.Call (.Attribute (.Name x xp) nm apos) (e :: es) [] pos) (eCall m (aCons (eC (.cls C)) ms)) := fun Hf H R σ st Q p h => by
  have hw : Wa X (e :: es) σ H fun vs H1 => spM ca X.K m (.ref (ca C) :: vs) H1 Q (fun cls dd H' => wX X cls dd σ H') := by
    refine wa_wl (fun e' r' q => noStar_suf hst e' r' q _) (ha Hf H R σ st _ p ?_)
    unfold eCall aCons eC at h
    dsimp only [Res.bind] at h
    cases e1 : ms st with
    | fail => rw [e1] at h; exact h
    | exc y st1 => rw [e1] at h; exact h
    | ok ds st1 =>
      rw [e1] at h
      intro Hf1 H1 P1 R1 vs t1 p1
      have p2 : PR ca X.K Hf1 H1 P1 (RepL ca X.K Hf1 H1 P1 (.ref (ca C) :: vs) (.cls C :: ds)) R1 σ st1 := p1.imp fun q => .cons (S1 := Em) (S2 := P1) .cls q (fun _ z => z.elim) (fun _ z => z) fun _ z _ => z
      exact ⟨Hf1, P1, .cls C :: ds, p2.pend, p2.w.mono fun b q => .inl q, postC_of p2 (Post.from t1 h)⟩
  refine ⟨fun pins s I => ?_⟩
  have ho : PE X (.Name x xp) (tC (.ref (ca C))) := pe_glob hg hmx rfl hdb
  refine PySem.W.methodCall_KW (pl := pl) (thn (ho.run pins s σ H (fun v H1 => v = .ref (ca C) ∧ H1 = H) I ⟨rfl, rfl⟩) fun u s1 ⟨v, H1, I1, rx, ev, eh⟩ => ?_) ht
  subst ev eh
  obtain rfl : u = Value.ref (ca C) := rx
  refine ClX.getmethcm_ok I1 r c fun s2 I2 => ?_
  refine ClX.callwith_cm I2 (ClX.base_none I1 (Nat.le_refl _)) c.fi
    (thn (hw pos _ s2 I2) fun us s3 ⟨vs, H2, I3, rv, q2⟩ => ⟨⟨ClX.pin_at I3, I3.kIn⟩, ?_⟩) (hst.1 _) hpl
  exact run_cmS F hr (passAt (takes_wX X) σ) I3 rv q2
/-- cls(e, ..), cls a slot that holds the class C -/
theorem ce_makeV {k C i : Nat} {f : Addr} {x : Str} {p pos : Pos} {e : Expr} {es : List Expr} {m : MF} {ms : MA} (M : Mk X.K (ca C) f) (F : FnG X.prog X.w X.K X.mg X.base (L2.CX X.prog X.w) k f (spM ca X.K m)) (hr : RoomG (k + 1) X.A) (hN : X.N[i]? = some x) (hv : Vis X.env.scope x)
    (ha : CL ca X (e :: es) ms) (hst : NoStar (e :: es)) (hdb : (x == ("__debug__" : Str)) = false := by decide) (hcd : (x == ("__classdict__" : Str)) = false := by decide) (hpl : (backTo pos (starEach es X.env)).any (·.1) = false := by rfl) :
    CE ca X (.Call (.Name x p) (e :: es) [] pos) (eMakeV C i m ms) := fun Hf H R σ st Q pr h => by
  unfold eMakeV at h
  cases eg : getS st i with
  | none => rw [eg] at h; exact h.elim
  | some d0 =>
    rw [eg] at h
    cases d0 with
    | cls C' =>
      change Post ca X Hf H _ σ (if C' = C then _ else .fail) Q at h
      by_cases hc : C' = C
      · rw [if_pos hc] at h
        subst hc
        obtain ⟨v0, ev0, rv⟩ := pr.at_ i _ eg
        cases rv
        have hw : Wa X (e :: es) σ H fun vs H1 => ∀ x dx, H1 x = none → H1 dx = none → dx ≠ x → spM ca X.K m (.ref x :: vs) (upd (upd H1 dx (.own x)) x (.ins (ca C') dx [])) (fun v H2 => v = .non ∧ Q (.ref x) H2) (fun cls dd H' => wX X cls dd σ H') := by
          refine wa_wl (fun e' r' q => noStar_suf hst e' r' q _) (ha Hf H R σ st _ pr ?_)
          unfold eMake at h
          cases e1 : ms st with
          | fail => rw [e1] at h; exact h
          | exc y st1 => rw [e1] at h; exact h
          | ok ds st1 =>
            rw [e1] at h
            intro Hf1 H1 P1 R1 vs t1 p1 x dx n1 n2 n3
            exact postC_make p1 n1 n2 n3 (Post.from t1 h)
        refine ⟨fun pins s I => ?_⟩
        refine wpAny_Call_Name_kw (thn ((pe_var (pos := p) hN hv hdb hcd).run pins s σ H
          (fun v H1 => v = .ref (ca C') ∧ H1 = H) I ⟨.ref (ca C'), ev0, rfl, rfl⟩) fun u s1 ⟨v, H1, I1, r1, q1, q2⟩ => ?_)
        subst q1 q2
        cases r1
        refine PySem.W.callWith_K (h₀ := X.base) I.ok.mod.kin M.kp
          (thn (hw pos pins s1 I1) fun us s2 ⟨vs, H2, I2, r, q⟩ => ⟨I2.kIn, ?_⟩) (hst.1 _) hpl
        exact run_makeG M F hr (passAt (takes_wX X) σ) I2 r q
      · rw [if_neg hc] at h; exact h.elim
    | _ => exact h.elim
/-- f(e, ..), by FnR -/
theorem ce_callR {k : Nat} {f : Addr} {x : Str} {p pos : Pos} {e : Expr} {es : List Expr} {m : MF} {ms : MA} (F : FnG X.prog X.w X.K X.mg X.base (L2.CX X.prog X.w) k f (spM ca X.K m)) (hr : RoomG k X.A) (hg : Gl X x) (hm : X.mg x = some (.ref f))
    (hk : PySem.W.keepIn X.K (.ref f) = true) (ha : CL ca X (e :: es) ms) (hst : NoStar (e :: es)) (hdb : (x == ("__debug__" : Str)) = false := by decide) (hpl : (backTo pos (starEach es X.env)).any (·.1) = false := by rfl) :
    CE ca X (.Call (.Name x p) (e :: es) [] pos) (eCall m ms) := fun Hf H R σ st Q pr h => by
  have hw : Wa X (e :: es) σ H fun vs H1 => spM ca X.K m vs H1 Q (fun cls dd H' => wX X cls dd σ H') := by
    refine wa_wl (fun e' r' q => noStar_suf hst e' r' q _) (ha Hf H R σ st _ pr ?_)
    unfold eCall at h
    cases e1 : ms st with
    | fail => rw [e1] at h; exact h
    | exc x st1 => rw [e1] at h; exact h
    | ok ds st1 =>
      rw [e1] at h
      intro Hf1 H1 P1 R1 vs t1 p1
      exact ⟨Hf1, P1, ds, p1.pend, p1.w.mono fun b q => .inl q, postC_of p1 (Post.from t1 h)⟩
  refine ⟨fun pins s I => ?_⟩
  refine wpAny_Call_Name_kw (ld_glob I hg hm ?_ hdb)
  refine PySem.W.callWith_K (h₀ := X.base) I.ok.mod.kin hk
    (thn (hw pos pins s I) fun us s1 ⟨vs, H1, I1, r, q⟩ => ⟨I1.kIn, ?_⟩) (hst.1 _) hpl
  exact wpAny_call (run_fnRS F hr (passAt (takes_wX X) σ) I1 r q)
end
end DL

/-! DL33: repr of what is no container; texts compared. -/
namespace DL
open PySem L2 PyProof.Rows
section
variable {ca : Nat → Addr} {K : PySem.W.Frag} {Hf H Hf1 H1 : Hp} {S : Rg} {X : Cx} {v : V} {d : D}
end
theorem oS01_scr (l : List Int) (j : Int) (hl : l.length ≤ 63) : ∃ k, oS01 [.scr l, .int j] = some (.newL (nums k)) := oSl01_scr l j hl
theorem cutD_nums (l : List Int) (lo hi : Option Int) : cutD (nums l) lo hi = nums ((l.drop (HT.sIx l.length 0 lo)).take (HT.sIx l.length l.length hi - HT.sIx l.length 0 lo)) := by
  unfold cutD
  rw [nums_len]
  unfold nums
  rw [List.map_take, List.map_drop]
theorem s10_n {o : Bool} {p : List Int} {j : Int} {k : Nat} (hj : j = (k : Int)) (hp : p.length ≤ 16777216) : oS10 [.lst o (nums p), .int j] = some (.newL (nums (p.drop k))) := by
  subst hj
  show newLc (cutD (nums p) (some (k : Int)) none) = _
  rw [cutD_nums]
  have e1 : HT.sIx p.length 0 (some (k : Int)) = min k p.length := by
    show (if (k : Int) < 0 then ((k : Int) + (p.length : Int)).toNat else min (k : Int).toNat p.length) = _
    rw [if_neg (by omega), Int.toNat_natCast]
  have e2 : HT.sIx p.length p.length none = p.length := rfl
  rw [e1, e2]
  have e3 : (p.drop (min k p.length)).take (p.length - min k p.length) = p.drop k := by
    by_cases h : k ≤ p.length
    · rw [Nat.min_eq_left h, List.take_of_length_le (by rw [List.length_drop]; omega)]
    · rw [Nat.min_eq_right (by omega), List.drop_length, List.take_nil, List.drop_of_length_le (by omega)]
  rw [e3]
  unfold newLc
  rw [nums_colds, nums_len, List.length_drop]
  exact if_pos (by simp; omega)
theorem s01_n {o : Bool} {p : List Int} {j : Int} {k : Nat} (hj : j = (k : Int)) (hp : p.length ≤ 16777216) : oS01 [.lst o (nums p), .int j] = some (.newL (nums (p.take k))) := by
  subst hj
  show newLc (cutD (nums p) none (some (k : Int))) = _
  rw [cutD_nums]
  have e1 : HT.sIx p.length p.length (some (k : Int)) = min k p.length := by
    show (if (k : Int) < 0 then ((k : Int) + (p.length : Int)).toNat else min (k : Int).toNat p.length) = _
    rw [if_neg (by omega), Int.toNat_natCast]
  have e2 : HT.sIx p.length 0 none = 0 := rfl
  rw [e1, e2, List.drop_zero, Nat.sub_zero]
  have e3 : p.take (min k p.length) = p.take k := by
    by_cases h : k ≤ p.length
    · rw [Nat.min_eq_left h]
    · rw [Nat.min_eq_right (by omega), List.take_length, List.take_of_length_le (by omega)]
  rw [e3]
  unfold newLc
  rw [nums_colds, nums_len, List.length_take]
  exact if_pos (by simp; omega)
theorem add_l {o z : Bool} {p q : List Int} (h : p.length + q.length ≤ 16777216) : oAdd [.lst o (nums p), .lst z (nums q)] = some (.newL (nums (p ++ q))) := by
  show newLc (nums p ++ nums q) = _
  rw [← nums_app]
  unfold newLc
  rw [nums_colds, nums_len, List.length_append]
  exact if_pos (by simp; omega)
end DL

/-! DL34: the splitting into descending runs; the one normal word of an effect. -/
namespace Nw
open DL
end Nw

/-! DL35: calls with a slot lent, instances made, ==, len, the law's end, by FnG; repr of data. -/
namespace DL
open PySem L2 PyProof.Rows
section
variable {ca : Nat → Addr} {K : PySem.W.Frag} {Hf H Hf1 H1 Hf2 H2 : Hp} {S S1 S2 P P1 P2 : Rg} {R R1 R2 : Nat → Rg} {pp qq : Prop} {σ σ' : L2.St} {st st' : Sl} {v w : V} {d e : D} {vs : List V} {ds xs : List D} {X : Cx} {L : List Nat}
theorem ce_callLG {k : Nat} {f : Addr} {x : Str} {p pos : Pos} {e0 : Expr} {es : List Expr} (es1 fs : List Expr) (e : Expr) {i : Nat} {m : MF} {ms ns : MA} (F : FnG X.prog X.w X.K X.mg X.base (L2.CX X.prog X.w) k f (spM ca X.K m)) (hr : RoomG k X.A) (hg : Gl X x) (hm : X.mg x = some (.ref f))
    (hk : PySem.W.keepIn X.K (.ref f) = true) (ha : CL ca X es1 ms) (he : PE X e (tVar i)) (hbs : CL ca X fs ns) (hes : e0 :: es = es1 ++ e :: fs) (hst : NoStar (e0 :: es)) (hdb : (x == ("__debug__" : Str)) = false := by decide) (hpl : (backTo pos (starEach es X.env)).any (·.1) = false := by rfl) :
    CE ca X (.Call (.Name x p) (e0 :: es) [] pos) (eCallL m ms i ns) := fun Hf H R σ st Q pr h => by
  have hw : Wa X (e0 :: es) σ H fun vs H1 => spM ca X.K m vs H1 Q (fun cls dd H' => wX X cls dd σ H') := by
    refine wa_wl (fun e' r' q => noStar_suf hst e' r' q _) ?_
    rw [hes]
    exact lent_args (E := fun σ cls dd H' => wX X cls dd σ H') ha he hbs pr h rfl
  refine ⟨fun pins s I => ?_⟩
  refine wpAny_Call_Name_kw (ld_glob I hg hm ?_ hdb)
  refine PySem.W.callWith_K (h₀ := X.base) I.ok.mod.kin hk
    (thn (hw pos pins s I) fun us s1 ⟨vs, H1, I1, r, q⟩ => ⟨I1.kIn, ?_⟩) (hst.1 _) hpl
  exact wpAny_call (run_fnRS F hr (passAt (takes_wX X) σ) I1 r q)
theorem ce_makeG {k C : Nat} {f : Addr} {x : Str} {p pos : Pos} {e : Expr} {es : List Expr} {m : MF} {ms : MA} (M : Mk X.K (ca C) f) (F : FnG X.prog X.w X.K X.mg X.base (L2.CX X.prog X.w) k f (spM ca X.K m)) (hr : RoomG (k + 1) X.A) (hg : Gl X x) (hm : X.mg x = some (.ref (ca C)))
    (ha : CL ca X (e :: es) ms) (hst : NoStar (e :: es)) (hdb : (x == ("__debug__" : Str)) = false := by decide) (hpl : (backTo pos (starEach es X.env)).any (·.1) = false := by rfl) :
    CE ca X (.Call (.Name x p) (e :: es) [] pos) (eMake C m ms) := fun Hf H R σ st Q pr h => by
  have hw : Wa X (e :: es) σ H fun vs H1 => ∀ x dx, H1 x = none → H1 dx = none → dx ≠ x → spM ca X.K m (.ref x :: vs) (upd (upd H1 dx (.own x)) x (.ins (ca C) dx [])) (fun v H2 => v = .non ∧ Q (.ref x) H2) (fun cls dd H' => wX X cls dd σ H') := by
    refine wa_wl (fun e' r' q => noStar_suf hst e' r' q _) (ha Hf H R σ st _ pr ?_)
    unfold eMake at h
    cases e1 : ms st with
    | fail => rw [e1] at h; exact h
    | exc x st1 => rw [e1] at h; exact h
    | ok ds st1 =>
      rw [e1] at h
      intro Hf1 H1 P1 R1 vs t1 p1 x dx n1 n2 n3
      exact postC_make p1 n1 n2 n3 (Post.from t1 h)
  refine ⟨fun pins s I => ?_⟩
  refine wpAny_Call_Name_kw (ld_glob
      I hg hm ?_ hdb)
  refine PySem.W.callWith_K (h₀ := X.base) I.ok.mod.kin M.kp (thn (hw pos pins s I) fun us s1 ⟨vs, H1, I1, r, q⟩ => ⟨I1.kIn, ?_⟩) (hst.1 _) hpl
  exact run_makeG M F hr (passAt (takes_wX X) σ) I1 r q
/-- the call of __eq__, within the comparison -/
theorem eq_runG {CX : CXT} {k : Nat} {f : Addr} {sp : Sp} {E : XK} {A : Around} {pins : List (Addr × Obj)} {s : Shared} {a b : Addr} {Q : VK} (F : FnG X.prog X.w X.K X.mg X.base CX k f sp) (hr : RoomG k A) (hfr : A.frames = X.A.frames)
    (hx : PassesAt CX X σ E) (I : Inv X pins σ H s) (h : sp [.ref a, .ref b] H Q E) : wpAny (model X.prog X.w) A (call (.ref f) [.ref a, .ref b]) (EP X pins σ Q) X.xe s := by
  have e0 : Env0 X.prog X.w X.K X.mg X.base A X.stack s H
      := by
    have e := I.env0
    exact ⟨hfr.trans e.frames, e.mod, e.bs, e.bsz, e.funs, e.frf, e.hok, e.bare⟩
  have r2 : Vals [V.ref a, V.ref b] [Value.ref a, Value.ref b] :=
      .cons rfl (.cons rfl .nil)
  refine wpAny_call (codeAny_mono (F A X.stack s H _ _ Q E hr e0 r2 h) fun res s' got => ?_)
  cases res with
  | error e => exact hx pins _ _ e s' I got
  | ok fl => cases fl with
    | ret w => exact I.after got
    | next => exact got.elim
    | brk => exact got.elim
    | cont => exact got.elim
theorem rc_eqIG {CX : CXT} {k : Nat} {f C : Addr} {sp : Sp} {E : L2.St → XK} (F : FnG X.prog X.w X.K X.mg X.base CX k f sp) (c : OwnEqC X.K C f) (hr : RoomG (k + 1) X.A) (hx : ∀ σ, PassesAt CX X σ (E σ)) (neg : Bool)
    {pins : List (Addr × Obj)} {s : Shared} {x y : V} {u v : Value} {Q : VK} (I : Inv X pins σ H s) (rx : RelV x u) (ry : RelV y v) (h : rEqI neg C sp E σ x y H Q) :
    wpAny (model X.prog X.w) X.A (compareOp (if neg then .NotEq else .Eq) u v) (EP X pins σ Q) X.xe s := by
  obtain ⟨a, b, dx, dy, fs, gs, rfl, rfl, ha, hb', hs⟩ := h
  cases rx
  cases ry
  obtain ⟨mA, J, _⟩ :=
      ins_get I.hok ha
  obtain ⟨mB, J', _⟩ :=
      ins_get I.hok hb'
  cases neg with
  | false =>
    obtain ⟨od, J, _⟩ := J.look
    obtain ⟨od', J', _⟩ :=
        J'.look
    obtain ⟨m, hF⟩ := I.fr
    show wpAny _ _ (richCompare .Eq _ _) _ _ _
    refine PySem.W.cmp_K (op := .Eq) (tb := .ref C) hr.2.units0 hF I.ok.mod.kin J J'.type (by simp [PySem.W.notFirst]) c.eq c.fn ?_
    refine thn (eq_runG F (hr.mono (Nat.le_succ k)) rfl (hx σ) I hs) fun v s' ⟨vv, H', I', rv, kk, ev, q⟩ => ?_
    subst ev
    cases rv
    exact ⟨.bl kk, H', I', rfl, q⟩
  | true =>
    obtain ⟨of, nm, q, N, bs, hdct, sn, sub, ab, col, dd, k0, k1, k2, k3, k5, newId, hC, hN0, hN1, hN2, hf, hfc⟩ := c.ne
    obtain ⟨hp, g, dr, tk, os⟩ :=
        s
    have hk : X.K.In hp := I.kIn
    have hNs : hp.Ns N (hp.nsMap N) := .of_isNs (PySem.W.isNs_of_in hk hN0)
    have fin := eq_runG F (hr.in1) (show X.A.in1.frames = X.A.frames from rfl) (hx σ) I hs
    refine compareOp_ne_ownEq PySem.F.cmp_object ⟨_, of, nm, q, N, bs, hdct, sn, sub, ab, col, dd, k0, k1, k2, k3, k5, newId, _, _, J.obj, rfl, hk _ _ hC, hNs, ns_some hk hNs hN1, hk _ _ hf, hfc, PySem.F.cmp_object.mro, PySem.F.cmp_object.eq.lookup, PySem.W.nsMap_none_of_in hk hN0 hN2⟩ J'.obj rfl (Nat.lt_of_le_of_lt (Nat.le_add_right _ 0) ?_) ?_
    · have := hr.2.units
      omega
    · refine thn fin fun v s' ⟨vv, H', I', rv, kk, ev, q⟩ => ?_
      subst ev
      cases rv
      exact ⟨kk, rfl, .bl (!kk), H', I', rfl, q⟩
theorem ce_eqIG {k C : Nat} {f : Addr} {a b : Expr} {oa ob : Opd} {m : MF} {pos : Pos} {op : CmpOp} (neg : Bool) (hop : op = if neg then .NotEq else .Eq) (F : FnG X.prog X.w X.K X.mg X.base (L2.CX X.prog X.w) k f (spM ca X.K m)) (c : OwnEqC X.K (ca C) f) (hr : RoomG (k + 1) X.A)
    (ha : CO ca X a oa) (hbb : CO ca X b ob) : CE ca X (.Compare a [op] [b] pos) (eEqI neg C m oa ob) := fun Hf H R σ st Q p h => by
  have ho : ∀ (pins : List (Addr × Obj)) (s : Shared) (σ : L2.St) (H : Hp) (x y : V) (u v : Value) (Q : VK), Inv X pins σ H s → RelV x u → RelV y v → rEqI neg (ca C) (spM ca X.K m) (fun σ cls dd H' => wX X cls dd σ H') σ x y H Q →
      wpAny (model X.prog X.w) X.A (compareOp (if neg then .NotEq else .Eq) u v) (EP X pins σ Q) X.xe s := fun pins s σ H x y u v Q I rx ry h => rc_eqIG F c hr (fun σ => passAt (takes_wX X) σ) neg I rx ry h
  have hm : behindInMarks op b = false := nomark b (by rw [hop]; cases neg <;> decide) (by rw [hop]; cases neg <;> decide)
  have key : WL X [a, b] σ H fun vs H2 => rl2 (rEqI neg (ca C) (spM ca X.K m) (fun σ cls dd H' => wX X cls dd σ H') σ) vs H2 Q := by
    refine ops_sound (.cons ha (.cons hbb .nil)) p h fun gs st2 Hf2 H2 R2 vs t2 p2 hr2 hk => ?_
    cases g : gs st2 with
    | none => rw [g] at hk; exact hk.elim
    | some ds =>
      rw [g] at hk
      match ds, hk with
      | [x, y], hk =>
        dsimp only at hk
        by_cases hc : insC x = some C ∧ insC y = some C
        · rw [if_pos hc] at hk
          obtain ⟨a, b, dx, dy, fs, gs', rfl, e1, e2, rl⟩ := rdl_ins2 (X := X) p2.w.ex (hr2 _ g) hc.1 hc.2
          refine ⟨a, b, dx, dy, fs, gs', rfl, rfl, e1, e2, Hf2, Em, [x, y], rl, p2.w.mono fun _ q => q.elim, ?_⟩
          refine postC_of (σ := σ) (st := st2) (R := R2) (p2.imp fun _ => rl) ?_
          cases em : m [x, y] with
          | fail => rw [em] at hk; exact hk
          | exc x0 ps => rw [em] at hk; exact hk.elim
          | ok d ps =>
            rw [em] at hk
            cases d with
            | bl kk =>
              intro Hf3 H3 P3 R3 v3 t3 p3
              exact ⟨kk, rep_bl p3.pend, hk Hf3 H3 Em R3 _ (less0 t3) (p3.drop.put .bl)⟩
            | _ => exact hk.elim
        · rw [if_neg hc] at hk; exact hk.elim
  refine ⟨fun pins s I => ?_⟩
  refine wpAny_Compare1 (binT (R := fun x y H => rEqI neg (ca C) (spM ca X.K m) (fun σ cls dd H' => wX X cls dd σ H') σ x y H Q) (we_pe X a) (we_pe X b) I key fun v u s2 x y H2 I2 rx ry q => ?_) hm
  rw [hop]
  exact ho pins s2 σ H2 x y v u Q I2 rx ry q
theorem run_fnAG {CX : CXT} {k : Nat} {f : Addr} {sp : Sp} {E : XK} {A : Around} {pins : List (Addr × Obj)} {s : Shared} {us : List Value} {Q : VK} (F : FnG X.prog X.w X.K X.mg X.base CX k f sp) (hr : RoomG k A) (hfr : A.frames = X.A.frames)
    (hx : PassesAt CX X σ E) (I : Inv X pins σ H s) (r2 : Vals vs us) (h : sp vs H Q E) : wpAny (model X.prog X.w) A (call (.ref f) us) (EP X pins σ Q) X.xe s := by
  have e0 : Env0 X.prog X.w X.K X.mg X.base A X.stack s H
      := by
    have e := I.env0
    exact ⟨hfr.trans e.frames, e.mod, e.bs, e.bsz, e.funs, e.frf, e.hok, e.bare⟩
  refine wpAny_call (codeAny_mono (F A X.stack s H _ _ Q E hr e0 r2 h) fun res s' got => ?_)
  cases res with
  | error e => exact hx pins _ _ e s' I got
  | ok fl => cases fl with
    | ret w => exact I.after got
    | next => exact got.elim
    | brk => exact got.elim
    | cont => exact got.elim
theorem ce_lenIG {k C : Nat} {f : Addr} {a : Expr} {oa : Opd} {m : MF} {p pos : Pos} (F : FnG X.prog X.w X.K X.mg X.base (L2.CX X.prog X.w) k f (spM ca X.K m)) (c : OwnSpC X.K (ca C) f "__len__") (hr : RoomG (k + 1) X.A)
    (hg : Gl X "len") (hm : X.mg "len" = none) (ha : CO ca X a oa) (hst : NoStar [a] := by exact ⟨fun _ => rfl, trivial⟩) : CE ca X (.Call (.Name "len" p) [a] [] pos) (eLenI C m oa) := fun Hf H R σ st Q pr h => by
  have key : Wa X [a] σ H fun vs H2 => ∃ x dx fs, vs = [.ref x] ∧ H2 x = some (.ins (ca C) dx fs) ∧ spM ca X.K m [.ref x] H2 (fun v H' => ∃ n : Int, v = .int n ∧ 0 ≤ n ∧ n < 2 ^ 63 ∧ Q (.int n) H') (fun cls dd H' => wX X cls dd σ H') := by
    refine wa_wl (fun e' r' q => noStar_suf hst e' r' q _) (ops_sound (.cons ha .nil) pr h fun gs st2 Hf2 H2 R2 vs t2 p2 hr2 hk => ?_)
    cases g : gs st2 with
    | none => rw [g] at hk; exact hk.elim
    | some ds =>
      rw [g] at hk
      obtain ⟨x, rfl⟩ : ∃ x, ds = [x] := by
        match ds, hk with
        | [x], _ => exact ⟨x, rfl⟩
      dsimp only at hk
      by_cases hc : insC x = some C
      · rw [if_pos hc] at hk
        obtain ⟨v, S', e1, r1⟩ := rdl1 (hr2 _ g) rfl
        subst e1
        have h1 : hot x = false := by
          cases x <;> try (cases hc; done)
          rename_i o _ _
          cases o
          · rfl
          · cases hc
        have q1 := r1.cold (S' := Em) h1
        cases x <;> try (cases hc; done)
        rename_i o1 C1 g1
        obtain ⟨a, dx, fs, T, rfl, e2, _, _⟩ := rep_ins p2.w.ex q1
        have d1 : C1 = C := by
          cases o1
          · exact Option.some.inj hc
          · cases hc
        subst d1
        have rl : RepL ca X.K Hf2 H2 Em [.ref a] [.ins o1 C1 g1] := RepL.one q1
        refine ⟨a, dx, fs, rfl, e2, Hf2, Em, _, rl, p2.w.mono fun _ q => q.elim, ?_⟩
        refine postC_of (σ := σ) (st := st2) (R := R2) (p2.imp fun _ => rl) ?_
        cases em : m [.ins o1 C1 g1] with
        | fail => rw [em] at hk; exact hk
        | exc x0 ps => rw [em] at hk; exact hk.elim
        | ok d ps =>
          rw [em] at hk
          cases d with
          | int n =>
            dsimp only at hk
            by_cases hn : 0 ≤ n ∧ n < 2 ^ 63
            · rw [if_pos hn] at hk
              intro Hf3 H3 P3 R3 v3 t3 p3
              exact ⟨n, rep_int p3.pend, hn.1, hn.2, hk Hf3 H3 Em R3 _ (less0 t3) (p3.drop.put .int)⟩
            · rw [if_neg hn] at hk; exact hk.elim
          | _ => exact hk.elim
      · rw [if_neg hc] at hk; exact hk.elim
  refine ⟨fun pins s I => ?_⟩
  refine wpAny_Call_Name_kw (ld_blt I hg hm boot_len ?_)
  refine PyProof.Rows.callWith_builtin1 (thn (key pos pins s I) fun us s1 ⟨vs, H1, I1, r1, q1⟩ => ?_) (hst.1 _) rfl
  obtain ⟨x, dx, fs, rfl, e2, sp⟩ := q1
  obtain ⟨u, rfl, rx⟩ := vals1 r1
  obtain rfl : u = .ref x := rx
  obtain ⟨hp, g, dr, tk, os⟩ :=
      s1
  refine len_own (c.at (y := none) I1 e2 (by with_unfolding_all rfl)) ?_
  refine thn (run_fnAG F hr.in1 (show X.A.in1.frames = X.A.frames from rfl) (passAt (takes_wX X) σ) I1 r1 sp) fun v s' ⟨vv, H', I', rv, n, ev, n0, n1, q⟩ => ?_
  subst ev
  obtain ⟨u, rfl⟩ := rv
  exact ⟨n, u, rfl, n0, n1, .int n, H', I'.kept (t' := s'.toks + 1) fun b o e => e, ⟨_, rfl⟩, q⟩

/-! ### a law's end -/
theorem law_base {P : Program} {w : World} {K : PySem.W.Frag} {mg mb : Str → Option Value} {k : Nat} {fa a : Addr} {sp : Sp} {s₁ : Shared} {vs : List Value} {H : Hp}
    (KX : K.In s₁.heap) (hns : s₁.heap.Ns mainGlobals mg) (hb : s₁.heap.Ns builtinsNs mb) (hbb : ∀ x : Str, x ≠ "__name__" → mb x = bootBuiltins x) (hlim : s₁.heap.NoLimit) (hg : s₁.gens = #[])
    (ha : s₁.heap.get? a = some { cls := .type "list", data := .seq vs.toArray }) (hr : RoomG k callerA)
    (F : ∀ base : Heap, K.In base → base.Ns mainGlobals mg → FnG P w K mg base (L2.CX P w) k fa sp) (hq : sp [.ref a] H (fun v _ => v = .bl true) fun _ _ _ => False)
    (hCX : ∀ e s', L2.CX P w [] H s₁ (fun _ _ _ => False) e s' → False) (hO : Only H) (hok : HOk P w H s₁.heap) (hA : ∀ b, H b ≠ none → b = a) (hK : H a ≠ none → K.lookup a = none) :
    codeAny (model P w) callerA (.call (.ref fa) ⟨[.ref a], []⟩) (fun r s' => r = .ok (.ret (.bool true)) ∧ OldK s₁.heap s'.heap ∧ s'.os = s₁.os ∧ AllBare s'.gens) s₁ := by
  have only : ∀ {b : Addr}, H b ≠ none → ∀ {o : Obj}, s₁.heap.get? b = some o → b = a ∧ o = { cls := .type "list", data := .seq vs.toArray } := fun {b} q o e => by
    have z := hA b q
    subst z
    rw [ha] at e
    exact ⟨rfl, (Option.some.inj e).symm⟩
  have free : ∀ {b : Addr} {o : Obj} {es : Array DictEntry} {ep : Nat}, s₁.heap.get? b = some o → o.data = .dict es ep → H b = none := fun {b o es ep} e dd =>
    Classical.byContradiction fun q => by
      obtain ⟨_, z⟩ := only q e
      subst z
      have z2 : Data.seq vs.toArray _ = Data.dict es ep := dd
      cases z2
  have ns : ∀ {b : Addr} {m : Str → Option Value}, s₁.heap.Ns b m → (hidT s₁.heap H).Ns b m :=
    fun {b m} ⟨o, es, ep, e, dd, r⟩ => ⟨o, es, ep, hidT_get e (free e dd), dd, r⟩
  have kin : K.In (hidT s₁.heap H) := fun b o e => hidT_get (KX b o e) (Classical.byContradiction fun q => by
    have z := hA b q
    subst z
    rw [hK q] at e
    cases e)
  have md : Mod K mg (hidT s₁.heap H) := ⟨kin, ns hns, ⟨mb, ns hb, hbb⟩, let ⟨mc, h1, h2⟩ := hlim; ⟨mc, ns h1, h2⟩⟩
  have nil : ∀ b : Addr, ¬ b ∈ ([] : List Addr) := fun b z => by cases z
  have e0 : Env0 P w K mg (hidT s₁.heap H) callerA [] s₁ H :=
    ⟨rfl, md, fun b o e => of_hidT e, Nat.le_of_eq (hidT_size _ _), trivial, fun b z => absurd z (nil b), hok, .of_eq hg⟩
  refine codeAny_mono (F _ kin (ns hns) callerA [] s₁ H [.ref a] [.ref a] _ _ hr e0 (.cons rfl .nil) hq) fun r s' h => ?_
  cases r with
  | error e => exact (hCX e s' h).elim
  | ok fl =>
    cases fl with
    | next => exact h.elim
    | brk => exact h.elim
    | cont => exact h.elim
    | ret u =>
      obtain ⟨v, H', os, bare, un, hok', r', q⟩ := h
      have q' : v = .bl true := q
      subst q'
      obtain rfl : u = Value.bool true := r'
      refine ⟨rfl, OldK.of_keep fun b o e => ?_, os, bare⟩
      rcases hO b with z | ⟨ob, xs, z⟩
      · exact un.keep b o e z (nil b) (nil b)
      · obtain ⟨e1, _⟩ := hok b _ z
        obtain ⟨e2, _⟩ := hok' b _ (un.frzs b ob _ z)
        rw [e] at e1
        cases e1
        exact e2
theorem law_callG {P : Program} {w : World} {K : PySem.W.Frag} {mg mb : Str → Option Value} {k : Nat} {fa a : Addr} {sp : Sp} {s₁ : Shared} {vs : List Value} {ns : List Int}
    (KX : K.In s₁.heap) (hns : s₁.heap.Ns mainGlobals mg) (hb : s₁.heap.Ns builtinsNs mb) (hbb : ∀ x : Str, x ≠ "__name__" → mb x = bootBuiltins x) (hlim : s₁.heap.NoLimit) (hg : s₁.gens = #[])
    (ha : s₁.heap.get? a = some { cls := .type "list", data := .seq vs.toArray }) (hi : IntsAre vs ns) (hl : ns.length ≤ sizeLine) (hr : RoomG k callerA)
    (F : ∀ base : Heap, K.In base → base.Ns mainGlobals mg → FnG P w K mg base (L2.CX P w) k fa sp)
    (hsp : ∀ H : Hp, Only H → SqL K H a (ns.map V.int) → sp [.ref a] H (fun v _ => v = .bl true) fun _ _ _ => False)
    (hCX : ∀ H e s', L2.CX P w [] H s₁ (fun _ _ _ => False) e s' → False) :
    codeAny (model P w) callerA (.call (.ref fa) ⟨[.ref a], []⟩) (fun r s' => r = .ok (.ret (.bool true)) ∧ OldK s₁.heap s'.heap ∧ s'.os = s₁.os ∧ AllBare s'.gens) s₁ := by
  have rv := vals_ints hi
  have lv := hi.length
  have go : ∀ H : Hp, Only H → SqL K H a (ns.map V.int) → HOk P w H s₁.heap → (∀ b, H b ≠ none → b = a) → (H a ≠ none → K.lookup a = none) → _ :=
    fun H hO hS hok hA hK => law_base KX hns hb hbb hlim hg ha hr F (hsp H hO hS) (hCX H) hO hok hA hK
  cases hk : K.lookup a with
  | some o =>
    have e := KX a o hk
    rw [ha] at e
    cases e
    have lit : vs.toArray.size ≤ sizeLine := by
      rw [List.size_toArray, lv]
      exact hl
    exact go (fun _ => none) (fun _ => .inl rfl) (.inr ⟨_, vs.toArray, _, hk, rfl, rfl, rfl, lit, by simpa using rv⟩)
      (fun b u z => nomatch z) (fun b z => absurd rfl z) fun z => absurd rfl z
  | none =>
    obtain ⟨H, h1, h2⟩ : ∃ H : Hp, H a = some (.frz { cls := .type "list", data := .seq vs.toArray } (.lst (ns.map V.int))) ∧ ∀ b, b ≠ a → H b = none :=
      ⟨fun b => if b = a then some (.frz { cls := .type "list", data := .seq vs.toArray } (.lst (ns.map V.int))) else none, if_pos rfl, fun b z => if_neg z⟩
    refine go H (fun b => ?_) (.inl (.inr ⟨_, h1⟩)) (fun b u z => ?_) (fun b z => Classical.byContradiction fun q => z (h2 b q)) fun _ => hk
    · by_cases q : b = a
      · subst q
        exact .inr ⟨_, _, h1⟩
      · exact .inl (h2 b q)
    · by_cases q : b = a
      · subst q
        rw [h1] at z
        cases z
        exact ⟨ha, by rw [List.length_map]; exact hl, vs, _, rv, ha⟩
      · rw [h2 b q] at z
        cases z
theorem walk_lawG {l : PySem.W.OpenLaw} {k : Nat} {q : Program} {loose : List Str} {XP : (Str → Option Value) → Heap → Prop} {YP : World → Heap → Prop} {d : DefRec} {K : Params → PySem.W.Frag} {m : MF}
    (hn : l.most = some 63) (hdf : d.params.defaults = []) (hr : Room k callerA) (hY : ∀ (w : World) (h : Heap), YP w h → (K w.params).In h)
    (F : ∀ (w : World) (mg : Str → Option Value) (fa : Addr) (h : Heap),
        (K w.params).In h → h.Ns mainGlobals mg → mg d.name = some (.ref fa) →
      ∃ (ca : Nat → Addr), ∀ base : Heap, (K w.params).In base → base.Ns mainGlobals mg → FnG l.prog w (K w.params) mg base (L2.CX l.prog w) k fa (spM ca (K w.params) m))
    (hm : ∀ ns : List Int, ns.length ≤ 63 → ∃ ps, m [.scr ns] = .ok (.bl true) ps) :
    PySem.W.WalkO q loose XP YP l.row.toRowW d [] (fun f vs => PySem.call f vs) := by
  refine Att.attach_call hn hdf fun w s₀ s₁ mg mb fa o pm cd doc a vs ns G Y ho hd hcd hmg hobj hints hlen hg => ?_
  obtain ⟨ca, h5⟩ := F w mg fa _ (hY w _ Y) G.T.g hmg
  exact law_callG (hY w _ Y) G.T.g G.T.b G.T.builtins G.T.nolimit hg hobj hints (Nat.le_trans hlen (by decide)) ⟨rfl, hr⟩ h5 (fun H hO hS => sp_law hm H a ns hlen hS) fun H e s' h => law_cx h
end
end DL

/-! DL36: repr of data. -/
namespace DL
open PySem L2 PyProof.Rows
/-- what repr takes -/
def rpOk (p : PyData) : Bool := p.canLay0 && p.showable && !p.hasDict && decide (p.depth ≤ 64) && decide (p.shown.length ≤ 16777216)
def rRepr (K : PySem.W.Frag) : List V → Hp → VK → Prop := fun xs H Q => ∃ x p, xs = [x] ∧ Dp K H x p ∧ rpOk p = true ∧ Q (.str p.shown) H
def oRepr : List D → Option Out
  | [x] => if rpOk (toPy x) then some (.val (.str (toPy x).shown)) else none
  | _ => none
section
variable {ca : Nat → Addr} {K : PySem.W.Frag} {Hf H Hf1 H1 : Hp} {S : Rg} {X : Cx} {v : V} {d : D}
theorem call_repr {k : Nat} (hr : RoomG k X.A) : CallR X (.builtin "repr") (rRepr X.K) := by
  intro pins s σ H xs us Q I r h
  obtain ⟨x, p, rfl, hd, ok, q⟩ := h
  unfold rpOk at ok
  simp only [Bool.and_eq_true, decide_eq_true_eq, Bool.not_eq_true'] at ok
  obtain ⟨⟨⟨⟨h1, h2⟩, h3⟩, h4⟩, h5⟩ := ok
  rw [sz_eq] at h5
  obtain ⟨u, rfl, rx⟩ := vals1 r
  obtain ⟨as, rd⟩ := Dp.reads I p x u hd rx
  have hu := hr.2.un
  have big : ∀ a, u = .ref a → wpAny (model X.prog X.w) X.A (call (.builtin "repr") [.ref a]) (EP X pins σ Q) X.xe s := fun a e => by
    subst e
    exact PySem.repr_of_reads' rd h2 (PyData.noDict_hsm h3) hr.1 (by omega) (fun _ _ e => e)
      (fun h' u tk keep => ⟨.str _, H, I.kept (t' := tk) keep, ⟨_, rfl⟩, q⟩) h5
  cases rd with
  | none => exact PySem.P.repr_of_none ⟨.str _, H, I.tok _, ⟨_, rfl⟩, q⟩
  | bool b => exact PySem.P.repr_of_bool ⟨.str _, H, I.tok _, ⟨_, rfl⟩, q⟩
  | int i t => exact PySem.P.repr_of_int (by simpa [PyData.showable] using h2) ⟨.str _, H, I.tok _, ⟨_, rfl⟩, q⟩
  | str y t => exact PySem.P.repr_of_str ⟨.str _, H, I.tok _, ⟨_, rfl⟩, q⟩ h5
  | list _ _ _ _ => exact big _ rfl
  | tuple _ _ _ _ => exact big _ rfl
  | dict _ _ _ _ _ => exact big _ rfl
theorem os_repr : OpS ca K (rRepr K) oRepr := fun Hf H vs ds o Q hx rd h q => by
  match ds, h with
  | [x], h =>
    obtain ⟨v, S, e1, r1⟩ := rdl1 rd rfl
    subst e1
    dsimp only [oRepr] at h
    split at h
    · rename_i hz
      cases h
      have hl : (toPy x).canLay0 = true := by
        unfold rpOk at hz
        simp only [Bool.and_eq_true] at hz
        exact hz.1.1.1.1
      exact ⟨v, _, rfl, rep_dp hx r1 hl, hz, q _ .str⟩
    · cases h
end
end DL

/-! DL37: zip; << >> &; walks of a list or a tuple. -/
namespace DL
open PySem L2 PyProof.Rows
section
variable {ca : Nat → Addr} {K : PySem.W.Frag} {Hf H Hf1 H1 Hf2 H2 : Hp} {S S1 S2 P P1 P2 : Rg} {R R1 R2 : Nat → Rg} {σ : L2.St} {st : Sl} {v : V} {d : D} {vs us : List V} {ds xs ys : List D} {X : Cx} {L : List Nat}
end
end DL

/-! DL38: how a def with a starred parameter binds. -/
namespace DL
open PySem PySem.Spec PyProof.Rows L2
theorem starB1 {fd : FuncData} {p1 pv : Str} (h0 : ∀ a, bindArgs fd { pos := [a] } = (newTuple [] >>= fun t => pure [(p1, a), (pv, t)])) (h1 : ∀ a r rs, bindArgs fd { pos := a :: r :: rs } = (newTuple (r :: rs) >>= fun t => pure [(p1, a), (pv, t)])) : StarB fd [p1] pv :=
  ⟨StX.bind_star1 (B := fun us => bindArgs fd { pos := us }) h0 h1⟩
end DL

/-! DL39: tuple * int. -/
namespace DL
open PySem PySem.Spec PyProof.Rows L2
open AutoSeq1 (wpAny_loadPart')
section
variable {X : Cx}
end
section
variable {ca : Nat → Addr} {K : PySem.W.Frag} {Hf H Hf1 H1 : Hp} {S S1 : Rg} {X : Cx} {v : V} {d : D}
end
end DL

/-! DL40: equality of data by what it stands for. -/
namespace DL
open PySem (PyData)
/-- a type whose values stand for data -/
class Py (α : Type) where
  py : α → PyData
  dep : Nat
  lay : ∀ a, (py a).canLay0 = true
  depth : ∀ a, (py a).depth ≤ dep
  eqv : ∀ a b, PyData.eqv (py a) (py b) = true ↔ a = b
theorem layA : ∀ {l : List PyData}, (∀ p ∈ l, p.canLay0 = true) → PyData.canLayAll0 l = true
  | [], _ => by rw [PyData.canLayAll0]
  | a :: l, h => by rw [PyData.canLayAll0, h a List.mem_cons_self, layA fun p hp => h p (List.mem_cons_of_mem _ hp)]; rfl
theorem depA {n : Nat} : ∀ {l : List PyData}, (∀ p ∈ l, p.depth ≤ n) → PyData.depthAll l ≤ n
  | [], _ => by rw [PyData.depthAll]; omega
  | a :: l, h => by
    rw [PyData.depthAll]
    have h1 := h a List.mem_cons_self
    have h2 := depA fun p hp => h p (List.mem_cons_of_mem _ hp)
    omega
theorem eqvA {α : Type} [Py α] : ∀ l k : List α, PyData.eqvAll (l.map Py.py) (k.map Py.py) = true ↔ l = k
  | [], [] => by rw [List.map_nil, PyData.eqvAll]; simp
  | [], b :: k => by rw [List.map_nil, List.map_cons, PyData.eqvAll]; simp
  | a :: l, [] => by rw [List.map_nil, List.map_cons, PyData.eqvAll]; simp
  | a :: l, b :: k => by rw [List.map_cons, List.map_cons, PyData.eqvAll, Bool.and_eq_true, Py.eqv, eqvA l k]; simp
instance : Py Int where
  py := .int
  dep := 0
  lay _ := by rw [PyData.canLay0]
  depth _ := by rw [PyData.depth]; omega
  eqv a b := by rw [PyData.eqv]; simp
instance : Py Bool where
  py := .bool
  dep := 0
  lay _ := by rw [PyData.canLay0]
  depth _ := by rw [PyData.depth]; omega
  eqv a b := by rw [PyData.eqv]; simp
instance {α : Type} [Py α] : Py (List α) where
  py l := .list (l.map Py.py)
  dep := Py.dep α + 1
  lay l := by
    rw [PyData.canLay0]
    exact layA fun p hp => by
      obtain ⟨a, _, rfl⟩ := List.mem_map.mp hp
      exact Py.lay a
  depth l := by
    rw [PyData.depth]
    have := depA (l := l.map Py.py) (n := Py.dep α) fun p hp => by
      obtain ⟨a, _, rfl⟩ := List.mem_map.mp hp
      exact Py.depth a
    omega
  eqv l k := by rw [PyData.eqv]; exact eqvA l k
instance {α β : Type} [Py α] [Py β] : Py (α × β) where
  py x := .tuple [Py.py x.1, Py.py x.2]
  dep := max (Py.dep α) (Py.dep β) + 1
  lay x := by
    rw [PyData.canLay0, PyData.canLayAll0, PyData.canLayAll0, PyData.canLayAll0, Py.lay, Py.lay]
    rfl
  depth x := by
    rw [PyData.depth, PyData.depthAll, PyData.depthAll, PyData.depthAll]
    have h1 := Py.depth x.1
    have h2 := Py.depth x.2
    omega
  eqv x y := by
    rw [PyData.eqv, PyData.eqvAll, PyData.eqvAll, PyData.eqvAll, Bool.and_true, Bool.and_eq_true, Py.eqv, Py.eqv]
    exact ⟨fun h => Prod.ext h.1 h.2, fun h => by rw [h]; exact ⟨rfl, rfl⟩⟩
/-- a tuple of likes -/
structure Tp (α : Type) where
  l : List α
  deriving DecidableEq
instance {α : Type} [Py α] : Py (Tp α) where
  py x := .tuple (x.l.map Py.py)
  dep := Py.dep α + 1
  lay x := by
    rw [PyData.canLay0]
    exact layA fun p hp => by
      obtain ⟨a, _, rfl⟩ := List.mem_map.mp hp
      exact Py.lay a
  depth x := by
    rw [PyData.depth]
    have := depA (l := x.l.map Py.py) (n := Py.dep α) fun p hp => by
      obtain ⟨a, _, rfl⟩ := List.mem_map.mp hp
      exact Py.depth a
    omega
  eqv x y := by
    rw [PyData.eqv, eqvA]
    obtain ⟨a⟩ := x
    obtain ⟨b⟩ := y
    simp
/-! walks of a list or a tuple -/
section
open PySem L2 PyProof.Rows
def iOr (a b : TI) : TI := fun σ H R => a σ H R ∨ b σ H R
theorem pi_or {X : Cx} {tg e : Expr} {a b : TI} (h1 : PI X tg e a) (h2 : PI X tg e b) : PI X tg e (iOr a b) :=
  ⟨fun pins s σ H R I h => h.elim (h1.run pins s σ H R I) (h2.run pins s σ H R I)⟩
/-- enumerate of a list or a tuple -/
def iEnA (m : ME) : Sl → Res (List D) := fun st => match m st with
  | .ok (.tup _) _ => iEnT m st
  | _ => iEn m st
/-- a list or a tuple -/
def iEA (m : ME) : Sl → Res (List D) := fun st => match m st with
  | .ok (.tup _) _ => iE m tupItems st
  | _ => iE m lstItems st
variable {ca : Nat → Addr} {X : Cx}
theorem ci_or {tg e : Expr} {a b : TI} {A B C : Sl → Res (List D)} (h1 : CI ca X tg e a A) (h2 : CI ca X tg e b B) (hc : ∀ st, C st = A st ∨ C st = B st) : CI ca X tg e (iOr a b) C :=
  ⟨pi_or h1.1 h2.1, fun Hf H R σ st Q p h => by
    rcases hc st with q | q
    · exact .inl (h1.2 Hf H R σ st Q p (q ▸ h))
    · exact .inr (h2.2 Hf H R σ st Q p (q ▸ h))⟩
theorem iEnA_or (m : ME) (st : Sl) : iEnA m st = iEn m st ∨ iEnA m st = iEnT m st := by
  unfold iEnA
  split
  · exact .inr rfl
  · exact .inl rfl
end
end DL

/-! DL41: method calls, starred calls, short loops evaluated; lists of lists; steps far apart. -/
namespace DL
open PySem (Str)
theorem xMth {C : Nat} {nm : Str} {f : MF} {m0 : ME} {ms : MA} {st st1 st2 : Sl} {d0 d : D} {ds : List D} {ps : Sl} (h0 : m0 st = .ok d0 st1) (hi : insOf C nm d0 = true) (h : ms st1 = .ok ds st2) (hf : f (d0 :: ds) = .ok d ps) : eMth C nm f m0 ms st = .ok d st2 := by
  unfold eMth
  rw [h0]
  show (if insOf C nm d0 = true then _ else _) = _
  rw [if_pos hi, h]
  show (match f (d0 :: ds) with | .ok d _ => Res.ok d st2 | .exc x _ => .exc x st2 | .fail => .fail) = _
  rw [hf]
theorem mStar_ok {n : Nat} {m : MF} {ds : List D} {d : D} {ps : Sl} (hn : n ≤ ds.length) (hl : ds.length ≤ 16777216) (h : m (ds.take n ++ [.tup (frzL (ds.drop n))]) = .ok d ps) : mStar n m ds = .ok d (ps.take n ++ List.replicate (ds.length - n) none) := by
  unfold mStar
  rw [if_pos ⟨hn, hl⟩, h]
theorem forD_cons {g : MG} {body : MS} {d : D} {ds : List D} {st st1 st2 : Sl} {r : SR} (h1 : g d st = .ok () st1) (h2 : body st1 = .next st2) (h3 : forD g body ds st2 = r) : forD g body (d :: ds) st = r := by
  rw [forD, h1]
  show (match body st1 with | .next st2 => _ | .cont st2 => _ | .brk st2 => _ | r => r) = _
  rw [h2]
  exact h3
theorem repr_bl (b : Bool) : oRepr [.bl b] = some (.val (.str (if b then "True" else "False"))) := by cases b <;> rfl
end DL
namespace Nw
open DL
/-- steps far apart -/
theorem far1 {l : List Int} {s t : Int} (h1 : 1 ≤ s) (h2 : s + 2 ≤ t) (h3 : t < l.length) : stp (stp l s) t = stp (stp l t) s := by
  have a := sN_comm (l := l) (i := (s - 1).toNat) (j := (t - 1).toNat) (by omega) (by omega) (by omega)
  unfold sN at a
  rw [show (((s - 1).toNat : Nat) : Int) + 1 = s by omega, show (((t - 1).toNat : Nat) : Int) + 1 = t by omega] at a
  exact a
theorem far2 : ∀ (a : List Int) {t : Int} (l : List Int), (∀ s ∈ a, 1 ≤ s ∧ s + 2 ≤ t) → t < l.length → runL a (stp l t) = stp (runL a l) t
  | [], _, _, _, _ => rfl
  | s :: a, t, l, h, ht => by
    show runL a (stp (stp l t) s) = stp (runL a (stp l s)) t
    obtain ⟨h1, h2⟩ := h s List.mem_cons_self
    rw [← far1 h1 h2 ht]
    exact far2 a (stp l s) (fun x hx => h x (List.mem_cons_of_mem _ hx)) (by rw [stp_len]; exact ht)
theorem far : ∀ (b a l : List Int), (∀ s ∈ a, ∀ t ∈ b, 1 ≤ s ∧ s + 2 ≤ t) → (∀ t ∈ b, t < l.length) → runL a (runL b l) = runL b (runL a l)
  | [], _, _, _, _ => rfl
  | t :: b, a, l, h, hl => by
    show runL a (runL b (stp l t)) = runL b (stp (runL a l) t)
    rw [far b a (stp l t) (fun s hs x hx => h s hs x (List.mem_cons_of_mem _ hx)) (fun x hx => by rw [stp_len]; exact hl x (List.mem_cons_of_mem _ hx)), far2 a l (fun s hs => h s hs t List.mem_cons_self) (hl t List.mem_cons_self)]
end Nw

/-! DL42: xs.extend(tuple). -/
namespace DL
open PySem PySem.Spec PyProof.Rows L2
open AutoSeq1 (wpAny_loadPart')
def ext2T : Option D → D → Option (List D)
  | some (.lst true xs), .tup ys => if colds ys && decide (xs.length + ys.length ≤ 16777216) then some (xs ++ ys) else none
  | _, _ => none
/-- xs.extend(tuple) -/
def eExtT (i : Nat) (m : ME) : ME := fun st => match getS st i with
  | some d0 => if isLst d0 then (m st).bind fun d st1 => (match ext2T (getS st1 i) d with
    | some zs => .ok .non (st1.set i (some (.lst true zs)))
    | none => .fail) else .fail
  | none => .fail
section
variable {ca : Nat → Addr} {K : PySem.W.Frag} {Hf H Hf1 H1 Hf2 H2 : Hp} {S S1 S2 P P1 P2 : Rg} {R R1 R2 : Nat → Rg} {σ : L2.St} {st : Sl} {X : Cx}
end
theorem xExtT {i : Nat} {m : ME} {st st1 st' : Sl} {a : D} {xs ys : List Int} (h0 : getS st i = some a) (hl : isLst a = true) (h : m st = .ok (.tup (nums ys)) st1) (h2 : getS st1 i = some (.lst true (nums xs))) (hn : xs.length + ys.length ≤ 16777216) (hs : st1.set i (some (.lst true (nums (xs ++ ys)))) = st') : eExtT i m st = .ok .non st' := by
  unfold eExtT
  rw [h0]
  dsimp only
  rw [if_pos hl, h]
  dsimp only [Res.bind]
  rw [h2]
  have e : ext2T (some (.lst true (nums xs))) (.tup (nums ys)) = some (nums (xs ++ ys)) := by
    unfold ext2T
    dsimp only
    rw [nums_colds, nums_len, nums_len, decide_eq_true hn, nums_app]
    rfl
  rw [e, ← hs]
end DL

/-! DL43: enumerate(list, k). -/
namespace DL
open PySem L2 PyProof.Rows
open Sem (wp)
structure EkAt (k : Nat) (a e it : Addr) (i : Nat) (h : Heap) : Prop where
  en : ∃ old, IsEnum h e it ((k + i : Nat) : Int) old
  iter : h.IsListIter it a i
  n1 : e ≠ it
  n2 : e ≠ a
  n3 : a ≠ it
section
variable {pr : Program} {wo : World} {Ar : Around} {Ex' : Value → Shared → Prop} {st : Shared}
end
section
variable {ca : Nat → Addr} {K : PySem.W.Frag} {Hf H : Hp} {vs : List V} {ds : List D} {X : Cx}
end
end DL

/-! DL44: how many small numbers stand in front; one list in front of another; steps left out. -/
namespace Nw
end Nw

/-! DL45: loops that look for something and return at once. -/
namespace DL
theorem rangeD_mem {a : Int} {n : Nat} {d : D} (h : d ∈ rangeD a n) : ∃ i : Nat, i < n ∧ d = .int (a + i) := by
  obtain ⟨i, e⟩ := List.getElem?_of_mem h
  obtain ⟨h1, h2⟩ := rangeD_get e
  exact ⟨i, h1, h2⟩
end DL

/-! DL46: a tuple target in a comprehension. -/
namespace DL
open PySem L2 PyProof.Rows
theorem cg_tupB {ca : Nat → Addr} {X : Cx} {scope : Scope} {s : Shared} {H : Hp} {C : Addr} {cl : List (Str × Addr)} {fp : List Addr} {L : List Nat} {es : List Expr} {k : Nat} {pos : Pos} {t : TGs} {gs : List MG} {n : Nat} (hc : (bk X scope s H C cl fp).calm = true) (h : CGs ca (bk X scope s H C cl fp) L es t gs) (hl : gs.length = n)
    (hn : (assignEach es (bk X scope s H C cl fp).env).length = n := by rfl) (hst : (assignEach es (bk X scope s H C cl fp).env).findIdx? (·.1) = none := by rfl) : CG ca (bk X scope s H C cl fp) L (.Tuple es k pos) (gTup X.K n t) (gT gs) := cg_tup hc h hl hn hst
end DL

/-! DL47: the text of nested data of numbers, truth values, None. -/
namespace DL
open PySem (Str PyData)
mutual
/-- no texts, no dicts, numbers of at most 25 digits -/
def sml : PyData → Bool
  | .none => true
  | .bool _ => true
  | .int i => decide (i.natAbs < 10 ^ 25)
  | .str _ => false
  | .list xs => smlA xs
  | .tuple xs => smlA xs
  | .dict _ => false
def smlA : List PyData → Bool
  | [] => true
  | x :: xs => sml x && smlA xs
end
def cpsOk (x : Str) : Bool := x.cps.all (· < 0x110000)
theorem cps_app {x y : Str} (h : cpsOk x = true) (h2 : cpsOk y = true) : cpsOk (x ++ y) = true := by
  unfold cpsOk at *
  show (x.cps ++ y.cps).all _ = true
  rw [Array.all_append, h, h2]
  rfl
theorem cps_str (s : String) : cpsOk (Str.ofString s) = true := by
  unfold cpsOk
  rw [Str.ofString_eq_toList]
  simp only [List.all_toArray, List.all_map, List.all_eq_true, Function.comp, decide_eq_true_eq]
  intro c _
  have := c.valid
  show c.val.toNat < 0x110000
  rcases this with h | h
  · have : c.val.toNat < 0xd800 := h
    omega
  · exact h.2
theorem cps_from : ∀ (ts : List Str) (k : Nat) (acc : Str), cpsOk acc = true → (∀ t ∈ ts, cpsOk t = true) → cpsOk (PySem.textFrom k acc ts) = true
  | [], _, _, h, _ => h
  | t :: ts, k, acc, h, hs => cps_from ts (k + 1) _ (cps_app (cps_app h (cps_str _)) (hs t List.mem_cons_self)) fun u hu => hs u (List.mem_cons_of_mem _ hu)
theorem cps_list {ts : List Str} (hs : ∀ t ∈ ts, cpsOk t = true) : cpsOk (PySem.listText ts) = true := cps_app (cps_from ts 0 _ (cps_str _) hs) (cps_str _)
theorem cps_join {sep : Str} (h : cpsOk sep = true) : ∀ {ts : List Str}, (∀ t ∈ ts, cpsOk t = true) → cpsOk (Str.join sep ts) = true
  | [], _ => cps_str ""
  | [x], hs => hs x List.mem_cons_self
  | x :: y :: r, hs => cps_app (cps_app (hs x List.mem_cons_self) h) (cps_join h fun t ht => hs t (List.mem_cons_of_mem _ ht))
theorem cps_tup {ts : List Str} (hs : ∀ t ∈ ts, cpsOk t = true) : cpsOk (PySem.tupleText ts) = true := cps_app (cps_app (cps_str _) (cps_join (cps_str _) hs)) (cps_str _)
mutual
theorem sml_cps : ∀ p : PyData, sml p = true → cpsOk p.shown = true
  | .none, _ => cps_str "None"
  | .bool b, _ => by cases b <;> exact cps_str _
  | .int i, _ => cps_str (toString i)
  | .str _, h => by rw [sml] at h; cases h
  | .list xs, h => by rw [sml] at h; rw [PyData.shown]; exact cps_list (smlA_cps xs h)
  | .tuple xs, h => by rw [sml] at h; rw [PyData.shown]; exact cps_tup (smlA_cps xs h)
  | .dict _, h => by rw [sml] at h; cases h
theorem smlA_cps : ∀ xs : List PyData, smlA xs = true → ∀ t ∈ PyData.shownAll xs, cpsOk t = true
  | [], _, t, ht => by rw [PyData.shownAll] at ht; cases ht
  | x :: xs, h, t, ht => by
    rw [smlA, Bool.and_eq_true] at h
    rw [PyData.shownAll] at ht
    rcases List.mem_cons.mp ht with rfl | ht
    · exact sml_cps x h.1
    · exact smlA_cps xs h.2 t ht
end
theorem log_small {n : Nat} (h : n < 10 ^ 25) : n.log2 < 84 := by
  by_cases h0 : n = 0
  · subst h0; decide
  · exact (Nat.log2_lt h0).mpr (Nat.lt_of_lt_of_le h (by decide))
theorem int_len {i : Int} (h : i.natAbs < 10 ^ 25) : (PyData.shown (.int i)).length ≤ 26 := by
  have e := PySem.int_text_length_le10 (k := 25) (by decide) h
  show (Str.ofString (toString i)).length ≤ 26
  rw [PySem.ofString_length]; exact e
mutual
theorem sml_all : ∀ p : PyData, sml p = true → p.canLay0 = true ∧ p.showable = true ∧ p.leavesShort 26 = true
  | .none, _ => ⟨rfl, rfl, rfl⟩
  | .bool _, _ => ⟨rfl, rfl, rfl⟩
  | .int i, h => by
    rw [sml, decide_eq_true_eq] at h
    refine ⟨rfl, ?_, ?_⟩
    · rw [PyData.showable, decide_eq_true_eq]
      have := log_small h
      omega
    · rw [PyData.leavesShort, decide_eq_true_eq]
      exact int_len h
  | .str _, h => by rw [sml] at h; cases h
  | .list xs, h => by rw [sml] at h; rw [PyData.canLay0, PyData.showable, PyData.leavesShort]; exact smlA_all xs h
  | .tuple xs, h => by rw [sml] at h; rw [PyData.canLay0, PyData.showable, PyData.leavesShort]; exact smlA_all xs h
  | .dict _, h => by rw [sml] at h; cases h
theorem smlA_all : ∀ xs : List PyData, smlA xs = true → PyData.canLayAll0 xs = true ∧ PyData.showableAll xs = true ∧ PyData.leavesShortAll 26 xs = true
  | [], _ => ⟨rfl, rfl, rfl⟩
  | x :: xs, h => by
    rw [smlA, Bool.and_eq_true] at h
    obtain ⟨a, b, c⟩ := sml_all x h.1
    obtain ⟨a2, b2, c2⟩ := smlA_all xs h.2
    rw [PyData.canLayAll0, PyData.showableAll, PyData.leavesShortAll, a, b, c, a2, b2, c2]
    exact ⟨rfl, rfl, rfl⟩
end
/-- data whose text is told: how heavy, how deep -/
structure Rp (p : PyData) : Prop where
  s : sml p = true
  w : p.weight ≤ 500000
  d : p.depth ≤ 60
theorem Rp.ok {p : PyData} (h : Rp p) : rpOk p = true := by
  obtain ⟨a, b, c⟩ := sml_all p h.s
  have l := PyData.shown_le 26 (by decide) p c
  have w := h.w
  have l2 : p.shown.length ≤ 16777216 := by omega
  unfold rpOk
  rw [a, b, PyData.hasDict_of_canLay p a, decide_eq_true (Nat.le_trans h.d (by decide)), decide_eq_true l2]
  rfl
theorem Rp.repr {x : D} {p : PyData} (h : Rp p) (e : toPy x = p) : oRepr [x] = some (.val (.str p.shown)) := by
  subst e
  show (if _ then _ else _) = _
  rw [if_pos h.ok]
theorem Rp.shaped {p : PyData} (h : Rp p) : PySem.SeqAt.shaped (toPy (.str p.shown)) = true := by
  rw [toPy]
  unfold PySem.SeqAt.shaped
  rw [PyData.canLay0, PyData.depth]
  have := sml_cps p h.s
  unfold cpsOk at this
  rw [show PyData.strOk p.shown = true from this]
  rfl
theorem Rp.ne {p : PyData} (h : Rp p) : f2 pNe [.str p.shown, .str p.shown] = some (.val (.bl false)) := by
  refine ne_of ?_
  unfold pNe
  rw [h.shaped, toPy, PyData.eqv]
  simp
theorem Rp.eq {p : PyData} (h : Rp p) : f2 pEq [.str p.shown, .str p.shown] = some (.val (.bl true)) := by
  refine eq_of ?_
  unfold pEq
  rw [h.shaped, toPy, PyData.eqv]
  simp
/-! lists of numbers and lists of such lists -/
theorem smlA_map {α : Type} {f : α → PyData} : ∀ {l : List α}, (∀ a ∈ l, sml (f a) = true) → smlA (l.map f) = true
  | [], _ => rfl
  | a :: l, h => by rw [List.map_cons, smlA, h a List.mem_cons_self, smlA_map fun b hb => h b (List.mem_cons_of_mem _ hb)]; rfl
theorem wA_map {α : Type} {f : α → PyData} {c : Nat} : ∀ {l : List α}, (∀ a ∈ l, (f a).weight ≤ c) → PyData.weightAll (l.map f) ≤ (c + 1) * l.length
  | [], _ => by rw [List.map_nil, PyData.weightAll]; omega
  | a :: l, h => by
    rw [List.map_cons, PyData.weightAll, List.length_cons, Nat.mul_succ]
    have h1 := h a List.mem_cons_self
    have h2 := wA_map fun b hb => h b (List.mem_cons_of_mem _ hb)
    omega
theorem w_int {i : Int} (h : i.natAbs < 10 ^ 25) : (PyData.int i).weight ≤ 84 := by
  rw [PyData.weight]
  have := log_small h
  split <;> omega
theorem rp_nums {l : List Int} (h : ∀ x ∈ l, x.natAbs < 10 ^ 25) (hl : l.length ≤ 5000) : Rp (Py.py l) := by
  refine ⟨?_, ?_, ?_⟩
  · show sml (.list (l.map .int)) = true
    rw [sml]
    exact smlA_map fun a ha => by rw [sml]; exact decide_eq_true (h a ha)
  · show (PyData.list (l.map .int)).weight ≤ 500000
    rw [PyData.weight]
    have := wA_map (f := PyData.int) (c := 84) (l := l) fun a ha => w_int (h a ha)
    omega
  · exact Nat.le_trans (Py.depth l) (by decide)
end DL

set_option maxHeartbeats 4000000
/-! DL48: try with several clauses; a caught exception is tracked from its clause on. -/
namespace DL
open PySem PySem.Spec PyProof.Rows L2
section
variable {X : Cx} {pins : List (Addr × Obj)} {σ : L2.St} {H : Hp} {sI s s' : Shared} {B : Heap} {a : Addr} {cls : Value} {d : Option Addr}
end

abbrev Cls1 := Value × Option Nat × (Addr → TS)
inductive HdC (X : Cx) : List ExceptHandler → List Cls1 → Prop
  | nil : HdC X [] []
  | plain {x : Str} {c : Value} {ts : Addr → TS} {b0 : Stmt} {body : List Stmt} {p1 p2 : Pos} {hds : List ExceptHandler} {l : List Cls1} (hc : Names X x c)
      (hb : ∀ a pn, PSs (X.suite a pn) (b0 :: body) (ts a)) (r : HdC X hds l) : HdC X (.ExceptHandler (some (.Name x p1)) none (b0 :: body) p2 :: hds) ((c, none, ts) :: l)
  | named {x n : Str} {i : Nat} {c : Value} {ts : Addr → TS} {b0 : Stmt} {body : List Stmt} {p1 p2 : Pos} {hds : List ExceptHandler} {l : List Cls1} (hc : Names X x c)
      (hi : X.N[i]? = some n) (hl : X.env.kindOf n = some .local)
      (hb : ∀ a pn, PSs (X.suite a pn) (b0 :: body) (ts a)) (r : HdC X hds l) : HdC X (.ExceptHandler (some (.Name x p1)) (some n) (b0 :: body) p2 :: hds) ((c, some i, ts) :: l)
section
variable {X : Cx} {body : List Stmt} {hd : ExceptHandler} {hds : List ExceptHandler} {l : List Cls1} {pos : Pos} {tb : WX → TS} {Wo : WX}
end
end DL

set_option maxHeartbeats 4000000
/-! DL49: exceptions of own classes: made, raised, caught. -/
namespace DL
open PySem PySem.Spec PyProof.Rows L2

/-! ### __init__ of an own exception class -/
section
variable {X : Cx} {p1 p2 pos : Pos}
end
section
variable {P : Program} {w : World} {K : PySem.W.Frag} {mg : Str → Option Value} {base : Heap}
end

/-! ### raise -/
section
variable {ca : Nat → Addr} {Hf H Hf1 H1 Hf2 H2 : Hp} {S P P1 P2 : Rg} {R R1 R2 : Nat → Rg} {σ : L2.St} {st : Sl} {v : V} {d : D} {vs : List V} {ds : List D} {X : Cx} {L : List Nat}
end
end DL

set_option maxHeartbeats 4000000
/-! DL50: try by data; what is asked of a caught exception. -/
namespace DL
open PySem PySem.Spec PyProof.Rows L2
/-- a clause: the classes it takes, its name's slot, its suite -/
structure Cl where
  t : Nat → Option Bool
  o : Option Nat
  m : MS
section
variable {ca : Nat → Addr} {K : PySem.W.Frag} {Hf H Hf1 H1 Hf2 H2 : Hp} {S P P1 P2 : Rg} {R R1 R2 : Nat → Rg} {pp : Prop} {σ : L2.St} {st : Sl} {v : V} {d : D} {vs : List V} {ds : List D} {X : Cx} {L : List Nat}
theorem tr_up {a : Addr} {o : HO} (n0 : Hf a = none) (hn : H a = none) : Tr S Hf H S (upd Hf a o) (upd H a o) := by
  refine ⟨fun b u q => upd_keep n0 b u q, fun b u q _ => upd_keep hn b u q, fun b q => .inl q, fun b u q => ?_⟩
  by_cases hb : b = a
  · subst hb
    exact .inr (.inr hn)
  · rw [upd_ne hb] at q
    exact .inl q
inductive CHs (ca : Nat → Addr) (X : Cx) (L : List Nat) : List ExceptHandler → List Cl → List Cls1 → Prop
  | nil : CHs ca X L [] [] []
  | plain {x : Str} {c : Value} {t : Nat → Option Bool} {m : MS} {b0 : Stmt} {body : List Stmt} {p1 p2 : Pos} {hds : List ExceptHandler} {l : List Cl} {l' : List Cls1} (hc : Names X x c)
      (ht : ∀ C b, t C = some b → PySem.W.exmOne X.K (.ref (ca C)) c = some b) (hb : ∀ a pn, CSs ca (X.suite a pn) L (b0 :: body) m) (r : CHs ca X L hds l l') :
      CHs ca X L (.ExceptHandler (some (.Name x p1)) none (b0 :: body) p2 :: hds) (⟨t, none, m⟩ :: l) ((c, none, fun a D σ H => ∀ pn, Wss (X.suite a pn) (b0 :: body) D σ H) :: l')
  | named {x n : Str} {i : Nat} {c : Value} {t : Nat → Option Bool} {m : MS} {b0 : Stmt} {body : List Stmt} {p1 p2 : Pos} {hds : List ExceptHandler} {l : List Cl} {l' : List Cls1} (hc : Names X x c)
      (hi : X.N[i]? = some n) (hl : X.env.kindOf n = some .local) (hL : i ∉ L)
      (ht : ∀ C b, t C = some b → PySem.W.exmOne X.K (.ref (ca C)) c = some b) (hb : ∀ a pn, CSs ca (X.suite a pn) L (b0 :: body) m) (r : CHs ca X L hds l l') :
      CHs ca X L (.ExceptHandler (some (.Name x p1)) (some n) (b0 :: body) p2 :: hds) (⟨t, some i, m⟩ :: l) ((c, some i, fun a D σ H => ∀ pn, Wss (X.suite a pn) (b0 :: body) D σ H) :: l')
theorem CHs.hd {hds : List ExceptHandler} {l : List Cl} {l' : List Cls1} (h : CHs ca X L hds l l') : HdC X hds l' := by
  induction h with
  | nil => exact .nil
  | plain hc ht hb r ih => exact .plain hc (fun a pn => ⟨fun pins s σ H D I h => h pn pins s I⟩) ih
  | named hc hi hl hL ht hb r ih => exact .named hc hi hl (fun a pn => ⟨fun pins s σ H D I h => h pn pins s I⟩) ih
/-- the exception is tracked -/
theorem PR.held {x : Xc} {cls : Value} {dd : Option Addr} {a : Addr} (p : PR ca K Hf H Em (XcR ca K Hf H cls dd x) R σ st) (na : H a = none) :
    PR ca K (upd Hf a (XcO a cls dd)) (upd H a (XcO a cls dd)) Em (Rep ca K (upd Hf a (XcO a cls dd)) (upd H a (XcO a cls dd)) Em (.ref a) (.xc x.C x.fs)) R σ st ∧ Tr (jn Em R) Hf H (jn Em R) (upd Hf a (XcO a cls dd)) (upd H a (XcO a cls dd)) := by
  obtain ⟨ec, b, fs, ed, e1, e2, kk, r⟩ := p.pend
  have p0 : PR ca K Hf H Em True R σ st := p.imp fun _ => trivial
  have n0 : Hf a = none := (wl_new (o := .xd []) p0.w na).2
  refine ⟨(p0.stand na).put ?_, tr_up n0 na⟩
  subst ec ed
  exact .xc upd_same (upd_keep n0 _ _ e2) kk (r.keep (fun b o q => upd_keep n0 b o q) fun _ q => q.elim)
/-! ### e.f, isinstance(e, C), of a tracked exception -/
/-- what the class says, for isinstance of its instances -/
structure XiC (K : PySem.W.Frag) (D : Addr) : Prop where
  hc : (PySem.W.clsIn K D).isSome = true
  hg : PySem.W.findIn K (.ref D) "__getattribute__" = some (some (.builtin "BaseException.__getattribute__"))
  hk : PySem.W.findIn K (.ref D) "__getattr__" = some none
  hs : PySem.W.subIn K (.ref D) (.type "BaseException") = some true
  ha : PySem.W.findIn K (.ref D) "__class__" = some (some (.builtin "object.__class__"))
  hn : PySem.W.specialIn K (.builtin "object.__class__") "__get__" = some (some (.builtin "getset_descriptor.__get__"))
  ht : PySem.W.takesIn K (.builtin "object.__class__") = some true
  hm : PySem.W.mroIn K D (.type "object") = some true
end
end DL

/-! DL51: facts of exception classes, names of the text's constants. -/
namespace DL
open PySem PySem.Spec PyProof.Rows L2
section
variable {K : PySem.W.Frag} {C D : Addr} {b : Bool}
theorem kit_ref (h1 : PySem.W.isClsIn K D = true) (h2 : PySem.W.typeIn K (.ref D) = some (.type "type")) (h3 : PySem.W.subIn K (.ref C) (.ref D) = some b) (hne : b = false → (Value.ref C == Value.ref D) = false) :
    PySem.W.kitOne K (.ref C) (.ref D) = some b := by
  have e2 : (PySem.W.clsIn K D).isSome = true := h1
  have e3 : PySem.W.kitCls K (.ref C) (.ref D) = some b := by
    show (if ((PySem.W.clsIn K D).isSome && PySem.W.typeIn K (.ref D) == some (.type "type")) = true then
      PySem.W.subIn K (.ref C) (.ref D) else none) = some b
    rw [e2, h2]
    exact (if_pos (by simp)).trans h3
  show (if (Value.ref C == Value.ref D) = true then some true else PySem.W.kitCls K (.ref C) (.ref D)) = some b
  cases b with
  | true =>
    by_cases h : (Value.ref C == Value.ref D) = true
    · rw [if_pos h]
    · rw [if_neg h, e3]
  | false =>
    rw [hne rfl, e3] <;> rfl
end
section
variable {ca : Nat → Addr} {X : Cx} {v : V} {d : D}
/-- a name of the module that stands for a number or a text -/
theorem ce_glob {x : Str} {u : Value} {p : Pos} (hg : Gl X x) (hm : X.mg x = some u) (r : RelV v u) (rd : ∀ Hf H, Rep ca X.K Hf H Em v d) (hd : (x == ("__debug__" : Str)) = false := by decide) : CE ca X (.Name x p) (eC d) := ce_c (pe_glob hg hm r hd) rd
end
end DL

/-! DL52: ascending lists; the descending list decides whether all is sorted. -/
namespace Nw
open DL
def bits (b : List Int) : Prop := ∀ x ∈ b, x = 0 ∨ x = 1
/-! ### numbers as rows of bits -/
end Nw

/-! DL53: more evaluation: loops as folds, pairs of neighbours, rows of bits. -/
namespace DL
open PySem (Str)
open Nw
/-- a loop that only keeps an invariant -/
theorem forD_inv {g : MG} {body : MS} (I : Sl → Prop) : ∀ (ds : List D) (st : Sl), I st →
    (∀ d st, d ∈ ds → I st → ∃ st1 st2, g d st = .ok () st1 ∧ body st1 = .next st2 ∧ I st2) → ∃ st', forD g body ds st = .next st' ∧ I st'
  | [], st, h, _ => ⟨st, rfl, h⟩
  | d :: ds, st, h, step => by
    obtain ⟨s1, s2, e1, e2, h2⟩ := step d st List.mem_cons_self h
    obtain ⟨st', e, h3⟩ := forD_inv I ds s2 h2 fun d st hy => step d st (List.mem_cons_of_mem _ hy)
    exact ⟨st', forD_cons e1 e2 e, h3⟩
/-- a comprehension with two names -/
theorem comp_go2 {α : Type} {g : MG} {t : MT} {e : ME} {i j : Nat} {st : Sl} (enc φ : α → D) (p : α → Bool) : ∀ (l : List α) (acc : List D),
    (∀ x ∈ l, ∃ s1 s2, g (enc x) st = .ok () s1 ∧ t s1 = .ok (p x) s2 ∧ (p x = false → wipeS s2 [i, j] = st) ∧ (p x = true → ∃ s3, e s2 = .ok (φ x) s3 ∧ wipeS s3 [i, j] = st)) → acc.length + l.length ≤ 16777216 →
    compD g t e [i, j] (l.map enc) st acc = .ok (acc ++ (l.filter p).map φ) st := fun l acc h hl => by
  obtain ⟨acc', st', e1, h1, h2⟩ := compD_ok (g := g) (t := t) (e := e) (vs := [i, j]) (fun n s a => s = st ∧ a = acc ++ ((l.take n).filter p).map φ) (l.map enc) 0 st acc ⟨rfl, by simp⟩ (fun n d s a en hI => by
    obtain ⟨rfl, rfl⟩ := hI
    rw [List.getElem?_map] at en
    cases ex : l[n]? with
    | none => rw [ex] at en; cases en
    | some x =>
      rw [ex] at en
      cases en
      rw [Nat.zero_add]
      have hx : x ∈ l := List.mem_of_getElem? ex
      have tk : l.take (n + 1) = l.take n ++ [x] := by rw [List.take_succ, ex]; rfl
      obtain ⟨s1, s2, q1, q2, q3, q4⟩ := h x hx
      refine ⟨s1, p x, s2, q1, q2, fun hp => ⟨q3 hp, ?_⟩, fun hp => ?_⟩
      · rw [tk, List.filter_append]
        simp [hp]
      · obtain ⟨s3, q5, q6⟩ := q4 hp
        refine ⟨?_, φ x, s3, q5, q6, ?_⟩
        · have : ((l.take n).filter p).length ≤ (l.take n).length := List.length_filter_le _ _
          rw [List.length_take] at this
          have hn : n < l.length := (List.getElem?_eq_some_iff.mp ex).1
          rw [List.length_append, List.length_map]
          omega
        · rw [tk, List.filter_append]
          simp [hp])
  rw [Nat.zero_add, List.length_map, List.take_length] at h2
  rw [e1, h1, h2]
theorem xLc2n {α : Type} {g : MG} {t : MT} {e : ME} {i j : Nat} {st st1 st2 : Sl} {src : Sl → Res (List D)} (enc φ : α → D) (p : α → Bool) (l : List α) {ds out : List D} (hs : src st = .ok ds st1) (hd : ds = l.map enc) (hl : l.length ≤ 16777216) (hw : wipeS st1 [i, j] = st2)
    (h : ∀ x ∈ l, ∃ s1 s2, g (enc x) st2 = .ok () s1 ∧ t s1 = .ok (p x) s2 ∧ (p x = false → wipeS s2 [i, j] = st2) ∧ (p x = true → ∃ s3, e s2 = .ok (φ x) s3 ∧ wipeS s3 [i, j] = st2)) (ho : (l.filter p).map φ = out) :
    eLc src g t e [i, j] st = .ok (.lst true out) st2 := by
  subst hd ho
  refine eLc_v hs ?_
  rw [hw, comp_go2 enc φ p l [] h (by rw [List.length_nil, Nat.zero_add]; exact hl)]
  rfl
/-! ### ascending -/
/-- the places where a greater number stands to the left -/
def falls (l : List Int) : List Int := ((List.range (l.length - 1)).map fun (i : Nat) => (1 : Int) + i).filter fun p => decide (l.getD p.toNat 0 < l.getD (p - 1).toNat 0)
end DL

set_option maxHeartbeats 4000000
/-! DL54: a list in a slot is walked where it stands. -/
namespace DL
open PySem PySem.Spec PyProof.Rows L2
section
variable {ca : Nat → Addr} {K : PySem.W.Frag} {Hf H Hf1 H1 Hf2 H2 : Hp} {S S1 S2 P P1 P2 : Rg} {R R1 R2 : Nat → Rg} {pp qq : Prop} {σ σ' : L2.St} {st st' : Sl} {v : V} {d : D} {vs : List V} {ds : List D} {X : Cx} {L : List Nat}
/-- the list that stands in the slot -/
theorem PR.here {i0 : Nat} {o : Bool} {xs : List D} (p : PR ca K Hf H P pp R σ st) (h : getS st i0 = some (.lst o xs)) : ∃ a vs T, σ[i0]? = some (some (.ref a)) ∧ SqL K H a vs ∧ RepL ca K Hf H T vs xs := by
  obtain ⟨v, e, r⟩ := p.at_ i0 _ h
  obtain ⟨a, vs, T, rfl, e2, r2⟩ := rep_lst p.w.ex r
  exact ⟨a, vs, T, e, .inl (.inl e2), r2⟩
end
end DL

/-! DL55: walks of a list where it stands, evaluated. -/
namespace DL
open PySem (Str)
open Nw
end DL

/-! DL56: lists that differ are told apart by a bound; a step left out; enumerations. -/
namespace Nw
open DL
/-- a step left out -/
def dropAt (i : Nat) (l : List Int) : List Int := l.take i ++ l.drop (i + 1)
theorem dropAt_ok {w : Int} {l : List Int} (h : okS w l) (i : Nat) : okS w (dropAt i l) := fun s hs => by
  rcases List.mem_append.mp hs with hs | hs
  · exact h s (List.mem_of_mem_take hs)
  · exact h s (List.mem_of_mem_drop hs)
end Nw
namespace DL
open Nw
theorem wEnT {m : ME} {st st1 : Sl} {ds : List D} (h : m st = .ok (.tup ds) st1) (hc : colds ds = true) : iEnT m st = .ok (enumD 0 ds) st1 := by
  unfold iEnT
  rw [h]
  dsimp only [Res.bind, tupItems]
  rw [if_pos hc]
end DL

/-! DL57: domination by the profile's counts; powers. -/
namespace Nw
open DL
end Nw

/-! DL58: powers of a network. -/
namespace Nw
open DL
end Nw
namespace DL
end DL

/-! DL59: how soon a power is stable. -/
namespace Nw
open DL
end Nw

set_option maxHeartbeats 4000000
/-! DL60: xs.pop(), xs.reverse(), xs.clear() of a slot's own list. -/
namespace DL
open PySem PySem.Spec PyProof.Rows L2
def fPop (xs : List D) : Option (D × List D) := if colds xs then (xs[xs.length - 1]?).map fun d => (d, xs.dropLast) else none
/-- the method's reading serves f -/
def M0S (ca : Nat → Addr) (K : PySem.W.Frag) (r : V → List V → Hp → VK → Prop) (f : List D → Option (D × List D)) : Prop := ∀ (Hf H : Hp) (S : Rg) (a : Addr) (vs : List V) (xs : List D) (d : D) (ys : List D), RepL ca K Hf H S vs xs → H a = some (.lst vs) → f xs = some (d, ys) →
  ∃ v ws, RepL ca K Hf H S ws ys ∧ (∀ Hf' H', Ex Hf Hf' → (∀ b o, b ≠ a → H b = some o → H' b = some o) → Rep ca K Hf' H' Em v d) ∧ ∀ Q : VK, Q v (upd H a (.lst ws)) → r (.ref a) [] H Q
section
variable {ca : Nat → Addr} {K : PySem.W.Frag} {Hf H : Hp} {R : Nat → Rg} {σ : L2.St} {st : Sl} {v : V} {d : D} {vs : List V} {ds xs : List D} {X : Cx} {S T : Rg}
theorem repL_last : ∀ {xs : List D} {vs : List V} {S : Rg}, RepL ca K Hf H S vs xs → RepL ca K Hf H S vs.dropLast xs.dropLast
  | [], _, _, r => by cases r; exact .nil
  | [x], _, _, r => by
    cases r with
    | cons r1 r2 _ _ _ =>
      cases r2
      exact .nil
  | x :: y :: xs, _, _, .cons r1 r2 h1 h2 h3 => by
    cases r2 with
    | cons r3 r4 h4 h5 h6 => exact .cons r1 (repL_last (.cons r3 r4 h4 h5 h6)) h1 h2 h3
theorem m0_pop : M0S ca K rPop fPop := fun Hf H S a vs xs d ys r e h => by
  unfold fPop at h
  by_cases hc : colds xs = true
  · rw [if_pos hc] at h
    cases el : xs[xs.length - 1]? with
    | none => rw [el] at h; cases h
    | some d0 =>
      rw [el] at h
      cases h
      obtain ⟨v, T, ev, rv, _⟩ := repL_at r el
      have rv' := (repL_at (repL_cold0 r hc) el)
      obtain ⟨v2, T2, ev2, rv2, sub⟩ := rv'
      rw [ev] at ev2
      cases ev2
      have rE : Rep ca K Hf H Em v d := rv2.mono sub
      refine ⟨v, vs.dropLast, repL_last r, fun Hf' H' x k => rE.keep x fun b q => q.elim, fun Q q => ⟨a, vs, v, rfl, rfl, e, by rw [r.length]; exact ev, q⟩⟩
  · rw [if_neg hc] at h; cases h
end
end DL

/-! DL61: the parts between places whose step does not occur, sorted. -/
namespace Nw
open DL
/-- the places from L + 1 to m -/
def rg (L m : Nat) : List Int := (List.range (m - L)).map fun (i : Nat) => (L : Int) + 1 + (i : Int)
end Nw
namespace DL
open Nw
end DL

set_option maxHeartbeats 4000000
/-! DL62: enumerate of a slot's list, where it stands, in a comprehension. -/
namespace DL
open PySem PySem.Spec PyProof.Rows L2
section
variable {ca : Nat → Addr} {K : PySem.W.Frag} {Hf H Hf1 H1 Hf2 H2 : Hp} {S S1 S2 P P1 P2 : Rg} {R R1 R2 : Nat → Rg} {pp qq : Prop} {σ σ' : L2.St} {st st' : Sl} {v : V} {d : D} {vs : List V} {ds : List D} {X : Cx} {L : List Nat}
end
end DL

/-! DL63: the steps walked backwards from the ascending list; the hardest list. -/
namespace Nw
open DL
def lit (l : List Int) (s : Int) : Bool := decide (l.getD (s - 1).toNat 0 < l.getD s.toNat 0)
/-! ### the ascending list -/
def asc (w : Nat) : List Int := (List.range w).map fun (i : Nat) => (1 : Int) + i
end Nw

/-! DL64: enumerate of a slot's list, evaluated. -/
namespace DL
open PySem (Str)
open Nw
end DL

/-! DL65: in, not in, for nested data; the counts of a network and of its hardest list. -/
namespace DL
open PySem PySem.Spec PyProof.Rows L2
section
variable {ca : Nat → Addr} {K : PySem.W.Frag} {Hf H : Hp} {X : Cx}
end
end DL
namespace Nw
open DL
end Nw

/-! DL66: all arrangements; all choices of steps. -/
namespace Nw
open DL
end Nw

set_option maxHeartbeats 4000000
/-! DL67: dict comprehensions of plain values, d[k]. -/
namespace DL
open PySem PySem.Spec PyProof.Rows L2
def valD (kvs : List (Key × D)) (k : Key) : Option D := (kvs.find? fun kv => decide (kv.1 = k)).map (·.2)
section
variable {ca : Nat → Addr} {K : PySem.W.Frag} {Hf H Hf1 H1 Hf2 H2 : Hp} {S S1 S2 P P1 P2 : Rg} {R R1 R2 : Nat → Rg} {pp qq : Prop} {σ σ' : L2.St} {st st' : Sl} {v : V} {d : D} {vs : List V} {ds : List D} {X : Cx} {L : List Nat}
/-- the new dict, beside all -/
structure AccD (ca : Nat → Addr) (K : PySem.W.Frag) (Hf H : Hp) (Dl : Addr) (acc : List (Key × D)) (R : Nat → Rg) (σ : L2.St) (st : Sl) : Prop where
  pr : PR ca K Hf H (fun b => b = Dl ∨ Em b) (∃ kvs : List (Key × V), H Dl = some (.dK kvs) ∧ kvs.map (·.1) = acc.map (·.1) ∧ RepL ca K Hf H Em (kvs.map (·.2)) (acc.map (·.2))) R σ st
end
end DL

/-! DL68: pairs in their order: the resolved pairs; places as a dict. -/
namespace Nw
open DL
/-- the smaller number stands to the left -/
def res (l : List Int) (p : Int × Int) : Bool := decide (l.idxOf p.1 < l.idxOf p.2)
end Nw
namespace DL
open Nw
end DL

/-! DL69: name = [.. for .. for ..]. -/
namespace DL
open PySem PySem.Spec PyProof.Rows L2
section
variable {ca : Nat → Addr} {X : Cx} {L : List Nat}
end
end DL

/-! DL70: sorting by passes; the steps that are missing; networks read backwards. -/
namespace Nw
open DL
def pass (w : Nat) : List Int := (List.range (w - 1)).map fun (i : Nat) => (1 : Int) + (i : Int)
def passes (w : Nat) : Nat → List Int
  | 0 => []
  | n + 1 => passes w n ++ pass w
/-- the steps that passes take -/
def between (w : Nat) (l : List Int) : List Int := actS (passes w w) l
/-! ### read backwards -/
def comp (w : Nat) (l : List Int) : List Int := l.map fun x => (w : Int) + 1 - x
end Nw

/-! DL71: the full network. -/
namespace Nw
open DL
end Nw

/-! DL72: numbers named by their places in another list. -/
namespace Nw
open DL
end Nw
namespace DL
end DL

/-! DL73: networks read backwards: lengths; what completes. -/
namespace Nw
open DL
end Nw

/-! DL74: mirror images. -/
namespace Nw
open DL
/-- read from the right, with opposite signs -/
def turn (l : List Int) : List Int := l.reverse.map fun x => -x
end Nw

/-! DL75: words of exchanges as permutations of places. -/
namespace Nw
open DL
end Nw

/-! DL76: the mirror image's profile; its resolved pairs. -/
namespace Nw
open DL
end Nw

/-! DL77: the mirror image's profile and rest. -/
namespace Nw
open DL
end Nw

set_option maxHeartbeats 4000000
/-! DL78: sorted(set(a list of whole numbers)), fewer than 64 of them. -/
namespace DL
open PySem PySem.Spec PyProof.Rows L2
section
variable {P : Program} {w : World} {A : Around} {E : Value → Shared → Prop} {s : Shared}
end
end DL

set_option maxHeartbeats 1000000
/-! DL79: x, *xs = a tuple. -/
namespace DL
open PySem PySem.Spec PyProof.Rows L2
section
variable {ca : Nat → Addr} {X : Cx} {L : List Nat}
end
end DL

/-! DL80: == and != that only ask the lengths: with an empty list or tuple, or lists of two lengths. -/
namespace DL
open PySem PySem.Spec PyProof.Rows L2 SeqAt
section
variable {X : Cx}
end
section
variable {ca : Nat → Addr} {K : PySem.W.Frag}
end
end DL

/-! DL81: the rest between two results: it acts fully, it leads from the one to the other, and it is the only one of its length. -/
namespace Nw
open DL
end Nw

/-! DL82: a comprehension whose test and item may freeze what the slots hold. -/
namespace DL
end DL
namespace Nw
end Nw

/-! DL83: a, b, c = x, y, z of things that nobody owns. -/
namespace DL
open PySem L2 PyProof.Rows
section
variable {ca : Nat → Addr} {X : Cx} {L : List Nat}
end
end DL

/-! DL84: the steps that are taken back from the end, until a given result is reached: with the places of these steps. -/
namespace Nw
open DL
end Nw

/-! DL85: the text of nested data in which short texts stand, too. -/
namespace DL
open PySem (Str PyData)
/-- a short text of a program -/
def okT (x : Str) : Bool := cpsOk (PyData.shown (.str x)) && (PyData.str x).canLay0 && (PyData.str x).showable && (PyData.str x).leavesShort 26
mutual
/-- short texts, no dicts, numbers of at most 25 digits -/
def smt : PyData → Bool
  | .none => true
  | .bool _ => true
  | .int i => decide (i.natAbs < 10 ^ 25)
  | .str x => okT x
  | .list xs => smtA xs
  | .tuple xs => smtA xs
  | .dict _ => false
def smtA : List PyData → Bool
  | [] => true
  | x :: xs => smt x && smtA xs
end
mutual
theorem smt_cps : ∀ p : PyData, smt p = true → cpsOk p.shown = true
  | .none, _ => cps_str "None"
  | .bool b, _ => by cases b <;> exact cps_str _
  | .int i, _ => cps_str (toString i)
  | .str _, h => by
    rw [smt, okT, Bool.and_eq_true, Bool.and_eq_true, Bool.and_eq_true] at h
    exact h.1.1.1
  | .list xs, h => by rw [smt] at h; rw [PyData.shown]; exact cps_list (smtA_cps xs h)
  | .tuple xs, h => by rw [smt] at h; rw [PyData.shown]; exact cps_tup (smtA_cps xs h)
  | .dict _, h => by rw [smt] at h; cases h
theorem smtA_cps : ∀ xs : List PyData, smtA xs = true → ∀ t ∈ PyData.shownAll xs, cpsOk t = true
  | [], _, t, ht => by rw [PyData.shownAll] at ht; cases ht
  | x :: xs, h, t, ht => by
    rw [smtA, Bool.and_eq_true] at h
    rw [PyData.shownAll] at ht
    rcases List.mem_cons.mp ht with rfl | ht
    · exact smt_cps x h.1
    · exact smtA_cps xs h.2 t ht
end
mutual
theorem smt_all : ∀ p : PyData, smt p = true → p.canLay0 = true ∧ p.showable = true ∧ p.leavesShort 26 = true
  | .none, _ => ⟨rfl, rfl, rfl⟩
  | .bool _, _ => ⟨rfl, rfl, rfl⟩
  | .int i, h => by
    rw [smt, decide_eq_true_eq] at h
    refine ⟨rfl, ?_, ?_⟩
    · rw [PyData.showable, decide_eq_true_eq]
      have := log_small h
      omega
    · rw [PyData.leavesShort, decide_eq_true_eq]
      exact int_len h
  | .str _, h => by
    rw [smt, okT, Bool.and_eq_true, Bool.and_eq_true, Bool.and_eq_true] at h
    exact ⟨h.1.1.2, h.1.2, h.2⟩
  | .list xs, h => by rw [smt] at h; rw [PyData.canLay0, PyData.showable, PyData.leavesShort]; exact smtA_all xs h
  | .tuple xs, h => by rw [smt] at h; rw [PyData.canLay0, PyData.showable, PyData.leavesShort]; exact smtA_all xs h
  | .dict _, h => by rw [smt] at h; cases h
theorem smtA_all : ∀ xs : List PyData, smtA xs = true → PyData.canLayAll0 xs = true ∧ PyData.showableAll xs = true ∧ PyData.leavesShortAll 26 xs = true
  | [], _ => ⟨rfl, rfl, rfl⟩
  | x :: xs, h => by
    rw [smtA, Bool.and_eq_true] at h
    obtain ⟨a, b, c⟩ := smt_all x h.1
    obtain ⟨a2, b2, c2⟩ := smtA_all xs h.2
    rw [PyData.canLayAll0, PyData.showableAll, PyData.leavesShortAll, a, b, c, a2, b2, c2]
    exact ⟨rfl, rfl, rfl⟩
end
/-- data whose text is told: how heavy, how deep -/
structure Rq (p : PyData) : Prop where
  s : smt p = true
  w : p.weight ≤ 500000
  d : p.depth ≤ 60
theorem Rq.ok {p : PyData} (h : Rq p) : rpOk p = true := by
  obtain ⟨a, b, c⟩ := smt_all p h.s
  have l := PyData.shown_le 26 (by decide) p c
  have w := h.w
  have l2 : p.shown.length ≤ 16777216 := by omega
  unfold rpOk
  rw [a, b, PyData.hasDict_of_canLay p a, decide_eq_true (Nat.le_trans h.d (by decide)), decide_eq_true l2]
  rfl
theorem Rq.repr {x : D} {p : PyData} (h : Rq p) (e : toPy x = p) : oRepr [x] = some (.val (.str p.shown)) := by
  subst e
  show (if _ then _ else _) = _
  rw [if_pos h.ok]
theorem Rq.shaped {p : PyData} (h : Rq p) : PySem.SeqAt.shaped (toPy (.str p.shown)) = true := by
  rw [toPy]
  unfold PySem.SeqAt.shaped
  rw [PyData.canLay0, PyData.depth]
  have := smt_cps p h.s
  unfold cpsOk at this
  rw [show PyData.strOk p.shown = true from this]
  rfl
theorem Rq.ne {p : PyData} (h : Rq p) : f2 pNe [.str p.shown, .str p.shown] = some (.val (.bl false)) := by
  refine ne_of ?_
  unfold pNe
  rw [h.shaped, toPy, PyData.eqv]
  simp
theorem Rq.eq {p : PyData} (h : Rq p) : f2 pEq [.str p.shown, .str p.shown] = some (.val (.bl true)) := by
  refine eq_of ?_
  unfold pEq
  rw [h.shaped, toPy, PyData.eqv]
  simp

end DL

/-! DL86: which lists of any numbers a network sorts: told by the places of the numbers up to each threshold. -/
namespace Nw
open DL
/-! ### places -/
end Nw

/-! DL87: a op b op c as a test. -/
namespace DL
open PySem L2 PyProof.Rows
section
variable {ca : Nat → Addr} {X : Cx}
end
end DL

/-! DL88: name *= number. -/
namespace DL
open PySem L2 PyProof.Rows
end DL

/-! DL89: a loop that returns what its first item that has an answer says; the places where one list falls behind another. -/
namespace DL
end DL
namespace Nw
open DL
end Nw

/-! DL90: which class a clause of try names. -/
namespace PySem.W
open PySem
end PySem.W

/-! DL91: the sets of places that a network moves in front, found by trying all; the one of them that is nowhere less. -/
namespace Nw
open DL
/-! ### zeros at the places -/
def bitsOf (w : Nat) (S : List Int) : List Int := (asc w).map fun p => if p ∈ S then 0 else 1
def front (w : Nat) (A S : List Int) : Bool := decide (((runL A (bitsOf w S)).take S.length).sum = 0)
end Nw

/-! DL92: evaluation where an exception is raised or caught; values of mixed kinds. -/
namespace DL
open PySem (Str)
section
variable {st st1 st2 st3 : Sl} {a b d : D} {ds es : List D} {m m1 m2 : ME} {ms ns : MA} {F : MF} {x : Xc} {ps : Sl} {i : Nat} {f : List D → Option Out} {t : MT} {s1 s2 : MS} {r : SR}
end
/-! ### values of mixed kinds -/
inductive It : D → Prop where
  | int (i : Int) : It (.int i)
  | bl (b : Bool) : It (.bl b)
  | non : It .non
  | str (s : Str) : It (.str s)
  | lst (xs : List D) (h : frzL xs = xs) : It (.lst false xs)
  | tup (xs : List D) (h : frzL xs = xs) : It (.tup xs)
theorem It.frz {d : D} (h : It d) : frz d = d := by
  cases h with
  | int i => rfl
  | bl b => rfl
  | non => rfl
  | str s => rfl
  | lst xs h => rw [DL.frz, h]
  | tup xs h => rw [DL.frz, h]
theorem It.hot {d : D} (h : It d) : hot d = false := by cases h <;> rfl
theorem It.cold {d : D} (h : It d) : cold d = true := by cases h <;> rfl
def isT : D → Bool
  | .tup _ => true
  | _ => false
end DL

/-! DL93: lists of a word and a value compared. -/
namespace DL
open PySem PySem.SeqAt
end DL

/-! DL94: str(int); an empty dict's display. -/
namespace DL
open PySem PySem.Spec PyProof.Rows L2
section
variable {ca : Nat → Addr} {K : PySem.W.Frag} {Hf H Hf1 H1 Hf2 H2 : Hp} {S P P1 P2 : Rg} {R R1 R2 : Nat → Rg} {pp : Prop} {σ : L2.St} {st : Sl} {v : V} {d : D} {vs : List V} {ds : List D} {X : Cx} {L : List Nat}
end
end DL

/-! DL95: repr of data or of an empty dict. -/
namespace DL
open PySem PySem.Spec PyProof.Rows L2
def rReprE (K : PySem.W.Frag) : List V → Hp → VK → Prop := fun xs H Q => rRepr K xs H Q ∨ ∃ a, xs = [.ref a] ∧ H a = some (.dK []) ∧ Q (.str "{}") H
def oReprE : List D → Option Out
  | [.dic _ []] => some (.val (.str "{}"))
  | ds => oRepr ds
section
variable {ca : Nat → Addr} {K : PySem.W.Frag} {Hf H Hf1 H1 : Hp} {S : Rg} {X : Cx} {v : V} {d : D}
theorem call_reprE {k : Nat} (hr : RoomG k X.A) : CallR X (.builtin "repr") (rReprE X.K) := by
  intro pins s σ H xs us Q I r h
  rcases h with h | ⟨a, rfl, e, q⟩
  · exact call_repr hr pins s σ H xs us Q I r h
  · obtain ⟨u, rfl, rx⟩ := vals1 r
    obtain rfl : u = Value.ref a := rx
    obtain ⟨_, lo, vs, kv, dd⟩ := (show ObjOk X.prog X.w H s.heap a (.dK []) from I.hok a _ e)
    have hu := hr.2.un
    cases kv
    obtain ⟨o, es, ep, ho, ⟨hc, _, _⟩, hd, _, hp, _⟩ := dd
    have hn : es.toList = [] := by
      generalize es.toList = l at hp
      cases hp
      rfl
    have rd : Reads s.heap (.ref a) (.dict []) (a :: [] ++ []) := Reads.dict ho hc hd (by rw [hn]; exact ReadsAll.nil) (by rw [hn]; exact ReadsAll.nil)
    have sh : (PyData.dict []).shown = "{}" := by kernel_rfl
    have no : sysModules ∉ (a :: [] ++ [] : List Addr) := fun z => by
      rw [List.append_nil, List.mem_singleton] at z
      rw [z] at lo
      simp at lo
    have dp : (PyData.dict []).depth ≤ 1 := by decide
    exact PySem.repr_of_reads' rd (by decide +kernel) (fun _ => no) hr.1 (by omega) (fun _ _ e => e)
      (fun h' u tk keep => ⟨.str _, H, I.kept (t' := tk) keep, ⟨_, rfl⟩, by rw [sh]; exact q⟩) (by rw [sh]; decide +kernel)
theorem os_reprE : OpS ca K (rReprE K) oReprE := fun Hf H vs ds o Q hx rd h q => by
  match ds, h with
  | [.dic z []], h =>
    cases h
    obtain ⟨v, S, e1, r1⟩ := rdl1 rd rfl
    subst e1
    refine .inr ?_
    cases r1 with
    | dicF e k r =>
      rename_i kvs
      cases kvs with
      | nil => exact ⟨_, rfl, hx _ _ e, q _ .str⟩
      | cons p l => cases k
    | dicO s e k r =>
      rename_i kvs
      cases kvs with
      | nil => exact ⟨_, rfl, e, q _ .str⟩
      | cons p l => cases k
  | [], h => cases h
  | [.non], h => exact .inl (os_repr Hf H vs _ o Q hx rd h q)
  | [.bl _], h => exact .inl (os_repr Hf H vs _ o Q hx rd h q)
  | [.int _], h => exact .inl (os_repr Hf H vs _ o Q hx rd h q)
  | [.str _], h => exact .inl (os_repr Hf H vs _ o Q hx rd h q)
  | [.lst _ _], h => exact .inl (os_repr Hf H vs _ o Q hx rd h q)
  | [.tup _], h => exact .inl (os_repr Hf H vs _ o Q hx rd h q)
  | [.ins _ _ _], h => exact .inl (os_repr Hf H vs _ o Q hx rd h q)
  | [.dic _ (_ :: _)], h => exact .inl (os_repr Hf H vs _ o Q hx rd h q)
  | [.dct _ _], h => exact .inl (os_repr Hf H vs _ o Q hx rd h q)
  | [.scr _], h => exact .inl (os_repr Hf H vs _ o Q hx rd h q)
  | [.cls _], h => exact .inl (os_repr Hf H vs _ o Q hx rd h q)
  | [.ty _], h => exact .inl (os_repr Hf H vs _ o Q hx rd h q)
  | [.xc _ _], h => exact .inl (os_repr Hf H vs _ o Q hx rd h q)
  | x :: y :: t, h =>
    have e : oReprE (x :: y :: t) = oRepr (x :: y :: t) := by
      cases x <;> first | rfl | (rename_i kvs; cases kvs <;> rfl)
    rw [e] at h
    exact .inl (os_repr Hf H vs _ o Q hx rd h q)
end
end DL

/-! DL96: str * int, bool(int). -/
namespace DL
open PySem PySem.Spec PyProof.Rows L2 Builtin Builtin.Str
section
variable {ca : Nat → Addr} {K : PySem.W.Frag} {Hf H Hf1 H1 : Hp} {S S1 : Rg} {X : Cx} {v : V} {d : D}
end
end DL

/-! DL97: small evaluations, texts' heads, loops that seek (shared by laws of mixed values). -/
namespace DL
open PySem (Str)
open Nw
theorem add_any {o p : Bool} {xs ys : List D} (hc : colds (xs ++ ys) = true) (hl : xs.length + ys.length ≤ 1000000) : oAdd [.lst o xs, .lst p ys] = some (.newL (xs ++ ys)) := by
  show newLc (xs ++ ys) = _
  unfold newLc
  rw [hc, List.length_append]
  exact if_pos (by simp; omega)
end DL

/-! DL98: the texts of lists tell their items' texts. -/
namespace DL
open PySem (Str)
end DL

/-! DL99: a, b = a list. -/
namespace DL
open PySem PySem.Spec PyProof.Rows L2
section
variable {ca : Nat → Addr} {X : Cx} {L : List Nat}
end
end DL

/-! DL100 (Nw): the moves drop, double, swap, turn. -/
namespace Nw
open DL
open PySem (Str)
def dist (a b : Int) : Int := if a - b < 0 then -(a - b) else a - b
end Nw

/-! DL101: f-strings; repr of an instance by its own __repr__; == of an instance and another value. -/
namespace DL
open PySem PySem.Spec PyProof.Rows L2
/-- the text of a value within an f-string -/
def oFmt : List D → Option Out
  | [.int i] => if i.natAbs.log2 < 1920 then some (.val (.str (toString i))) else none
  | [.str y] => if y.length ≤ 16777216 then some (.val (.str y)) else none
  | [.lst o xs] => if rpOk (toPy (.lst o xs)) then some (.val (.str (toPy (.lst o xs)).shown)) else none
  | _ => none
def rFmt (K : PySem.W.Frag) : List V → Hp → VK → Prop := fun xs H Q => (∃ y : Str, xs = [.str y] ∧ y.length ≤ 16777216 ∧ Q (.str y) H) ∨ (∃ i : Int, xs = [.int i] ∧ i.natAbs.log2 < 1920 ∧ Q (.str (toString i)) H) ∨
  (∃ a p, xs = [.ref a] ∧ Dp K H (.ref a) p ∧ rpOk p = true ∧ Q (.str p.shown) H)
/-- the parts of an f-string -/
def eJs : List ME → Str → ME
  | [], acc, st => .ok (.str acc) st
  | m :: ms, acc, st => (m st).bind fun d st1 => match d with
    | .str y => if (acc ++ y).length ≤ 16777216 then eJs ms (acc ++ y) st1 else .fail
    | _ => .fail
def eJ (ms : List ME) : ME := eJs ms Str.empty
/-- repr(x), x an instance of C with an own __repr__ (f) or data -/
def eReprI (C : Nat) (f : MF) (oa : Opd) : ME := fun st => opds [oa] st fun gs st2 => match gs st2 with
  | some [x] => if insC x = some C then (match f [x] with
    | .ok (.str y) _ => .ok (.str y) st2
    | _ => .fail) else (match oReprE [x] with
      | some o => .ok o.d st2
      | none => .fail)
  | _ => .fail
/-- x == y, x an instance of C, y any value that stands -/
def eEqX (C : Nat) (f : MF) (oa ob : Opd) : ME := fun st => opds [oa, ob] st fun gs st2 => match gs st2 with
  | some [x, y] => if insC x = some C ∧ hot y = false ∧ noScr y = true ∧ (tyName y).isSome = true then (match f [x, y] with
    | .ok (.bl k) _ => .ok (.bl k) st2
    | _ => .fail) else .fail
  | _ => .fail
def rEqX (X : Cx) (ca : Nat → Addr) (C : Nat) (m : MF) (σ : L2.St) : L2.R2 := fun x y H Q => ∃ a dx fs n, x = .ref a ∧ H a = some (.ins (ca C) dx fs) ∧ TyX X.K H y (.type n) ∧ PySem.W.notFirst X.K (ca C) (.type n) = true ∧
  spM ca X.K m [.ref a, y] H (fun v H' => ∃ k, v = .bl k ∧ Q (.bl k) H') (fun cls dd H' => wX X cls dd σ H')
theorem notF_of {K : PySem.W.Frag} {C : Addr} {t : Value} (h : PySem.W.subIn K t (.ref C) = some false) : PySem.W.notFirst K C t = true := by
  unfold PySem.W.notFirst
  rw [h]
  simp
section
variable {ca : Nat → Addr} {K : PySem.W.Frag} {Hf H Hf1 H1 Hf2 H2 : Hp} {S P : Rg} {R R1 R2 : Nat → Rg} {σ : L2.St} {st : Sl} {v : V} {d : D} {vs : List V} {ds : List D} {X : Cx} {L : List Nat}
theorem os_fmt : OpS ca K (rFmt K) oFmt := fun Hf H vs ds o Q hx rd h q => by
  match ds, h with
  | [.int i], h =>
    dsimp only [oFmt] at h
    by_cases c : i.natAbs.log2 < 1920
    · rw [if_pos c] at h
      cases h
      obtain ⟨v, S, e1, r1⟩ := rdl1 rd rfl
      subst e1
      rw [rep_int r1]
      exact .inr (.inl ⟨i, rfl, c, q _ .str⟩)
    · rw [if_neg c] at h
      cases h
  | [.str y], h =>
    dsimp only [oFmt] at h
    by_cases c : y.length ≤ 16777216
    · rw [if_pos c] at h
      cases h
      obtain ⟨v, S, e1, r1⟩ := rdl1 rd rfl
      subst e1
      rw [rep_str r1]
      exact .inl ⟨y, rfl, c, q _ .str⟩
    · rw [if_neg c] at h
      cases h
  | [.lst o xs], h =>
    dsimp only [oFmt] at h
    split at h
    · rename_i hz
      cases h
      obtain ⟨v, S, e1, r1⟩ := rdl1 rd rfl
      subst e1
      have hl : (toPy (.lst o xs)).canLay0 = true := by
        unfold rpOk at hz
        simp only [Bool.and_eq_true] at hz
        exact hz.1.1.1.1
      have dp := rep_dp hx r1 hl
      obtain ⟨a, rfl⟩ : ∃ a, v = .ref a := by cases r1 <;> exact ⟨_, rfl⟩
      exact .inr (.inr ⟨a, _, rfl, dp, hz, q _ .str⟩)
    · cases h
theorem ce_fmt {k : Nat} {e : Expr} {oa : Opd} {pos : Pos} (hr : RoomG k X.A) (ha : CO ca X e oa) : CE ca X (.FormattedValue e (-1) none pos) (eOp oFmt [oa]) :=
  ce_op (es := [e]) (rl := rFmt X.K) (fun σ H Q h => ⟨fun pins s I => by
    refine wpAny_FormattedValue_plain (thn (h.run pins s I) fun v s1 hv => ?_)
    obtain ⟨x, H1, I1, r1, q⟩ := hv
    rcases q with ⟨y, e, hz, q⟩ | ⟨i, e, hz, q⟩ | ⟨a, p, e, dp, ok, q⟩
    · cases e
      obtain ⟨t, rfl⟩ := r1
      rw [sz_eq] at hz
      exact wpAny_formatField_str ⟨.str y, H1, I1, ⟨t, rfl⟩, q⟩ ⟨.str y, H1, I1.tok _, ⟨_, rfl⟩, q⟩ hz
    · cases e
      obtain ⟨t, rfl⟩ := r1
      exact wpAny_formatField_int hz ⟨.str (toString i), H1, I1.tok _, ⟨_, rfl⟩, q⟩
    · cases e
      unfold rpOk at ok
      simp only [Bool.and_eq_true, decide_eq_true_eq, Bool.not_eq_true'] at ok
      obtain ⟨⟨⟨⟨h1, h2⟩, h3⟩, h4⟩, h5⟩ := ok
      rw [sz_eq] at h5
      cases (show v = Value.ref a from r1)
      obtain ⟨as, rd⟩ := Dp.reads I1 p (.ref a) (.ref a) dp rfl
      have hu := hr.2.un
      exact formatField_of_reads rd h2 (PyData.noDict_hsm h3) hr.1 (by omega) (fun _ _ e => e)
        (fun h' u tk keep => ⟨.str _, H1, I1.kept (t' := tk) keep, ⟨_, rfl⟩, q⟩) h5⟩) (.cons ha .nil) os_fmt
/-- the parts -/
inductive CJ (ca : Nat → Addr) (X : Cx) : List Expr → List ME → Prop where
  | nil : CJ ca X [] []
  | cons {e : Expr} {m : ME} {es : List Expr} {ms : List ME} (h : CE ca X e m) (r : CJ ca X es ms) : CJ ca X (e :: es) (m :: ms)
theorem pj_all : ∀ es : List Expr, PJ X es (es.map fun e => We X e)
  | [] => .nil
  | e :: es => .cons (we_pe X e) (pj_all es)
theorem cj_run {es : List Expr} {ms : List ME} (c : CJ ca X es ms) : ∀ {acc : Str} {Hf H : Hp} {R : Nat → Rg} {st : Sl} {Q : VK}, PR ca X.K Hf H Em True R σ st → Post ca X Hf H (jn Em R) σ (eJs ms acc st) Q →
    tJs (es.map fun e => We X e) acc σ H fun out H1 => Q (.str out) H1 := by
  induction c with
  | nil =>
    intro acc Hf H R st Q p h
    exact post_val p h (fun b q => .inr q) .str
  | cons he r ih =>
    rename_i e m es ms
    intro acc Hf H R st Q p h
    refine he Hf H R σ st _ p ?_
    unfold eJs at h
    cases e0 : m st with
    | fail => rw [e0] at h; exact h
    | exc x st1 => rw [e0] at h; exact h
    | ok d st1 =>
      rw [e0] at h
      intro Hf1 H1 P1 R1 v t1 p1
      cases d with
      | str y =>
        change Post ca X Hf H _ σ (if (acc ++ y).length ≤ 16777216 then _ else .fail) Q at h
        by_cases c : (acc ++ y).length ≤ 16777216
        · rw [if_pos c] at h
          refine ⟨y, rep_str p1.pend, by rw [← sz_eq]; exact c, ?_⟩
          exact ih p1.drop (Post.from (less0 t1) h)
        · rw [if_neg c] at h
          exact h.elim
      | _ => exact h.elim
/-- an f-string of two parts or more -/
theorem ce_j {e1 e2 : Expr} {es : List Expr} {ms : List ME} {pos : Pos} (c : CJ ca X (e1 :: e2 :: es) ms) : CE ca X (.JoinedStr (e1 :: e2 :: es) pos) (eJ ms) := fun Hf H R σ st Q p h =>
  we_of (pe_joined (pj_all _)) (cj_run c p h)
theorem ce_reprI {k k2 C : Nat} {f : Addr} {a : Expr} {oa : Opd} {m : MF} {p pos : Pos} (F : FnG X.prog X.w X.K X.mg X.base (L2.CX X.prog X.w) k f (spM ca X.K m)) (c : Meth X.K (ca C) "__repr__" f) (hr : RoomG (k + 1) X.A) (hr2 : RoomG k2 X.A)
    (hg : Gl X "repr") (hm : X.mg "repr" = none) (hb : bootBuiltins "repr" = some (.builtin "repr")) (ha : CO ca X a oa) (hst : NoStar [a] := by exact ⟨fun _ => rfl, trivial⟩) : CE ca X (.Call (.Name "repr" p) [a] [] pos) (eReprI C m oa) := fun Hf H R σ st Q pr h => by
  have key : Wa X [a] σ H fun vs H2 => (∃ x dx fs, vs = [.ref x] ∧ H2 x = some (.ins (ca C) dx fs) ∧ spM ca X.K m [.ref x] H2 (fun v H' => ∃ y : Str, v = .str y ∧ Q (.str y) H') (fun cls dd H' => wX X cls dd σ H')) ∨ rReprE X.K vs H2 Q := by
    refine wa_wl (fun e' r' q => noStar_suf hst e' r' q _) (ops_sound (.cons ha .nil) pr h fun gs st2 Hf2 H2 R2 vs t2 p2 hr2 hk => ?_)
    cases g : gs st2 with
    | none => rw [g] at hk; exact hk.elim
    | some ds =>
      rw [g] at hk
      obtain ⟨x, rfl⟩ : ∃ x, ds = [x] := by
        match ds, hk with
        | [x], _ => exact ⟨x, rfl⟩
      dsimp only at hk
      by_cases hc : insC x = some C
      · rw [if_pos hc] at hk
        obtain ⟨v, S', e1, r1⟩ := rdl1 (hr2 _ g) rfl
        subst e1
        have h1 : hot x = false := by
          cases x <;> try (cases hc; done)
          rename_i o _ _
          cases o
          · rfl
          · cases hc
        have q1 := r1.cold (S' := Em) h1
        cases x <;> try (cases hc; done)
        rename_i o1 C1 g1
        obtain ⟨a, dx, fs, T, rfl, e2, _, _⟩ := rep_ins p2.w.ex q1
        have d1 : C1 = C := by
          cases o1
          · exact Option.some.inj hc
          · cases hc
        subst d1
        have rl : RepL ca X.K Hf2 H2 Em [.ref a] [.ins o1 C1 g1] := RepL.one q1
        refine .inl ⟨a, dx, fs, rfl, e2, Hf2, Em, _, rl, p2.w.mono fun _ q => q.elim, ?_⟩
        refine postC_of (σ := σ) (st := st2) (R := R2) (p2.imp fun _ => rl) ?_
        cases em : m [.ins o1 C1 g1] with
        | fail => rw [em] at hk; exact hk
        | exc x0 ps => rw [em] at hk; exact hk.elim
        | ok d ps =>
          rw [em] at hk
          cases d with
          | str y =>
            intro Hf3 H3 P3 R3 v3 t3 p3
            exact ⟨y, rep_str p3.pend, hk Hf3 H3 Em R3 _ (less0 t3) (p3.drop.put .str)⟩
          | _ => exact hk.elim
      · rw [if_neg hc] at hk
        cases g2 : oReprE [x] with
        | none => rw [g2] at hk; exact hk.elim
        | some o =>
          rw [g2] at hk
          exact .inr (os_reprE (K := X.K) Hf2 H2 vs [x] o Q p2.w.ex (hr2 _ g) g2 (outQ_of p2 hk fun b q => .inr q))
  refine ⟨fun pins s I => ?_⟩
  refine wpAny_Call_Name_kw (ld_blt I hg hm hb ?_)
  refine PyProof.Rows.callWith_builtin1 (thn (key.run pos pins s I) fun us s1 ⟨vs, H1, I1, r1, q1⟩ => ?_) (hst.1 _) rfl
  rcases q1 with ⟨x, dx, fs, rfl, e2, sp⟩ | q1
  · obtain ⟨u, rfl, rx⟩ := vals1 r1
    obtain rfl : u = .ref x := rx
    obtain ⟨mA, J, _⟩ :=
        ins_get I1.hok e2
    obtain ⟨od, J, _⟩ := J.look
    obtain ⟨m', hF⟩ := I1.fr
    refine PySem.W.repr_K hr.in1.2.units0 hF I1.ok.mod.kin J c.at_ c.fn ?_
    refine thn (run_fnAG F hr.in1 (show X.A.in1.frames = X.A.frames from rfl) (passAt (takes_wX X) σ) I1 r1 sp) fun v s' ⟨vv, H', I', rv, y, ev, q⟩ => ?_
    subst ev
    obtain ⟨u, rfl⟩ := rv
    exact ⟨.str y, H', I', ⟨_, rfl⟩, q⟩
  · exact call_reprE hr2 pins s1 σ H1 vs us Q I1 r1 q1
theorem ce_eqX {k C : Nat} {f : Addr} {a b : Expr} {oa ob : Opd} {m : MF} {pos : Pos} (F : FnG X.prog X.w X.K X.mg X.base (L2.CX X.prog X.w) k f (spM ca X.K m)) (c : OwnEqC X.K (ca C) f) (hr : RoomG (k + 1) X.A)
    (hn : ∀ d n, tyName d = some n → PySem.W.notFirst X.K (ca C) (.type n) = true) (ha : CO ca X a oa) (hbb : CO ca X b ob) : CE ca X (.Compare a [.Eq] [b] pos) (eEqX C m oa ob) := fun Hf H R σ st Q p h => by
  have hm : behindInMarks .Eq b = false := nomark b (by decide) (by decide)
  have key : WL X [a, b] σ H fun vs H2 => rl2 (rEqX X ca C m σ) vs H2 Q := by
    refine ops_sound (.cons ha (.cons hbb .nil)) p h fun gs st2 Hf2 H2 R2 vs t2 p2 hr2 hk => ?_
    cases g : gs st2 with
    | none => rw [g] at hk; exact hk.elim
    | some ds =>
      rw [g] at hk
      obtain ⟨x, y, rfl⟩ : ∃ x y, ds = [x, y] := by
        match ds, hk with
        | [x, y], _ => exact ⟨x, y, rfl⟩
      have hk' := hk
      clear hk
      have hk := hk'
      clear hk'
      dsimp only at hk
      by_cases hc : insC x = some C ∧ hot y = false ∧ noScr y = true ∧ (tyName y).isSome = true
      · rw [if_pos hc] at hk
        obtain ⟨c1, c2, c3, c4⟩ := hc
        obtain ⟨n, en⟩ := Option.isSome_iff_exists.mp c4
        obtain ⟨v, w, S, S', e1, r1, r2⟩ := rdl2 (hr2 _ g) rfl
        subst e1
        have h1 : hot x = false := by
          cases x <;> try (cases c1; done)
          rename_i o _ _
          cases o
          · rfl
          · cases c1
        have q1 := r1.cold (S' := Em) h1
        have q2 := r2.cold (S' := Em) c2
        have hl : RepL ca X.K Hf2 H2 Em [v, w] [x, y] := .cons (S1 := Em) (S2 := Em) q1 (RepL.one q2) (fun _ q => q) (fun _ q => q) fun _ q _ => q
        cases x <;> try (cases c1; done)
        rename_i o1 C1 g1
        obtain ⟨a, dx, fs, T, rfl, e2, _, _⟩ := rep_ins p2.w.ex q1
        have d1 : C1 = C := by
          cases o1
          · exact Option.some.inj c1
          · cases c1
        subst d1
        refine ⟨a, dx, fs, n, rfl, e2, rep_ty p2.w.ex q2 en (fun xs e => by subst e; cases c3), hn _ _ en, Hf2, Em, _, hl, p2.w.mono fun _ q => q.elim, ?_⟩
        refine postC_of (σ := σ) (st := st2) (R := R2) (p2.imp fun _ => hl) ?_
        cases em : m [.ins o1 C1 g1, y] with
        | fail => rw [em] at hk; exact hk
        | exc x0 ps => rw [em] at hk; exact hk.elim
        | ok d ps =>
          rw [em] at hk
          cases d with
          | bl kk =>
            intro Hf3 H3 P3 R3 v3 t3 p3
            exact ⟨kk, rep_bl p3.pend, hk Hf3 H3 Em R3 _ (less0 t3) (p3.drop.put .bl)⟩
          | _ => exact hk.elim
      · rw [if_neg hc] at hk; exact hk.elim
  refine ⟨fun pins s I => ?_⟩
  refine wpAny_Compare1 (binT (R := fun x y H => rEqX X ca C m σ x y H Q) (we_pe X a) (we_pe X b) I key fun v u s2 x y H2 I2 rx ry q => ?_) hm
  obtain ⟨a, dx, fs, n, rfl, e2, ty, nf, sp⟩ := q
  have rr : Vals [V.ref a, y] [v, u] := .cons rx (.cons ry .nil)
  cases rx
  obtain ⟨mA, J, _⟩ :=
      ins_get I2.hok e2
  obtain ⟨od, J, _⟩ := J.look
  obtain ⟨m', hF⟩ := I2.fr
  obtain ⟨P, Z, pp, _⟩ := kit_of I2 ry ty
  show wpAny _ _ (richCompare .Eq _ _) _ _ _
  refine PySem.W.cmp_K (op := .Eq) (tb := .type n) hr.2.units0 hF I2.ok.mod.kin J (Z.ty _ _ I2.kIn pp) nf c.eq c.fn ?_
  refine thn (run_fnAG F (hr.mono (Nat.le_succ k)) rfl (passAt (takes_wX X) σ) I2 rr sp) fun v s' ⟨vv, H', I', rv, kk, ev, q⟩ => ?_
  subst ev
  cases rv
  exact ⟨.bl kk, H', I', rfl, q⟩
end
end DL

/-! DL102: an instance made with a slot lent. -/
namespace DL
open PySem PySem.Spec PyProof.Rows L2
section
variable {ca : Nat → Addr} {K : PySem.W.Frag} {Hf H Hf1 H1 Hf2 H2 : Hp} {S P : Rg} {R R1 R2 : Nat → Rg} {σ : L2.St} {st : Sl} {v : V} {d : D} {vs : List V} {ds : List D} {X : Cx} {L : List Nat}
end
end DL

/-! DL103: the text of a network; f-strings, repr of instances evaluated; lists of mixed values searched. -/
namespace DL
open PySem (Str PyData)
theorem len_app (x y : Str) : (x ++ y).length = x.length + y.length := by
  show (x.cps ++ y.cps).size = _
  rw [Array.size_append]
  rfl
theorem emp_app (x : Str) : Str.empty ++ x = x := PySem.Str.append_left_empty (by decide)
/-- the text of a list of numbers -/
abbrev lsT (S : List Int) : Str := (Py.py S).shown
structure SmS (S : List Int) : Prop where
  s : ∀ x ∈ S, 0 ≤ x ∧ x ≤ 40
  l : S.length ≤ 1000
theorem SmS.rp {S : List Int} (h : SmS S) : Rp (Py.py S) := rp_nums (fun x hx => by have := h.s x hx; omega) (by have := h.l; omega)
theorem SmS.len {S : List Int} (h : SmS S) : (lsT S).length ≤ 16000000 := by
  have r := h.rp
  obtain ⟨a, b, c⟩ := sml_all _ r.s
  have l := PyData.shown_le 26 (by decide) _ c
  have w := r.w
  show (Py.py S).shown.length ≤ _
  omega
theorem js_nil {acc : Str} {st : Sl} : eJs [] acc st = .ok (.str acc) st := rfl
theorem js_cons {m : ME} {ms : List ME} {acc y z : Str} {st st1 st2 : Sl} (h : m st = .ok (.str y) st1) (hl : (acc ++ y).length ≤ 16777216) (h2 : eJs ms (acc ++ y) st1 = .ok (.str z) st2) : eJs (m :: ms) acc st = .ok (.str z) st2 := by
  unfold eJs
  rw [h]
  show (if _ then _ else _) = _
  rw [if_pos hl]
  exact h2
/-- repr of an instance -/
theorem xReprI {C : Nat} {f : MF} {m : ME} {st st1 : Sl} {d x : D} {y : Str} {ps : Sl} (h : m st = .ok d st1) (hf : frz d = x) (hc : insC x = some C) (e : f [x] = .ok (.str y) ps) : eReprI C f (.v (eFz m)) st = .ok (.str y) st1 := by
  unfold eReprI
  rw [opds]
  unfold eFz
  rw [h]
  show (if insC (frz d) = some C then _ else _) = _
  rw [hf, if_pos hc, e]
end DL

/-! DL104: functions called by keyword. -/
namespace DL
open PySem L2 PyProof.Rows
/-- keywords, from the left: their names, their expressions -/
inductive KwL : List Keyword → List Str → List Expr → Prop where
  | nil : KwL [] [] []
  | cons {n : Str} {e : Expr} {p : Pos} {ks : List Keyword} {nm : List Str} {es : List Expr} (r : KwL ks nm es) : KwL (⟨some n, e, p⟩ :: ks) (n :: nm) (e :: es)
/-- how the values given by keyword go to the parameters -/
structure Pm where
  pm : (α : Type) → List α → List α
  len : ∀ (α : Type) (l : List α), (pm α l).length = l.length
  vals : ∀ (vs : List V) (us : List Value), Vals vs us → Vals (pm V vs) (pm Value us)
  rep : ∀ (ca : Nat → Addr) (K : PySem.W.Frag) (Hf H : Hp) (S : Rg) (vs : List V) (ds : List D), RepL ca K Hf H S vs ds → RepL ca K Hf H S (pm V vs) (pm D ds)
section
variable {P : Program} {w : World} {K : PySem.W.Frag} {mg : Str → Option Value} {base : Heap} {ca : Nat → Addr} {L : List Nat}
end
section
variable {ca : Nat → Addr} {Hf H : Hp} {S P : Rg} {R : Nat → Rg} {σ : L2.St} {st : Sl} {X : Cx}
end
end DL

/-! DL105: a call that gets a slot's flat list for its time only: what it hands back holds no list of others. -/
namespace DL
open PySem L2 PyProof.Rows
section
variable {ca : Nat → Addr} {K : PySem.W.Frag} {Hf H Hf1 H1 Hf2 H2 : Hp} {S P : Rg} {R R1 R2 : Nat → Rg} {σ : L2.St} {st : Sl} {v : V} {d : D} {vs : List V} {ds : List D} {X : Cx} {L : List Nat}
theorem repL_fl : ∀ {vs : List V} {ds : List D} {S S2 : Rg} {Hf H Hf2 H2 : Hp}, RepL ca K Hf H S vs ds → ds.all flat = true → RepL ca K Hf2 H2 S2 vs ds
  | _, _, _, _, _, _, _, _, .nil, _ => .nil
  | _, _, _, _, Hf, H, Hf2, H2, .cons (d := d) (ds := ds) r1 r2 _ _ _, h => by
    rw [List.all_cons, Bool.and_eq_true] at h
    have t := repL_fl (S2 := Em) (Hf2 := Hf2) (H2 := H2) r2 h.2
    cases r1 with
    | non => exact .cons (S1 := Em) .non t (fun _ q => q.elim) (fun _ q => q.elim) fun _ q _ => q
    | bl => exact .cons (S1 := Em) .bl t (fun _ q => q.elim) (fun _ q => q.elim) fun _ q _ => q
    | int => exact .cons (S1 := Em) .int t (fun _ q => q.elim) (fun _ q => q.elim) fun _ q _ => q
    | str => exact .cons (S1 := Em) .str t (fun _ q => q.elim) (fun _ q => q.elim) fun _ q _ => q
    | _ => exact absurd h.1 (fun z => by cases z)
end
end DL

/-! DL106: a for over an owned list whose items are handed to the loop's name with their ownership, and taken back behind each turn. -/
namespace DL
open PySem L2 PyProof.Rows
section
variable {ca : Nat → Addr} {K : PySem.W.Frag} {Hf H Hf1 H1 Hf2 H2 : Hp} {S S1 S2 P : Rg} {R R1 R2 : Nat → Rg} {pp qq : Prop} {σ σ' : L2.St} {st st' : Sl} {v : V} {d : D} {vs : List V} {ds : List D} {X : Cx} {L : List Nat}
end
end DL

/-! DL107: the forms of DL105, DL106 evaluated. -/
namespace DL
open PySem (Str)
end DL

/-! DL108: construction that raises; == of an instance and a value, evaluated; texts joined by +. -/
namespace DL
open PySem (Str PyData)
theorem xEqX {C : Nat} {F : MF} {m1 m2 : ME} {st st1 st2 : Sl} {x y : D} {p : Bool} {ps : Sl} (h1 : m1 st = .ok x st1) (h2 : m2 st1 = .ok y st2) (hx : insC x = some C) (hh : hot y = false) (hn : noScr y = true) (ht : (tyName y).isSome = true) (hf : F [x, y] = .ok (.bl p) ps) :
    eEqX C F (.v m1) (.v m2) st = .ok (.bl p) st2 := by
  unfold eEqX
  simp only [opds, h1, h2, Res.bind, Option.map]
  rw [if_pos ⟨hx, hh, hn, ht⟩, hf]
end DL

/-! DL109: a call of what an expression answers: a def of the text, handed about as a value. -/
namespace DL
open PySem L2 PyProof.Rows
section
variable {ca : Nat → Addr} {K : PySem.W.Frag} {Hf H Hf1 H1 : Hp} {S P : Rg} {R R1 : Nat → Rg} {σ : L2.St} {st : Sl} {X : Cx}
end
end DL

/-! DL110: xs.insert(i, y); xs[a:c] = ys. -/
namespace DL
open PySem L2 PyProof.Rows
/-- xs[a:c] = ys -/
def spl (xs ys : List D) (a c : Int) : Option (List D) := if colds xs && colds ys && decide (0 ≤ a ∧ a ≤ c ∧ c ≤ xs.length ∧ xs.length + ys.length ≤ 16777216) then some (xs.take a.toNat ++ ys ++ xs.drop c.toNat) else none
section
variable {X : Cx}
end
section
variable {ca : Nat → Addr} {K : PySem.W.Frag} {Hf H Hf1 H1 : Hp} {S P : Rg} {R R1 : Nat → Rg} {σ : L2.St} {st : Sl} {X : Cx} {L : List Nat}
end
/-! evaluated -/
end DL

/-! DL111: len(set(xs)), xs a list of distinct tuples of numbers. -/
namespace DL
open PySem PySem.Spec PyProof.Rows L2
section
variable {X : Cx}
end
section
variable {ca : Nat → Addr} {K : PySem.W.Frag} {Hf H : Hp} {S T : Rg} {X : Cx}
end
end DL

/-! DL112: tuple + tuple. -/
namespace DL
open PySem PySem.Spec PyProof.Rows L2
section
variable {ca : Nat → Addr} {K : PySem.W.Frag} {Hf H Hf1 H1 : Hp} {S S1 : Rg} {X : Cx} {v : V} {d : D}
end
end DL

/-! DL113: in, not in, for a tuple of nested data. -/
namespace DL
open PySem PySem.Spec PyProof.Rows L2
end DL

/-! DL114: a step behind a normal word changes its code in at most one place, by one. -/
namespace Nw
end Nw

/-! DL115: range(a, b, c) with a written c. -/
namespace DL
open PySem L2 PyProof.Rows
section
variable {ca : Nat → Addr} {K : PySem.W.Frag} {Hf H Hf1 H1 Hf2 H2 : Hp} {S S1 S2 P P1 P2 : Rg} {R R1 R2 : Nat → Rg} {pp qq : Prop} {σ σ' : L2.St} {st st' : Sl} {v : V} {d : D} {vs : List V} {ds : List D} {X : Cx} {L : List Nat}
end
end DL

/-! DL116: dicts of written strings; d.get(k, x). -/
namespace DL
open PySem PySem.Spec PyProof.Rows L2
/-- a dict's display of written strings -/
inductive KvL : List (Option Expr) → List Expr → List (Str × Str) → Prop where
  | nil : KvL [] [] []
  | cons {k v : Str} {j1 j2 : Nat} {p1 p2 : Pos} {ks : List (Option Expr)} {vs : List Expr} {kvs : List (Str × Str)} (r : KvL ks vs kvs) : KvL (some (.Constant (.str k) j1 p1) :: ks) (.Constant (.str v) j2 p2 :: vs) ((k, v) :: kvs)
section
end
section
variable {ca : Nat → Addr} {K : PySem.W.Frag} {Hf H Hf1 H1 Hf2 H2 : Hp} {S P P1 P2 : Rg} {R R1 R2 : Nat → Rg} {pp : Prop} {σ : L2.St} {st : Sl} {v : V} {d : D} {vs : List V} {ds : List D} {X : Cx} {L : List Nat}
end
end DL

/-! DL117: x, y = a, b where a name is used in a block: by way of a tuple that nobody else sees. -/
namespace DL
open PySem L2 PyProof.Rows
section
variable {ca : Nat → Addr} {K : PySem.W.Frag} {Hf H Hf1 H1 : Hp} {S P : Rg} {R : Nat → Rg} {σ : L2.St} {st : Sl} {v w : V} {d e : D} {vs : List V} {ds : List D} {X : Cx} {L : List Nat}
end
end DL

/-! DL118: moves keep the effect; moves turned round lead back. -/
namespace Nw
open PySem (Str)
open DL
inductive MvC : List Int → Str → Nat → List Int → Prop where
  | double (A : List Int) (x : Int) (r : List Int) (h : (A ++ x :: r).length < 1000) : MvC (A ++ x :: r) "double" A.length (A ++ x :: x :: r)
  | drop (A : List Int) (x : Int) (r : List Int) : MvC (A ++ x :: x :: r) "drop" A.length (A ++ x :: r)
  | swap (A : List Int) (x y : Int) (r : List Int) (h : 2 ≤ dist x y) : MvC (A ++ x :: y :: r) "swap" A.length (A ++ y :: x :: r)
  | turn (A : List Int) (x y : Int) (r : List Int) (h : dist x y = 1) : MvC (A ++ x :: y :: x :: r) "turn" A.length (A ++ y :: x :: y :: r)
/-! ### the effect -/
/-! ### turned round -/
end Nw

/-! DL119: a comprehension whose first turn freezes a slot; d.get evaluated. -/
namespace DL
open PySem (Str)
open Nw
section
variable {α : Type}
end
end DL

/-! DL120: DL105 for any items that are not owned (made from DL105, DL107 by a program). -/
namespace DL
open PySem L2 PyProof.Rows
section
variable {ca : Nat → Addr} {K : PySem.W.Frag} {Hf H Hf1 H1 Hf2 H2 : Hp} {S P : Rg} {R R1 R2 : Nat → Rg} {σ : L2.St} {st : Sl} {v : V} {d : D} {vs : List V} {ds : List D} {X : Cx} {L : List Nat}
end
end DL
namespace DL
open PySem (Str)
end DL

/-! DL121: moves that bring a step into a normal word. -/
namespace Nw
open PySem (Str)
open DL
/-! ### a block of a normal word -/
def blk (hi : Int) (n : Nat) : List Int := (List.range n).map fun (t : Nat) => hi - (t : Int)
/-! ### the moves for one more step; the code's last count stands in front -/
end Nw

/-! DL122: moves that lead to the normal word. -/
namespace Nw
open PySem (Str)
open DL
end Nw

/-! DL123: a loop over a slot's list, by places. -/
namespace DL
open PySem (Str)
end DL

/-! DL124: classmethods called by keyword alone. -/
namespace DL
open PySem L2 PyProof.Rows
section
variable {P : Program} {w : World} {K : PySem.W.Frag} {mg : Str → Option Value} {base : Heap} {ca : Nat → Addr} {L : List Nat}
end
section
variable {ca : Nat → Addr} {Hf H : Hp} {S P : Rg} {R : Nat → Rg} {σ : L2.St} {st : Sl} {X : Cx}
end
end DL

/-! DL125: == and != of two values that are both instances (own __eq__) or both data. -/
namespace DL
open PySem L2 PyProof.Rows
section
variable {ca : Nat → Addr} {Hf H : Hp} {S P : Rg} {R : Nat → Rg} {σ : L2.St} {st : Sl} {X : Cx}
end
end DL

/-! DL126: != of two lists of data among which empty dicts may be. -/
namespace DL
open PySem L2 PyProof.Rows
/-- two items whose comparison is known -/
def EI (K : PySem.W.Frag) (H : Hp) (x y : V) (b : Bool) : Prop :=
  (∃ d e, Dp K H x d ∧ Dp K H y e ∧ d.canLay0 = true ∧ e.canLay0 = true ∧ min d.depth e.depth ≤ 60 ∧ b = PyData.eqv d e) ∨
    ∃ p q, x = .ref p ∧ y = .ref q ∧ H p = some (.dK []) ∧ H q = some (.dK []) ∧ b = true
inductive EIs (K : PySem.W.Frag) (H : Hp) : List V → List V → List Bool → Prop where
  | nil : EIs K H [] [] []
  | cons {x y : V} {b : Bool} {xs ys : List V} {bs : List Bool} (h : EI K H x y b) (r : EIs K H xs ys bs) : EIs K H (x :: xs) (y :: ys) (b :: bs)
section
variable {ca : Nat → Addr} {K : PySem.W.Frag} {Hf H : Hp} {S : Rg} {X : Cx} {pins : List (Addr × Obj)} {σ : L2.St} {s : Shared}
end
end DL

/-! DL127: d[k] = v at a slot's own dict; k in d. -/
namespace DL
open PySem PySem.Spec PyProof.Rows L2
section
variable {ca : Nat → Addr} {K : PySem.W.Frag} {Hf H Hf1 H1 Hf2 H2 : Hp} {S S1 S2 P P1 P2 : Rg} {R R1 R2 : Nat → Rg} {pp qq : Prop} {σ σ' : L2.St} {st st' : Sl} {v : V} {d : D} {vs : List V} {ds : List D} {X : Cx} {L : List Nat}
end
end DL

/-! DL128: rows[e].append(x), rows a slot's own list of own lists, x a name. -/
namespace DL
open PySem PySem.Spec PyProof.Rows L2
section
variable {ca : Nat → Addr} {K : PySem.W.Frag} {Hf H Hf1 H1 Hf2 H2 : Hp} {S S1 S2 P P1 P2 : Rg} {R R1 R2 : Nat → Rg} {pp qq : Prop} {σ σ' : L2.St} {st st' : Sl} {v : V} {d : D} {vs : List V} {ds : List D} {X : Cx} {L : List Nat}
end
end DL

/-! DL129: max of a list of ints; with a default. -/
namespace DL
open PySem PySem.Spec PyProof.Rows L2
section
variable {ca : Nat → Addr} {K : PySem.W.Frag} {Hf H : Hp} {S : Rg} {X : Cx} {v : V} {d : D} {vs : List V} {ds : List D}
end
end DL

set_option maxHeartbeats 4000000
/-! DL130: for .. in zip(xs, e), xs a slot's list that is walked where it stands. -/
namespace DL
open PySem PySem.Spec PyProof.Rows L2
section
variable {ca : Nat → Addr} {K : PySem.W.Frag} {Hf H Hf1 H1 Hf2 H2 : Hp} {S S1 S2 P P1 P2 : Rg} {R R1 R2 : Nat → Rg} {pp qq : Prop} {σ σ' : L2.St} {st st' : Sl} {v : V} {d : D} {vs : List V} {ds : List D} {X : Cx} {L : List Nat}
end
end DL

/-! DL131: earliest rounds of steps, longest chains (the plain part of k55's law). -/
namespace DL
open PySem (Str)
open Nw
/-! ### levels -/
def nr (x y : Int) : Prop := x - y ≤ 1 ∧ y - x ≤ 1
structure Ear (ss E : List Int) : Prop where
  le : E.length ≤ ss.length
  pos : ∀ (i : Nat) (v : Int), E[i]? = some v → 1 ≤ v
  lt : ∀ (i : Nat) (v s : Int) (j : Nat) (x t : Int), E[i]? = some v → ss[i]? = some s → j < i → E[j]? = some x → ss[j]? = some t → nr t s → x < v
  wait : ∀ (i : Nat) (v s : Int), E[i]? = some v → ss[i]? = some s → v = 1 ∨ ∃ (j : Nat) (x t : Int), j < i ∧ E[j]? = some x ∧ ss[j]? = some t ∧ nr t s ∧ v = x + 1
/-! ### the dict of the latest steps -/
/-- the dict holds, for each step value, the last index below k -/
structure La (ss : List Int) (k : Nat) (kvs : List (L2.Key × D)) : Prop where
  len : kvs.length ≤ k
  no : ∀ x, valD kvs (.inl x) = none → ∀ j, j < k → ss[j]? ≠ some x
  yes : ∀ x d, valD kvs (.inl x) = some d → ∃ j : Nat, d = .int (j : Int) ∧ j < k ∧ ss[j]? = some x ∧ ∀ j', j < j' → j' < k → ss[j']? ≠ some x
/-! ### the levels of the package -/
abbrev LV := Int × Option Nat
structure Lev (ss : List Int) (L : List LV) : Prop where
  e : Ear ss (L.map (·.1))
  w : ∀ (i : Nat) (p : LV), L[i]? = some p → (p.1 = 1 ∧ p.2 = none) ∨ ∃ (j : Nat) (t s x : Int), p.2 = some j ∧ j < i ∧ ss[j]? = some t ∧ ss[i]? = some s ∧ nr t s ∧ (L.map (·.1))[j]? = some x ∧ p.1 = x + 1
/-! ### the greatest -/
/-- the greatest of a list, at least 0 -/
structure Mx (E : List Int) (m : Int) : Prop where
  ge : ∀ x ∈ E, x ≤ m
  z : 0 ≤ m
  at_ : m = 0 ∨ m ∈ E
/-! ### the longest chain -/
/-- a step b that the step a waits for -/
def Wtf (ss : List Int) (a b : Nat) : Prop := b < a ∧ ∃ t s, ss[b]? = some t ∧ ss[a]? = some s ∧ nr t s
def Adj (ss : List Int) (C : List Nat) : Prop := ∀ (i a b : Nat), C[i]? = some a → C[i + 1]? = some b → Wtf ss a b
/-- what longest_chain answers -/
structure LC (ss : List Int) (m : Int) (C : List Nat) : Prop where
  len : (C.length : Int) = m
  adj : Adj ss C
  mem : ∀ x ∈ C, x < ss.length
/-! ### the schedule -/
/-! ### chains are chains -/
/-! ### the law -/
end DL

/-! DL132: dicts with tuples of numbers and texts as keys: {}, d[k], k in d, d[k] = v. -/
namespace DL
open PySem PySem.Spec PyProof.Rows L2
section
variable {κ : Type} [DecidableEq κ]
end
section
variable {ca : Nat → Addr} {K : PySem.W.Frag} {Hf H Hf1 H1 Hf2 H2 : Hp} {S S1 S2 P P1 P2 : Rg} {R R1 R2 : Nat → Rg} {pp qq : Prop} {σ σ' : L2.St} {st st' : Sl} {v : V} {d : D} {vs : List V} {ds : List D} {X : Cx} {L : List Nat}
end
end DL

/-! DL133: {k: v}, one pair, k a tuple of numbers and texts. -/
namespace DL
open PySem PySem.Spec PyProof.Rows L2
def two (f : V → V → Hp → Prop) : List V → Hp → Prop
  | [x, y], H => f x y H
  | _, _ => False
section
variable {ca : Nat → Addr} {K : PySem.W.Frag} {Hf H Hf1 H1 Hf2 H2 : Hp} {S P : Rg} {R R1 R2 : Nat → Rg} {pp qq : Prop} {σ : L2.St} {st : Sl} {v : V} {d : D} {vs : List V} {ds : List D} {X : Cx}
end
end DL

/-! DL134: tuple(range(a, b)). -/
namespace DL
open PySem PySem.Spec PyProof.Rows L2
section
variable {ca : Nat → Addr} {K : PySem.W.Frag} {X : Cx}
end
end DL

set_option maxHeartbeats 1000000
/-! DL135: tuple(range(a, b, -1)); displays with starred items; xs.pop(e). -/
namespace DL
open PySem PySem.Spec PyProof.Rows L2
/-! ### tuple(range(a, b, -1)) -/
section
variable {ca : Nat → Addr} {K : PySem.W.Frag} {X : Cx}
end

/-! ### displays with starred items -/
def seqD : D → Option (List D)
  | .lst _ xs => if colds xs then some xs else none
  | .tup xs => some xs
  | _ => none
/-- a starred item, then the rest -/
def aStar (m : ME) (ms : MA) : MA := fun st => (m st).bind fun d st1 => match seqD (frz d) with
  | some xs => (ms st1).bind fun ys st2 => .ok (xs ++ ys) st2
  | none => .fail
section
variable {ca : Nat → Addr} {K : PySem.W.Frag} {Hf H Hf1 H1 Hf2 H2 : Hp} {S S1 S2 P P1 P2 : Rg} {R R1 R2 : Nat → Rg} {pp qq : Prop} {σ σ' : L2.St} {st st' : Sl} {v : V} {d : D} {vs : List V} {ds xs : List D} {X : Cx} {L : List Nat}
theorem rep_seqD (hx : Ex Hf H) (r : Rep ca K Hf H Em v d) (h : seqD d = some xs) : ∃ a us, v = .ref a ∧ (Hf a = some (.tup us) ∨ Hf a = some (.lst us)) ∧ RepL ca K Hf H Em us xs := by
  cases r with
  | tup e r => cases h; exact ⟨_, _, rfl, .inl e, r⟩
  | @lstF _ _ _ ds e r =>
    by_cases hc : colds ds = true
    · have h : (if colds ds = true then some ds else none) = some xs := h
      rw [if_pos hc] at h
      cases h; exact ⟨_, _, rfl, .inr e, r⟩
    · have h : (if colds ds = true then some ds else none) = some xs := h
      rw [if_neg hc] at h
      cases h
  | lstO s e r => exact s.elim
  | _ => cases h
theorem ca_nil : CA ca X [] aNil := fun Hf H R σ st Q p h => wa_of pa_nil (h Hf H Em R [] (Tr.refl fun _ q => q) (p.toP (fun _ q => q) .nil))
theorem ca_star {e : Expr} {es : List Expr} {m : ME} {ms : MA} {sp : Pos} (he : CE ca X e m) (hr : CA ca X es ms) (hs : starEach (.Starred e sp :: es) X.env = (true, eval e X.env) :: starEach es X.env := by rfl) : CA ca X (.Starred e sp :: es) (aStar m ms) := fun Hf H R σ st Q p h => by
  refine wa_of (StX.pa_star (we_pe X e) (wa_pa X es) hs) ?_
  refine he Hf H R σ st _ p ?_
  unfold aStar at h
  cases e1 : m st with
  | fail => rw [e1] at h; exact h
  | exc x st1 => rw [e1] at h; exact h
  | ok d st1 =>
    rw [e1] at h
    intro Hf1 H1 P1 R1 v t1 p1
    dsimp only [Res.bind] at h
    cases es' : seqD (frz d) with
    | none => rw [es'] at h; exact h.elim
    | some xs =>
      rw [es'] at h
      dsimp only at h
      obtain ⟨Hs, x1, x2, ps, ts⟩ := p1.standP
      obtain ⟨a, us, rfl, ea, ra⟩ := rep_seqD ps.w.ex (p1.pend.frz (S' := Em) x1 x2) es'
      refine ⟨a, us, rfl, ?_, ?_⟩
      · rcases ea with ea | ea
        · exact .inl (.inl (.inl (ps.w.ex _ _ ea)))
        · exact .inr (.inl (.inl (ps.w.ex _ _ ea)))
      · have t01 := t1.trans ts
        refine hr Hs H1 R1 σ st1 _ ps ?_
        cases e2 : ms st1 with
        | fail => rw [e2] at h; exact h
        | exc x st2 => rw [e2] at h; exact fun Hf' H' R' cls dd t q => h Hf' H' R' cls dd (t01.trans t) q
        | ok ys st2 =>
          rw [e2] at h
          intro Hf2 H2 P2 R2 vs t2 p2
          refine h Hf2 H2 P2 R2 (us ++ vs) (t01.trans t2) (p2.imp fun r => ?_)
          exact repL_app' (S1 := Em) (ra.keep t2.fx fun _ q => q.elim) r (fun _ q => q.elim) (fun _ q => q) fun _ q _ => q
/-- displays whose items may be starred -/
theorem ce_lstA {es : List Expr} {ms : MA} {pos : Pos} (h : CA ca X es ms) : CE ca X (.List es pos) (eLst ms) := fun Hf H R σ st Q p hq => by
  refine we_of (pe_lst (wa_pa X es)) (h Hf H R σ st _ p ?_)
  unfold eLst at hq
  cases e : ms st with
  | fail => rw [e] at hq; exact hq
  | exc x st1 => rw [e] at hq; exact hq
  | ok ds st1 =>
    rw [e] at hq
    intro Hf1 H1 P1 R1 vs t1 p1
    dsimp only [Res.bind] at hq
    by_cases hl : ds.length ≤ 16777216
    · rw [if_pos hl] at hq
      refine ⟨by rw [p1.pend.length, ← sz_eq]; exact hl, fun a ha => ?_⟩
      have hne : ∀ b, jn P1 R1 b → b ≠ a := fun b q z => by
        subst z
        obtain ⟨o, e⟩ := p1.w.dm b q
        rw [ha] at e; cases e
      obtain ⟨w1, w2⟩ := wl_new (o := .lst vs) p1.w ha
      have new : Rep ca X.K Hf1 (upd H1 a (.lst vs)) (fun b => P1 b ∨ b = a) (.ref a) (.lst true ds) := .lstO (.inr rfl) upd_same ((p1.pend.keep (fun _ _ e => e) fun b _ o e => upd_keep ha b o e).mono fun b q => ⟨.inl q, hne b (.inl q)⟩)
      refine hq Hf1 (upd H1 a (.lst vs)) (fun b => P1 b ∨ b = a) R1 (.ref a) (t1.trans ⟨fun _ _ e => e, fun b o e _ => upd_keep ha b o e, fun b q => ?_, fun _ _ e => .inl e⟩) ⟨new, p1.len, fun i d e => ?_, p1.dj, fun i b q1 q2 => ?_, ⟨w1.ex, fun b q => ?_, fun b q => ?_⟩⟩
      · rcases q with (q | q) | q
        · exact .inl (.inl q)
        · subst q; exact .inr ha
        · exact .inl (.inr q)
      · obtain ⟨v, e1, r⟩ := p1.at_ i d e
        exact ⟨v, e1, r.keep (fun _ _ e => e) fun b _ o e => upd_keep ha b o e⟩
      · rcases q1 with q1 | q1
        · exact p1.dp i b q1 q2
        · exact hne b (.inr ⟨i, q2⟩) q1
      · rcases q with (q | q) | q
        · exact w1.dm b (.inl q)
        · subst q; exact ⟨_, upd_same⟩
        · exact w1.dm b (.inr q)
      · rcases q with (q | q) | q
        · exact w1.nf b (.inl q)
        · subst q; exact w2
        · exact w1.nf b (.inr q)
    · rw [if_neg hl] at hq; exact hq.elim

/-! ### xs.pop(e), xs a slot's own list -/
end
end DL

/-! DL136 (Nw): rounds of steps, the fewest rounds, the two searches for them (the plain part of k57's law). -/
namespace Nw
/-- the rounds of steps up to n: ascending, two apart -/
def rds : Nat → List (List Int)
  | 0 => [[]]
  | n + 1 => rds n ++ ((rds n).filter fun r => r.all fun t => decide (2 ≤ ((n : Int) + 1) - t)).map fun r => r ++ [(n : Int) + 1]
/-- what k rounds make of the descending list -/
def rch (w : Nat) : Nat → List Int → Prop
  | 0, v => v = desc w
  | k + 1, v => ∃ u r, rch w k u ∧ r ∈ rds (w - 1) ∧ v = runL r u
/-- .. and no fewer -/
def mn (w k : Nat) (v : List Int) : Prop := rch w k v ∧ ∀ j, j < k → ¬ rch w j v
section
variable {w : Nat}
/-! ### the search with a queue -/
structure BI (w : Nat) (n : Nat) (M : List (List Int × Int)) (Q1 Q2 : List (List Int)) : Prop where
  nd : (M.map (·.1)).Nodup
  val : ∀ v m, (v, m) ∈ M → ∃ k : Nat, m = (k : Int) ∧ k ≤ n + 1 ∧ mn w k v
  two : ∀ v, (v, ((n + 1 : Nat) : Int)) ∈ M ↔ v ∈ Q2
  one : ∀ v ∈ Q1, (v, (n : Int)) ∈ M
  all : ∀ v j, mn w j v → j ≤ n → (v, (j : Int)) ∈ M
  proc : ∀ u, (u, (n : Int)) ∈ M → u ∉ Q1 → ∀ r ∈ rds (w - 1), ∃ m, (runL r u, m) ∈ M
variable {n : Nat} {M : List (List Int × Int)} {Q1 Q2 : List (List Int)}
/-! ### the search by levels -/
structure LI (w c : Nat) (Ks Lv : List (List Int)) : Prop where
  nd : Ks.Nodup
  k : ∀ v, v ∈ Ks ↔ rch w c v
  l : ∀ v, v ∈ Lv ↔ mn w c v
/-- amid a level: what has been seen, the next level so far; P: what has been tried -/
structure LJ (w c : Nat) (Ks Lv K2 F : List (List Int)) (P : List Int → List Int → Prop) : Prop where
  nd : K2.Nodup
  len : K2.length = Ks.length + F.length
  k : ∀ v, v ∈ K2 ↔ v ∈ Ks ∨ v ∈ F
  f : ∀ v ∈ F, v ∉ Ks ∧ ∃ u r, u ∈ Lv ∧ r ∈ rds (w - 1) ∧ v = runL r u
  done : ∀ u r, P u r → runL r u ∈ K2
variable {c : Nat} {Ks Lv K2 F : List (List Int)} {P P' : List Int → List Int → Prop}
/-! ### the full networks -/
theorem stay : ∀ (r : List Int) (v : List Int) (j : Nat), (∀ t ∈ r, (j : Int) + 2 ≤ t ∧ t < v.length) → (runL r v).getD j 0 = v.getD j 0
  | [], v, j, _ => rfl
  | t :: r, v, j, h => by
    have h0 := h t List.mem_cons_self
    obtain ⟨i, hi⟩ : ∃ i : Nat, t = (i : Int) + 1 := ⟨(t - 1).toNat, by omega⟩
    have e := sN_get (l := v) (i := i) (by omega) j
    rw [if_neg (by omega), if_neg (by omega)] at e
    have l : (stp v t).length = v.length := stp_len v t
    show (runL r (stp v t)).getD j 0 = _
    rw [stay r (stp v t) j fun q hq => by rw [l]; exact h q (List.mem_cons_of_mem _ hq)]
    subst hi
    exact e
end
end Nw

/-! DL137 (Nw): the steps of a network level by level; the depth is never less than the fewest rounds. -/
namespace Nw
abbrev In (n : Int) (ss : List Int) : Prop := ∀ s ∈ ss, 1 ≤ s ∧ s < n
/-! ### level by level -/
end Nw
namespace DL
open Nw
end DL

set_option maxHeartbeats 1000000
/-! DL138: sum(xs, []), xs a list of lists. -/
namespace DL
open PySem PySem.Spec PyProof.Rows L2
section
variable {prog : Program} {w : World} {A : Around} {E : Value → Shared → Prop}
end
section
variable {X : Cx} {pins : List (Addr × Obj)} {σ : L2.St} {H : Hp} {s : Shared}
end
section
variable {ca : Nat → Addr} {K : PySem.W.Frag} {Hf H : Hp} {S : Rg} {vs : List V} {ds xs : List D} {X : Cx}
end
end DL

/-! DL139: len of a dict. -/
namespace DL
open PySem PySem.Spec PyProof.Rows L2
section
variable {ca : Nat → Addr} {K : PySem.W.Frag} {X : Cx}
end
end DL

set_option maxHeartbeats 1000000
/-! DL141: texts: len, signs, slices, walks, split, join, endswith, removeprefix, int of a text. -/
namespace DL
open PySem PySem.Spec PyProof.Rows L2
section
variable {ca : Nat → Addr} {K : PySem.W.Frag} {Hf H : Hp} {S : Rg} {vs : List V} {ds xs : List D} {X : Cx} {v : V}
/-! ### walking a text -/
end
end DL

set_option maxHeartbeats 1000000
/-! DL142: x, *xs = a list. -/
namespace DL
open PySem PySem.Spec PyProof.Rows L2
section
variable {ca : Nat → Addr} {X : Cx} {L : List Nat}
end
end DL

set_option maxHeartbeats 1000000
/-! DL143: texts made of numbers: joined, split again, shown; steps for the walk. -/
namespace DL
open PySem (Str PyData)
open Nw PySem
open PySem.Spec PyProof.Rows L2
theorem xStar {m : ME} {ms : MA} {st st1 st2 : Sl} {d : D} {xs ys : List D} (h : m st = .ok d st1) (hs : seqD (frz d) = some xs) (h2 : ms st1 = .ok ys st2) : aStar m ms st = .ok (xs ++ ys) st2 := by
  unfold aStar
  rw [h]
  show (match seqD (frz d) with | some xs => (ms st1).bind fun ys st2 => Res.ok (xs ++ ys) st2 | none => .fail) = _
  rw [hs]
  dsimp only
  rw [h2]
  rfl
/-! ### a text shown -/
/-- the signs of these texts -/
def okC (c : Nat) : Bool := c == 32 || (decide (48 ≤ c) && decide (c ≤ 58))
end DL

set_option maxHeartbeats 1000000
/-! DL144: a call, the slot's list of own flat lists given for its time only. -/
namespace DL
open PySem L2 PyProof.Rows
noncomputable def hideT (T : Rg) (Hf : Hp) : Hp := fun b => if (Classical.propDecidable (T b)).decide then none else Hf b
noncomputable def showT (T : Rg) (H Hf : Hp) : Hp := fun b => if (Classical.propDecidable (T b)).decide then H b else Hf b
theorem hideT_t {T : Rg} {Hf : Hp} {b : Addr} (h : T b) : hideT T Hf b = none := by
  show (if _ then _ else _) = _
  rw [if_pos (by simpa using h)]
theorem hideT_f {T : Rg} {Hf : Hp} {b : Addr} (h : ¬ T b) : hideT T Hf b = Hf b := by
  show (if _ then _ else _) = _
  rw [if_neg (by simpa using h)]
theorem showT_t {T : Rg} {H Hf : Hp} {b : Addr} (h : T b) : showT T H Hf b = H b := by
  show (if _ then _ else _) = _
  rw [if_pos (by simpa using h)]
theorem showT_f {T : Rg} {H Hf : Hp} {b : Addr} (h : ¬ T b) : showT T H Hf b = Hf b := by
  show (if _ then _ else _) = _
  rw [if_neg (by simpa using h)]
section
variable {ca : Nat → Addr} {K : PySem.W.Frag} {Hf H H3 Hf1 H1 Hf2 H2 : Hp} {S P : Rg} {R R1 R2 : Nat → Rg} {σ : L2.St} {st : Sl} {v : V} {d : D} {vs : List V} {ds : List D} {X : Cx} {L : List Nat}
end
end DL
namespace DL
open PySem (Str)
end DL

set_option maxHeartbeats 1000000
/-! DL145: [a:] of a text, a text times an int. -/
namespace DL
open PySem PySem.Spec PyProof.Rows L2
section
variable {ca : Nat → Addr} {K : PySem.W.Frag} {X : Cx}
end
end DL

set_option maxHeartbeats 1000000
/-! DL146: isinstance of an exception and a pair of the text's exception classes. -/
namespace DL
open PySem PySem.Spec PyProof.Rows L2
section
variable {ca : Nat → Addr} {K : PySem.W.Frag} {X : Cx}
end
end DL

set_option maxHeartbeats 1000000
/-! DL147: words read as numbers (plain part of k73's law). -/
namespace DL
open PySem (Str PyData)
open Nw PySem PySem.Spec PyProof.Rows L2 C8 SX
def dg (c : Nat) : Bool := decide (48 ≤ c) && decide (c ≤ 57)
/-- the last sign is a colon -/
def col (l : List Nat) : Bool := decide (l.drop (l.length - 1) = [58])
/-! ### a text's words -/
theorem spl_facts : ∀ (l acc : List Nat), TL.spl [32] 0 acc l ≠ [] ∧ (∀ w ∈ TL.spl [32] 0 acc l, ∀ c ∈ w, c ∈ acc ∨ c ∈ l) ∧ ((TL.spl [32] 0 acc l).map List.length).sum + (TL.spl [32] 0 acc l).length = acc.length + l.length + 1
  | [], acc => by
    rw [TL.spl_nil]
    exact ⟨by simp, fun w hw c hc => .inl (by rw [List.mem_singleton.mp hw] at hc; exact hc), by simp⟩
  | c :: l, acc => by
    by_cases h : TL.pre [32] (c :: l) = true
    · rw [TL.spl_hit h]
      obtain ⟨a, b, d⟩ := spl_facts l []
      refine ⟨by simp, fun w hw x hx => ?_, ?_⟩
      · rcases List.mem_cons.mp hw with rfl | hw
        · exact .inl hx
        · rcases b w hw x hx with z | z
          · cases z
          · exact .inr (List.mem_cons_of_mem _ z)
      · show ((acc :: TL.spl [32] 0 [] l).map List.length).sum + (acc :: TL.spl [32] 0 [] l).length = _
        rw [List.map_cons, List.sum_cons, List.length_cons, List.length_cons]
        have d : _ = 0 + l.length + 1 := d
        omega
    · rw [TL.spl_miss (Bool.eq_false_iff.mpr h)]
      obtain ⟨a, b, d⟩ := spl_facts l (acc ++ [c])
      refine ⟨a, fun w hw x hx => ?_, ?_⟩
      · rcases b w hw x hx with z | z
        · rcases List.mem_append.mp z with z | z
          · exact .inl z
          · rw [List.mem_singleton.mp z]; exact .inr List.mem_cons_self
        · exact .inr (List.mem_cons_of_mem _ z)
      · rw [d]
        simp
        omega
def wds (t : List Nat) : List (List Nat) := TL.spl [32] 0 [] t
theorem wds_len (t : List Nat) : ((wds t).map List.length).sum + (wds t).length = t.length + 1 := by
  have := (spl_facts t []).2.2
  unfold wds
  rw [this]
  show 0 + t.length + 1 = _
  omega
/-! ### numbers or None -/
/-! ### what is told -/
end DL

set_option maxHeartbeats 1000000
/-! DL148: an own value stored in a field; self.f.append(e), self the slot's own instance, f an own list in its field. -/
namespace DL
open PySem PySem.Spec PyProof.Rows L2
/-- self.f = e, the value may be owned -/
def sFldO (C i : Nat) (f : Str) (m : ME) : MS := fun st => (m st).toS fun d st1 => match getS st1 i with
  | some (.ins true C' fs) => if C' = C ∧ fs.length < 1000 then .next (st1.set i (some (.ins true C' (putD f d fs)))) else .fail
  | _ => .fail
section
variable {ca : Nat → Addr} {K : PySem.W.Frag} {Hf H Hf1 H1 Hf2 H2 : Hp} {S S1 S2 P P1 P2 : Rg} {R R1 R2 : Nat → Rg} {pp qq : Prop} {σ σ' : L2.St} {st st' : Sl} {v : V} {d : D} {vs : List V} {ds : List D} {X : Cx} {L : List Nat}
theorem putD_own {f : Str} {y : V} {d : D} (rd : Rep ca K Hf H P y d) : ∀ {S : Rg} {fs : List (Str × V)} {gs : List (Str × D)}, (∀ b, S b → P b → False) → fs.map (·.1) = gs.map (·.1) → RepL ca K Hf H S (fs.map (·.2)) (gs.map (·.2)) →
    RepL ca K Hf H (fun b => S b ∨ P b) ((putF f y fs).map (·.2)) ((putD f d gs).map (·.2))
  | _, [], [], _, _, _ => (RepL.one rd).mono fun _ q => .inr q
  | _, [], _ :: _, _, e, _ => by cases e
  | _, _ :: _, [], _, e, _ => by cases e
  | S, (x, a) :: fs, (y', b) :: gs, dj, e, r => by
    simp only [List.map_cons, List.cons.injEq] at e
    obtain ⟨rfl, e⟩ := e
    rw [putF, putD]
    cases r with
    | cons r1 r2 h1 h2 h3 =>
      split
      · exact .cons rd r2 (fun _ q => .inr q) (fun b q => .inl (h2 b q)) fun b q1 q2 => dj b (h2 b q2) q1
      · exact .cons r1 (putD_own rd (fun b q1 q2 => dj b (h2 b q1) q2) e r2) (fun b q => .inl (h1 b q)) (fun b q => q.elim (fun q => .inl (h2 b q)) .inr) fun b q1 q2 => q2.elim (h3 b q1) fun q => dj b (h1 b q1) q
/-- the pending value goes into the slot's own instance -/
theorem PR.writeOwn {i C : Nat} {gs ys : List (Str × D)} {a dx : Addr} {ws : List (Str × V)} (p1 : PR ca K Hf H P pp R σ st) (h : getS st i = some (.ins true C gs)) (hv : σ[i]? = some (some (.ref a))) (ra : R i a) (hk : ws.map (·.1) = ys.map (·.1))
    (r : RepL ca K Hf H (fun b => (R i b ∧ b ≠ a) ∨ P b) (ws.map (·.2)) (ys.map (·.2))) :
    PR ca K Hf (upd H a (.ins (ca C) dx ws)) Em True (fun j b => if j = i then R i b ∨ P b else R j b) σ (st.set i (some (.ins true C ys))) ∧ Tr (jn P R) Hf H (jn Em fun j b => if j = i then R i b ∨ P b else R j b) Hf (upd H a (.ins (ca C) dx ws)) := by
  have k : ∀ b o, b ≠ a → H b = some o → upd H a (.ins (ca C) dx ws) b = some o := fun b o n e => by rw [upd_ne n]; exact e
  have hPa : ∀ b, P b → b ≠ a := fun b q z => by subst z; exact p1.dp i b q ra
  have back : ∀ b, jn Em (fun j b => if j = i then R i b ∨ P b else R j b) b → jn P R b := fun b q => by
    rcases q with q | ⟨j, q⟩
    · exact q.elim
    · split at q
      · exact q.elim (fun q => .inr ⟨i, q⟩) .inl
      · exact .inr ⟨j, q⟩
  refine ⟨⟨trivial, by rw [List.length_set]; exact p1.len, fun j d' e => ?_, fun j k b q1 q2 => ?_, fun _ _ q => q.elim, ⟨fun b o e => ?_, fun b q => ?_, fun b q => p1.w.nf b (back b q)⟩⟩, ⟨fun _ _ e => e, fun b o e n => k b o (fun z => n (.inr ⟨i, z ▸ ra⟩)) e, fun b q => .inl (back b q), fun _ _ e => .inl e⟩⟩
  · rcases set_get e with ⟨q1, q2⟩ | ⟨q1, q2⟩
    · subst q1
      cases q2
      refine ⟨_, hv, ?_⟩
      rw [show (fun b => if i = i then R i b ∨ P b else R i b) = (fun b => R i b ∨ P b) from by funext b; rw [if_pos rfl]]
      exact .insO (.inl ra) upd_same hk ((r.keep (fun _ _ e => e) fun b q o e => k b o (q.elim (fun q => q.2) (hPa b)) e).mono fun b q => q.elim (fun q => ⟨.inl q.1, q.2⟩) fun q => ⟨.inr q, hPa b q⟩)
    · obtain ⟨v', e3, r3⟩ := p1.at_ j d' q2
      refine ⟨v', e3, ?_⟩
      rw [show (fun b => if j = i then R i b ∨ P b else R j b) = R j from by funext b; rw [if_neg (Ne.symm q1)]]
      exact r3.keep (fun _ _ e => e) fun b q o e => k b o (fun z => q1 (p1.dj i j a ra (z ▸ q))) e
  · split at q1 <;> split at q2
    · rename_i z1 z2; exact z1.trans z2.symm
    · rename_i z1 z2
      rcases q1 with q1 | q1
      · exact z1.trans (p1.dj i k b q1 q2)
      · exact (p1.dp k b q1 q2).elim
    · rename_i z1 z2
      rcases q2 with q2 | q2
      · exact (p1.dj j i b q1 q2).trans z2.symm
      · exact (p1.dp j b q2 q1).elim
    · exact p1.dj j k b q1 q2
  · have hf : Hf a = none := p1.w.nf a (.inr ⟨i, ra⟩)
    have := p1.w.ex b o e
    exact k b o (fun z => by subst z; rw [hf] at e; cases e) this
  · obtain ⟨o, e⟩ := p1.w.dm b (back b q)
    by_cases z : b = a
    · subst z; exact ⟨_, upd_same⟩
    · exact ⟨o, k b o z e⟩
theorem cs_fldO {o value : Expr} {i C : Nat} {f : Str} {m : ME} {pos pos' : Pos} (c : Cls X.K (ca C)) (n : NoAttr X.K (ca C) f) (ho : PE X o (tVar i)) (he : CE ca X value m) (hs : swapsWith value (some (.Attribute o f pos')) pos.line X.env = pure false := by rfl) :
    CS ca X L (.Assign [.Attribute o f pos'] value pos) (sFldO C i f m) := fun Hf H R σ st E p h => by
  refine ws_of (ps_fld ho (we_pe X value) hs) (he Hf H R σ st _ p ?_)
  refine post_toS h fun d st1 Hf1 H1 P1 R1 v e1 t1 p1 h1 => ?_
  cases g : getS st1 i with
  | none => rw [g] at h1; exact h1.elim
  | some dx =>
    rw [g] at h1
    cases dx with
    | ins ow C' gs =>
      cases ow with
      | false => exact h1.elim
      | true =>
        dsimp only at h1
        by_cases hc : C' = C ∧ gs.length < 1000
        · rw [if_pos hc] at h1
          obtain ⟨rfl, hl⟩ := hc
          obtain ⟨a, dx, fs, ev, ra, e2, kk, r2⟩ := p1.drop.ownIns g
          have hlen : fs.length = gs.length := by
            have := congrArg List.length kk
            simpa using this
          refine ⟨.ref a, ev, a, _, dx, fs, rfl, e2, c, n, by omega, ?_⟩
          obtain ⟨p2, t2⟩ := PR.writeOwn (dx := dx) p1 g ev ra (putD_keys (f := f) (y := v) (d := d) kk) (putD_own p1.pend (fun b q1 q2 => p1.dp i b q2 q1.1) kk r2)
          exact h1 Hf1 _ _ σ t2 p2 Lk.refl
        · rw [if_neg hc] at h1; exact h1.elim
    | _ => exact h1.elim
end
end DL

set_option maxHeartbeats 1000000
/-! DL149: self.f.append((x, self.g)), self the slot's own instance, x a name. -/
namespace DL
open PySem PySem.Spec PyProof.Rows L2
def eFApT (C i : Nat) (f g : Str) (jx : Nat) : ME := fun st => match getS st i, getS st jx with
  | some (.ins true C0 gs), some d => if C0 = C ∧ hot d = false then (match gs.lookup f, gs.lookup g with
    | some (.lst true ys), some dg => if hot dg = false ∧ ys.length < 16777216 then .ok .non (st.set i (some (.ins true C0 (putD f (.lst true (ys ++ [.tup [d, dg]])) gs)))) else .fail
    | _, _ => .fail) else .fail
  | _, _ => .fail
section
variable {ca : Nat → Addr} {K : PySem.W.Frag} {Hf H Hf1 H1 Hf2 H2 : Hp} {S S1 S2 P P1 P2 : Rg} {R R1 R2 : Nat → Rg} {pp qq : Prop} {σ σ' : L2.St} {st st' : Sl} {v : V} {d : D} {vs : List V} {ds : List D} {X : Cx} {L : List Nat}
theorem putD_same {f : Str} {d d0 : D} : ∀ {fs : List (Str × V)} {gs : List (Str × D)}, fs.map (·.1) = gs.map (·.1) → gs.lookup f = some d0 → fs.map (·.1) = (putD f d gs).map (·.1)
  | _, [], _, h => by cases h
  | [], _ :: _, e, _ => by cases e
  | (x, a) :: fs, (y, b) :: gs, e, h => by
    simp only [List.map_cons, List.cons.injEq] at e
    obtain ⟨rfl, e⟩ := e
    rw [putD]
    by_cases q : x = f
    · subst q
      rw [if_pos rfl]
      simp [e]
    · rw [if_neg q]
      have h' : gs.lookup f = some d0 := by
        rw [List.lookup_cons] at h
        have : (f == x) = false := by simpa using fun z => q z.symm
        rw [this] at h
        exact h
      simp [putD_same (d := d) e h']
/-- an own list in a field: where it lies, and how it may be written -/
theorem fld_at {f : Str} {ys : List D} : ∀ {S : Rg} {gs : List (Str × D)} {fs : List (Str × V)}, fs.map (·.1) = gs.map (·.1) → RepL ca K Hf H S (fs.map (·.2)) (gs.map (·.2)) → gs.lookup f = some (.lst true ys) →
    ∃ (b : Addr) (ws : List V) (T : Rg), fs.lookup f = some (.ref b) ∧ S b ∧ H b = some (.lst ws) ∧ RepL ca K Hf H (fun c => T c ∧ c ≠ b) ws ys ∧
      ∀ (H' : Hp) (us : List V) (zs : List D), (∀ c o, c ≠ b → H c = some o → H' c = some o) → H' b = some (.lst us) → RepL ca K Hf H' (fun c => T c ∧ c ≠ b) us zs → RepL ca K Hf H' S (fs.map (·.2)) ((putD f (.lst true zs) gs).map (·.2))
  | _, [], _, _, _, h => by cases h
  | _, _ :: _, [], e, _, _ => by cases e
  | S, (y, d) :: gs, (x, a) :: fs, e, r, h => by
    simp only [List.map_cons, List.cons.injEq] at e
    obtain ⟨rfl, e⟩ := e
    cases r with
    | cons r1 r2 h1 h2 h3 =>
      by_cases q : x = f
      · subst q
        rw [List.lookup_cons, beq_self_eq_true] at h
        have h := Option.some.inj h
        subst h
        cases r1 with
        | lstO s e1 rl =>
          refine ⟨_, _, _, by rw [List.lookup_cons, beq_self_eq_true], h1 _ s, e1, rl, fun H' us zs hk e' r' => ?_⟩
          rw [putD, if_pos rfl]
          exact .cons (.lstO s e' r') (r2.keep (fun _ _ e => e) fun c w o eo => hk c o (fun z => h3 _ s (z ▸ w)) eo) h1 h2 h3
      · have nb : (f == x) = false := by simpa using fun z => q z.symm
        rw [List.lookup_cons, nb] at h
        obtain ⟨b, ws, T, e1, sb, e2, rb, k⟩ := fld_at e r2 h
        refine ⟨b, ws, T, by rw [List.lookup_cons, nb]; exact e1, h2 _ sb, e2, rb, fun H' us zs hk e' r' => ?_⟩
        rw [putD, if_neg q]
        exact .cons (r1.keep (fun _ _ e => e) fun c w o eo => hk c o (fun z => h3 c w (z ▸ sb)) eo) (k H' us zs hk e' r') h1 h2 h3
/-- a cold field -/
theorem fld_cold {f : Str} {d : D} : ∀ {S : Rg} {gs : List (Str × D)} {fs : List (Str × V)}, fs.map (·.1) = gs.map (·.1) → RepL ca K Hf H S (fs.map (·.2)) (gs.map (·.2)) → gs.lookup f = some d → hot d = false → ∃ v, fs.lookup f = some v ∧ Rep ca K Hf H Em v d
  | _, [], _, _, _, h, _ => by cases h
  | _, _ :: _, [], e, _, _, _ => by cases e
  | S, (y, d0) :: gs, (x, a) :: fs, e, r, h, hd => by
    simp only [List.map_cons, List.cons.injEq] at e
    obtain ⟨rfl, e⟩ := e
    cases r with
    | cons r1 r2 h1 h2 h3 =>
      by_cases q : x = f
      · subst q
        rw [List.lookup_cons, beq_self_eq_true] at h
        have h := Option.some.inj h
        subst h
        exact ⟨a, by rw [List.lookup_cons, beq_self_eq_true], r1.cold hd⟩
      · have nb : (f == x) = false := by simpa using fun z => q z.symm
        rw [List.lookup_cons, nb] at h
        obtain ⟨v, e1, r⟩ := fld_cold e r2 h hd
        exact ⟨v, by rw [List.lookup_cons, nb]; exact e1, r⟩
/-- a field's own list is written where it lies -/
theorem PR.writeFld {i C : Nat} {gs ys : List (Str × D)} {a dx b : Addr} {fs : List (Str × V)} {us : List V} (p : PR ca K Hf H Em True R σ st) (h : getS st i = some (.ins true C gs)) (hv : σ[i]? = some (some (.ref a))) (ha : R i a) (ea : H a = some (.ins (ca C) dx fs)) (hb : R i b) (hab : b ≠ a) (kk : fs.map (·.1) = ys.map (·.1))
    (r : RepL ca K Hf (upd H b (.lst us)) (fun c => R i c ∧ c ≠ a) (fs.map (·.2)) (ys.map (·.2))) : PR ca K Hf (upd H b (.lst us)) Em True R σ (st.set i (some (.ins true C ys))) ∧ Tr (jn Em R) Hf H (jn Em R) Hf (upd H b (.lst us)) := by
  have hk : ∀ c o, c ≠ b → H c = some o → upd H b (.lst us) c = some o := fun c o n e => by rw [upd_ne n]; exact e
  have hf : Hf b = none := p.w.nf b (.inr ⟨i, hb⟩)
  refine ⟨⟨trivial, ?_, fun j d e => ?_, p.dj, fun _ _ q => q.elim, ⟨fun c o e => ?_, fun c q => ?_, p.w.nf⟩⟩, ⟨fun _ _ e => e, fun c o e n => hk c o (fun z => n (.inr ⟨i, z ▸ hb⟩)) e, fun c q => .inl q, fun _ _ e => .inl e⟩⟩
  · rw [List.length_set]; exact p.len
  · rcases set_get e with ⟨q1, q2⟩ | ⟨q1, q2⟩
    · subst q1
      cases q2
      exact ⟨_, hv, .insO ha (hk _ _ (Ne.symm hab) ea) kk r⟩
    · obtain ⟨v', e2, r2⟩ := p.at_ j d q2
      exact ⟨v', e2, r2.keep (fun _ _ e => e) fun c q o e => hk c o (fun z => q1 (p.dj i j b hb (z ▸ q))) e⟩
  · have := p.w.ex c o e
    exact hk c o (fun z => by subst z; rw [hf] at e; cases e) this
  · obtain ⟨o, e⟩ := p.w.dm c q
    by_cases z : c = b
    · subst z; exact ⟨_, upd_same⟩
    · exact ⟨o, hk c o z e⟩
theorem ce_fAppT {o o2 x : Expr} {i jx C k : Nat} {f g : Str} {p1 p2 p3 apos cpos : Pos} (c : Cls X.K (ca C)) (nf : NoAttr X.K (ca C) f) (ng : NoAttr X.K (ca C) g) (ho : PE X o (tVar i)) (ho2 : PE X o2 (tVar i)) (hx : PE X x (tVar jx))
    (hb1 : attributeBase o f X.env (eval o X.env) = eval o X.env := by rfl) (hb2 : attributeBase o2 g X.env (eval o2 X.env) = eval o2 X.env := by rfl)
    (hbase : attributeBase (.Attribute o f p1) "append" X.env (eval (.Attribute o f p1) X.env) = eval (.Attribute o f p1) X.env := by rfl)
    (hfew : ((backTo cpos (starEach [.Tuple [x, .Attribute o2 g p2] k p3] X.env)).all (fun x => !x.1) && (backToKw cpos (keywordEach [] X.env)).all (fun x => x.1.isSome)
      && decide ([Expr.Tuple [x, .Attribute o2 g p2] k p3].length + ([] : List Keyword).length + (if ([] : List Keyword).isEmpty then 0 else 1) < 30)) = true := by rfl)
    (hline : (apos.endLine == cpos.line) = true := by rfl) (hs : starEach [.Tuple [x, .Attribute o2 g p2] k p3] X.env = (false, eval (.Tuple [x, .Attribute o2 g p2] k p3) X.env) :: starEach [] X.env := by rfl)
    (hs1 : starEach [x, .Attribute o2 g p2] X.env = (false, eval x X.env) :: starEach [.Attribute o2 g p2] X.env := by rfl) (hs2 : starEach [.Attribute o2 g p2] X.env = (false, eval (.Attribute o2 g p2) X.env) :: starEach [] X.env := by rfl) :
    CE ca X (.Call (.Attribute (.Attribute o f p1) "append" apos) [.Tuple [x, .Attribute o2 g p2] k p3] [] cpos) (eFApT C i f g jx) := fun Hf H R σ st Q p h => by
  refine we_of (pe_bm PySem.F.plainAttrs_list PySem.F.slot_list_append PySem.F.type_list_append mt_append (pe_fld ho hb1) (pa_cons (pe_tup (pa_cons hx (pa_cons (pe_fld ho2 hb2) pa_nil hs2) hs1)) pa_nil hs) hbase hfew hline hs rfl) ?_
  unfold eFApT at h
  cases g1 : getS st i with
  | none => rw [g1] at h; exact h.elim
  | some di =>
    cases g2 : getS st jx with
    | none => rw [g1, g2] at h; cases di <;> first | exact h.elim | (rename_i ow C0 gs; cases ow <;> exact h.elim)
    | some d =>
      rw [g1, g2] at h
      cases di with
      | ins ow C0 gs =>
        cases ow with
        | false => exact h.elim
        | true =>
          dsimp only at h
          by_cases hc : C0 = C ∧ hot d = false
          · rw [if_pos hc] at h
            obtain ⟨rfl, hd⟩ := hc
            cases lf : gs.lookup f with
            | none => rw [lf] at h; exact h.elim
            | some dl =>
              cases lg : gs.lookup g with
              | none => rw [lf, lg] at h; cases dl <;> first | exact h.elim | (rename_i ow ys; cases ow <;> exact h.elim)
              | some dg =>
                rw [lf, lg] at h
                cases dl with
                | lst ow2 ys =>
                  cases ow2 with
                  | false => exact h.elim
                  | true =>
                    dsimp only at h
                    by_cases hc2 : hot dg = false ∧ ys.length < 16777216
                    · rw [if_pos hc2] at h
                      obtain ⟨hdg, hly⟩ := hc2
                      obtain ⟨a, dx, fs, ev, ra, ea, kk, r2⟩ := p.ownIns g1
                      obtain ⟨b, ws, T, lb, sb, eb, rb, back⟩ := fld_at kk r2 lf
                      obtain ⟨vg, lvg, rg⟩ := fld_cold kk r2 lg hdg
                      obtain ⟨vx, hvx, rx⟩ := p.at_ jx d g2
                      have rx := rx.cold (S' := Em) hd
                      refine ⟨.ref a, ev, a, ca C0, dx, fs, .ref b, rfl, ea, c, nf, lb, .inl ⟨rfl, ws, .inl (.inl eb)⟩, ?_⟩
                      refine ⟨vx, hvx, .ref a, ev, a, ca C0, dx, fs, vg, rfl, ea, c, ng, lvg, ?_, fun q hq => ?_⟩
                      · show 2 ≤ sizeLine
                        decide
                      · have hqb : q ≠ b := fun z => by subst z; rw [eb] at hq; cases hq
                        have hqa : q ≠ a := fun z => by subst z; rw [ea] at hq; cases hq
                        have h0 := (wl_new (o := .tup [vx, vg]) p.w hq).2
                        have ps := p.drop.stand (o := .tup [vx, vg]) hq
                        have kH : ∀ c o, H c = some o → upd H q (.tup [vx, vg]) c = some o := fun c o e => upd_keep hq c o e
                        have kF : Ex Hf (upd Hf q (.tup [vx, vg])) := fun c o e => upd_keep h0 c o e
                        refine ⟨b, ws, .ref q, rfl, rfl, kH b _ eb, by rw [rb.length, ← sz_eq]; exact hly, ?_⟩
                        obtain ⟨b', ws', T', lb', sb', eb', rb', back'⟩ := fld_at kk (r2.keep kF fun c _ o e => kH c o e) lf
                        rw [lb] at lb'
                        cases lb'
                        rw [kH b _ eb] at eb'
                        cases eb'
                        have hk : ∀ c o, c ≠ b → upd H q (.tup [vx, vg]) c = some o → upd (upd H q (.tup [vx, vg])) b (.lst (ws ++ [.ref q])) c = some o := fun c o n e => by rw [upd_ne n]; exact e
                        have rt : Rep ca X.K (upd Hf q (.tup [vx, vg])) (upd H q (.tup [vx, vg])) Em (.ref q) (.tup [d, dg]) :=
                          .tup upd_same (.cons (S1 := Em) (S2 := Em) (rx.keep kF fun _ z => z.elim) (RepL.one (rg.keep kF fun _ z => z.elim)) (fun _ z => z) (fun _ z => z) fun _ z _ => z)
                        have rN : RepL ca X.K (upd Hf q (.tup [vx, vg])) (upd (upd H q (.tup [vx, vg])) b (.lst (ws ++ [.ref q]))) (fun c => T' c ∧ c ≠ b) (ws ++ [.ref q]) (ys ++ [.tup [d, dg]]) :=
                          ((repL_snoc rb' rt fun _ _ z => z).mono fun _ z => z.elim id fun z => z.elim).keep (fun _ _ e => e) fun c z o e => hk c o z.2 e
                        have rA := back' _ _ _ hk upd_same rN
                        obtain ⟨p2, t2⟩ := ps.writeFld g1 ev ra (kH a _ ea) sb.1 sb.2 (putD_same kk lf) rA
                        have t0 : Tr (jn Em R) Hf H (jn Em R) (upd Hf q (.tup [vx, vg])) (upd H q (.tup [vx, vg])) := ⟨kF, fun c o e _ => kH c o e, fun c z => .inl z, fun c o e => by
                          by_cases hb : c = q
                          · subst hb; exact .inr (.inr hq)
                          · rw [upd_ne hb] at e; exact .inl e⟩
                        exact h _ _ Em R .non (t0.trans t2) (p2.put .non)
                    · rw [if_neg hc2] at h; exact h.elim
                | _ => exact h.elim
          · rw [if_neg hc] at h; exact h.elim
      | _ => exact h.elim
end
end DL

set_option maxHeartbeats 1000000
/-! DL150: a built-in of one argument, the argument a field of the slot's own instance (len, list .. of an own list in a field). -/
namespace DL
open PySem PySem.Spec PyProof.Rows L2
def eFOp (C i : Nat) (f : Str) (fop : List D → Option Out) : ME := fun st => match getS st i with
  | some (.ins true C0 gs) => if C0 = C then (match gs.lookup f with
    | some d => (match fop [d] with
      | some o => .ok o.d st
      | none => .fail)
    | none => .fail) else .fail
  | _ => .fail
section
variable {ca : Nat → Addr} {K : PySem.W.Frag} {Hf H : Hp} {X : Cx}
theorem fld_any {f : Str} {d : D} : ∀ {S : Rg} {gs : List (Str × D)} {fs : List (Str × V)}, fs.map (·.1) = gs.map (·.1) → RepL ca K Hf H S (fs.map (·.2)) (gs.map (·.2)) → gs.lookup f = some d → ∃ v T, fs.lookup f = some v ∧ Rep ca K Hf H T v d
  | _, [], _, _, _, h => by cases h
  | _, _ :: _, [], e, _, _ => by cases e
  | S, (y, d0) :: gs, (x, a) :: fs, e, r, h => by
    simp only [List.map_cons, List.cons.injEq] at e
    obtain ⟨rfl, e⟩ := e
    cases r with
    | cons r1 r2 h1 h2 h3 =>
      by_cases q : x = f
      · subst q
        rw [List.lookup_cons, beq_self_eq_true] at h
        have h := Option.some.inj h
        subst h
        exact ⟨a, _, by rw [List.lookup_cons, beq_self_eq_true], r1⟩
      · have nb : (f == x) = false := by simpa using fun z => q z.symm
        rw [List.lookup_cons, nb] at h
        obtain ⟨v, T, e1, r⟩ := fld_any e r2 h
        exact ⟨v, T, by rw [List.lookup_cons, nb]; exact e1, r⟩
theorem fop_core {C i : Nat} {f : Str} {fop : List D → Option Out} {r : List V → Hp → VK → Prop} {R : Nat → Rg} {σ : L2.St} {st : Sl} {Q : VK} (hs : OpS ca X.K r fop) (c : Cls X.K (ca C)) (nf : NoAttr X.K (ca C) f) (p : PR ca X.K Hf H Em True R σ st) (h : Post ca X Hf H (jn Em R) σ (eFOp C i f fop st) Q) :
    tFld X.K (tVar i) f σ H fun v H1 => r [v] H1 Q := by
  unfold eFOp at h
  cases g1 : getS st i with
  | none => rw [g1] at h; exact h.elim
  | some di =>
    rw [g1] at h
    cases di with
    | ins ow C0 gs =>
      cases ow with
      | false => exact h.elim
      | true =>
        dsimp only at h
        by_cases hc : C0 = C
        · subst hc
          rw [if_pos rfl] at h
          cases lf : gs.lookup f with
          | none => rw [lf] at h; exact h.elim
          | some d =>
            rw [lf] at h
            dsimp only at h
            cases fo : fop [d] with
            | none => rw [fo] at h; exact h.elim
            | some o =>
              rw [fo] at h
              obtain ⟨a, dx, fs, ev, ra, ea, kk, r2⟩ := p.ownIns g1
              obtain ⟨v, T, lv, rv⟩ := fld_any kk r2 lf
              exact ⟨.ref a, ev, a, ca C0, dx, fs, v, rfl, ea, c, nf, lv, hs Hf H [v] [d] o Q p.w.ex (.cons rv .nil) fo (outQ_of p h fun b q => .inr q)⟩
        · rw [if_neg hc] at h; exact h.elim
    | _ => exact h.elim
theorem ce_callBF {x : Str} {o : Expr} {i C : Nat} {f : Str} {p p1 pos : Pos} {id : String} {r : List V → Hp → VK → Prop} {fop : List D → Option Out} (hc : CallR X (.builtin id) r) (hg : Gl X x) (hm : X.mg x = none) (hv : bootBuiltins x = some (.builtin id)) (hs : OpS ca X.K r fop)
    (c : Cls X.K (ca C)) (nf : NoAttr X.K (ca C) f) (ho : PE X o (tVar i)) (hb : attributeBase o f X.env (eval o X.env) = eval o X.env := by rfl) (hn : x ≠ "__name__" := by decide) (hdb : (x == ("__debug__" : Str)) = false := by decide)
    (hst : starEach [.Attribute o f p1] X.env = (false, eval (.Attribute o f p1) X.env) :: starEach [] X.env := by rfl) (hpl : (backTo pos (starEach [] X.env)).any (·.1) = false := by rfl) :
    CE ca X (.Call (.Name x p) [.Attribute o f p1] [] pos) (eFOp C i f fop) := fun Hf H R σ st Q pr h =>
  we_of (pe_callB hc hg hm hv (pa_cons (pe_fld ho hb) pa_nil hst) hn hdb hst hpl) (fop_core hs c nf pr h)
theorem ce_callTyF {x : Str} {o : Expr} {i C : Nat} {f : Str} {p p1 pos : Pos} {T : String} {r : List V → Hp → VK → Prop} {fop : List D → Option Out} (hc : CallR X (.type T) r) (hg : Gl X x) (hm : X.mg x = none) (hv : bootBuiltins x = some (.type T)) (hs : OpS ca X.K r fop)
    (c : Cls X.K (ca C)) (nf : NoAttr X.K (ca C) f) (ho : PE X o (tVar i)) (hb : attributeBase o f X.env (eval o X.env) = eval o X.env := by rfl) (hn : x ≠ "__name__" := by decide) (hdb : (x == ("__debug__" : Str)) = false := by decide)
    (hst : starEach [.Attribute o f p1] X.env = (false, eval (.Attribute o f p1) X.env) :: starEach [] X.env := by rfl) (hpl : (backTo pos (starEach [] X.env)).any (·.1) = false := by rfl) :
    CE ca X (.Call (.Name x p) [.Attribute o f p1] [] pos) (eFOp C i f fop) := fun Hf H R σ st Q pr h =>
  we_of (pe_callTy hc hg hm hv (pa_cons (pe_fld ho hb) pa_nil hst) hn hdb hst hpl) (fop_core hs c nf pr h)
end
end DL

set_option maxHeartbeats 1000000
/-! DL151: self.f.pop(), self.f.reverse(), self.f.clear(), f an own list in a field of the slot's own instance. -/
namespace DL
open PySem PySem.Spec PyProof.Rows L2
def eFM0 (C i : Nat) (f : Str) (fm : List D → Option (D × List D)) : ME := fun st => match getS st i with
  | some (.ins true C0 gs) => if C0 = C then (match gs.lookup f with
    | some (.lst true xs) => (match fm xs with
      | some (d, ys) => .ok d (st.set i (some (.ins true C0 (putD f (.lst true ys) gs))))
      | none => .fail)
    | _ => .fail) else .fail
  | _ => .fail
section
variable {ca : Nat → Addr} {K : PySem.W.Frag} {Hf H : Hp} {X : Cx}
theorem ce_fM0 {o : Expr} {i C : Nat} {f name : Str} {p1 apos cpos : Pos} {id : String} {r : V → List V → Hp → VK → Prop} {fm : List D → Option (D × List D)} (slot : Slot "list" name id) (hty : typeOf (.builtin id) = pure (.type "method_descriptor")) (hm : MtR X id r) (hf : M0S ca X.K r fm)
    (c : Cls X.K (ca C)) (nf : NoAttr X.K (ca C) f) (ho : PE X o (tVar i)) (hb : attributeBase o f X.env (eval o X.env) = eval o X.env := by rfl)
    (hbase : attributeBase (.Attribute o f p1) name X.env (eval (.Attribute o f p1) X.env) = eval (.Attribute o f p1) X.env := by rfl) (hline : (apos.endLine == cpos.line) = true := by rfl) :
    CE ca X (.Call (.Attribute (.Attribute o f p1) name apos) [] [] cpos) (eFM0 C i f fm) := fun Hf H R σ st Q p h => by
  refine we_of (pe_bm0 PySem.F.plainAttrs_list slot hty hm (pe_fld ho hb) hbase hline) ?_
  unfold eFM0 at h
  cases g1 : getS st i with
  | none => rw [g1] at h; exact h.elim
  | some di =>
    rw [g1] at h
    cases di with
    | ins ow C0 gs =>
      cases ow with
      | false => exact h.elim
      | true =>
        dsimp only at h
        by_cases hc : C0 = C
        · subst hc
          rw [if_pos rfl] at h
          cases lf : gs.lookup f with
          | none => rw [lf] at h; exact h.elim
          | some dl =>
            rw [lf] at h
            cases dl with
            | lst ow2 xs =>
              cases ow2 with
              | false => exact h.elim
              | true =>
                dsimp only at h
                cases ef : fm xs with
                | none => rw [ef] at h; exact h.elim
                | some dy =>
                  obtain ⟨d, ys⟩ := dy
                  rw [ef] at h
                  obtain ⟨a, dx, fs, ev, ra, ea, kk, r2⟩ := p.ownIns g1
                  obtain ⟨b, ws, T, lb, sb, eb, rb, back⟩ := fld_at kk r2 lf
                  obtain ⟨v, us, ru, rv, q⟩ := hf Hf H _ b ws xs d ys rb eb ef
                  have hk : ∀ c o, c ≠ b → H c = some o → upd H b (.lst us) c = some o := fun c o n e => by rw [upd_ne n]; exact e
                  refine ⟨.ref a, ev, a, ca C0, dx, fs, .ref b, rfl, ea, c, nf, lb, .inl ⟨rfl, ws, .inl (.inl eb)⟩, q Q ?_⟩
                  have rA := back _ us ys hk upd_same (ru.keep (fun _ _ e => e) fun c z o e => hk c o z.2 e)
                  obtain ⟨p2, t2⟩ := p.writeFld g1 ev ra ea sb.1 sb.2 (putD_same kk lf) rA
                  exact h Hf (upd H b (.lst us)) Em R v (t2.less fun b q => q) (p2.put (rv Hf _ (fun _ _ e => e) hk))
            | _ => exact h.elim
        · rw [if_neg hc] at h; exact h.elim
    | _ => exact h.elim
end
end DL

set_option maxHeartbeats 1000000
/-! DL152: a field of the slot's own instance as a target (of an unpacking). -/
namespace DL
open PySem PySem.Spec PyProof.Rows L2
def gFldT (K : PySem.W.Frag) (f : Str) (ta : TE) : TG := fun v σ H Q => ta σ H fun x H1 => ∃ a C dx fs, x = .ref a ∧ H1 a = some (.ins C dx fs) ∧ Cls K C ∧ NoAttr K C f ∧ fs.length < 1000 ∧ Q σ (upd H1 a (.ins C dx (putF f v fs)))
theorem pg_fld {X : Cx} {o : Expr} {f : Str} {pos : Pos} {ta : TE} (ha : PE X o ta) : PG X (.Attribute o f pos) (gFldT X.K f ta) := by
  refine ⟨fun pins s σ H v u Q I r h => ?_⟩
  rw [assign_Attribute]
  refine wpAny_bind (wpAny_holding (thn (ha.run pins s σ H _ I h) fun ov s1 ⟨x, H1, I1, rx, a, C, dx, fs, ex, ea, c, n, l, q⟩ => ?_))
  subst ex
  obtain rfl : ov = Value.ref a := rx
  refine wpAny_bind (wpAny_standAt (wpAny_bind (wpAny_holding (setattr_ok I1 ea c n l r fun s3 I3 => ?_))))
  exact wpAny_release ⟨σ, _, I3, q⟩
/-- the value goes into the field -/
def gFldM (C i : Nat) (f : Str) : MG := fun d st => match getS st i with
  | some (.ins true C' fs) => if C' = C ∧ fs.length < 1000 then .ok () (st.set i (some (.ins true C' (putD f d fs)))) else .fail
  | _ => .fail
section
variable {ca : Nat → Addr} {X : Cx} {L : List Nat}
theorem cg_fldO {o : Expr} {i C : Nat} {f : Str} {pos : Pos} (c : Cls X.K (ca C)) (n : NoAttr X.K (ca C) f) (ho : PE X o (tVar i)) : CG ca X L (.Attribute o f pos) (gFldT X.K f (tVar i)) (gFldM C i f) :=
  ⟨pg_fld ho, fun Hf H P R σ st v d Q p hq => by
    unfold gFldM at hq
    cases g : getS st i with
    | none => rw [g] at hq; exact hq.elim
    | some dx =>
      rw [g] at hq
      cases dx with
      | ins ow C' gs =>
        cases ow with
        | false => exact hq.elim
        | true =>
          dsimp only at hq
          by_cases hc : C' = C ∧ gs.length < 1000
          · rw [if_pos hc] at hq
            obtain ⟨rfl, hl⟩ := hc
            obtain ⟨a, dx, fs, ev, ra, e2, kk, r2⟩ := p.drop.ownIns g
            have hlen : fs.length = gs.length := by
              have := congrArg List.length kk
              simpa using this
            refine ⟨.ref a, ev, a, _, dx, fs, rfl, e2, c, n, by omega, ?_⟩
            obtain ⟨p2, t2⟩ := PR.writeOwn (dx := dx) p g ev ra (putD_keys (f := f) (y := v) (d := d) kk) (putD_own p.pend (fun b q1 q2 => p.dp i b q2 q1.1) kk r2)
            exact hq Hf _ _ σ t2 p2 Lk.refl
          · rw [if_neg hc] at hq; exact hq.elim
      | _ => exact hq.elim⟩
end
end DL

set_option maxHeartbeats 1000000
/-! DL153: a property whose getter is a guarded def (FnG), read; also of an own instance in a slot (lent for the call). -/
namespace DL
open PySem PySem.Spec PyProof.Rows L2
theorem getpropG_ok {X : Cx} {k : Nat} {C p g a dx : Addr} {fs : List (Str × V)} {f : Str} {sp : Sp} {pins : List (Addr × Obj)} {σ : L2.St} {H : Hp} {s : Shared} {Q : VK} {b : Bool} {E' : Value → Shared → Prop} (I : Inv X pins σ H s) (ea : H a = some (.ins C dx fs)) (c : Cls X.K C) (hp : PropOf X.K C f p g)
    (F : FnG X.prog X.w X.K X.mg X.base (L2.CX X.prog X.w) k g sp) (hr : RoomG (k + 1) X.A) (h : sp [.ref a] H Q E0) :
    wpAny (model X.prog X.w) X.A (getAttr (.ref a) f b) (EP X pins σ Q) E' s := by
  obtain ⟨mA, O, _, _, _, _⟩ := ins_get I.hok ea
  obtain ⟨od, J, _⟩ := O.look
  obtain ⟨rest, hrec⟩ := hp.rec_
  have I1 := I.tok (s.toks + 1)
  have hc : (PySem.W.clsIn X.K C).isSome = true := by
    obtain ⟨cd, hc, _⟩ := PySem.W.any_some c.hd
    rw [hc]
    rfl
  refine PySem.W.get_bind I.kIn J (PySem.W.plainGet_of (c.get f)).1 (PySem.W.findObj_data hc hp.at_ hp.get hp.tak) (PySem.W.plainGet_of (c.get f)).2 (wpAny_call (PySem.W.prop_get (s := { s with toks := s.toks + 1 }) I.kIn hrec ?_))
  refine codeAny_mono (F X.A.in1 X.stack { s with toks := s.toks + 1 } H [.ref a] [.ref a] Q E0 hr.in1 I1.env0.in1 (.cons rfl .nil) h) fun r s' hq => ?_
  cases r with
  | error er => exact False.elim (passL (X := X.nox) pins σ H { s with toks := s.toks + 1 } er s' (I1.wish _) hq)
  | ok fl =>
    cases fl with
    | ret u =>
      obtain ⟨v, H', I3, rv, q3⟩ := I1.after hq
      show wpAny _ _ (handedOut u) _ _ _
      rw [PySem.W.handedOut_of (handed_of rv)]
      exact wpAny_pure ⟨v, H', I3, rv, q3⟩
    | next => exact False.elim hq
    | brk => exact False.elim hq
    | cont => exact False.elim hq
theorem pe_propG {X : Cx} {k : Nat} {C p g : Addr} {f : Str} {sp : Sp} {e : Expr} {pos : Pos} {ta : TE} (he : PE X e ta) (c : Cls X.K C) (hp : PropOf X.K C f p g) (F : FnG X.prog X.w X.K X.mg X.base (L2.CX X.prog X.w) k g sp) (hr : RoomG (k + 1) X.A)
    (hab : attributeBase e f X.env (eval e X.env) = eval e X.env) : PE X (.Attribute e f pos) (fun σ H Q => ta σ H fun x H1 => ∃ a dx fs, x = .ref a ∧ H1 a = some (.ins C dx fs) ∧ sp [.ref a] H1 Q E0) := by
  refine ⟨fun pins s σ H Q I h => ?_⟩
  refine attr_of hab (thn (he.run pins s σ H _ I h) fun u s1 ⟨x, H1, I1, rx, a, dx, fs, ex, ea, q⟩ => ?_)
  subst ex
  obtain rfl : u = Value.ref a := rx
  exact getpropG_ok I1 ea c hp F hr q
/-- an outcome that raises is not allowed -/
def noExc (m : MF) : MF := fun ds => match m ds with
  | .ok d ps => .ok d ps
  | _ => .fail
theorem spM_noExc {ca : Nat → Addr} {K : PySem.W.Frag} {m : MF} {vs : List V} {H : Hp} {Q : VK} {E : XK} (h : spM ca K (noExc m) vs H Q E) : spM ca K m vs H Q E0 := by
  obtain ⟨Hf, P, ds, r, w, q⟩ := h
  refine ⟨Hf, P, ds, r, w, ?_⟩
  unfold noExc at q
  cases e : m ds with
  | ok d ps => rw [e] at q; exact q
  | exc x ps => rw [e] at q; exact q.elim
  | fail => rw [e] at q; exact q.elim
def ePropG (C : Nat) (nm : Str) (m : MF) (i : Nat) : ME := eMthL C nm (noExc m) i aNil
section
variable {ca : Nat → Addr} {X : Cx}
theorem insOf_rep1 {C : Nat} {nm : Str} {Hf H : Hp} {S : Rg} {v : V} {d : D} (hx : Ex Hf H) (r : Rep ca X.K Hf H S v d) (h : insOf C nm d = true) : ∃ a dx fs, v = .ref a ∧ H a = some (.ins (ca C) dx fs) := by
  obtain ⟨a, dx, fs, e1, e2, _⟩ := insOf_rep hx r h
  exact ⟨a, dx, fs, e1, e2⟩
theorem ce_propL {k C : Nat} {p g : Addr} {nm : Str} {o : Expr} {i : Nat} {m : MF} {pos : Pos} (c : Cls X.K (ca C)) (hp : PropOf X.K (ca C) nm p g) (F : FnG X.prog X.w X.K X.mg X.base (L2.CX X.prog X.w) k g (spM ca X.K m)) (hr : RoomG (k + 1) X.A)
    (ho : PE X o (tVar i)) (hab : attributeBase o nm X.env (eval o X.env) = eval o X.env := by rfl) :
    CE ca X (.Attribute o nm pos) (ePropG C nm m i) := fun Hf H R σ st Q pr h => by
  refine we_of (pe_propG ho c hp F hr hab) ?_
  unfold ePropG eMthL at h
  cases eg : getS st i with
  | none => rw [eg] at h; exact h.elim
  | some d0 =>
    rw [eg] at h
    change Post ca X Hf H _ σ (if insOf C nm d0 = true then _ else .fail) Q at h
    by_cases hi : insOf C nm d0 = true
    · rw [if_pos hi] at h
      have h1 : Post ca X Hf H (jn Em R) σ ((aNil st).bind fun es st2 =>
        (match getS st2 i with
        | some d => if hot d then (match noExc m ([] ++ d :: es) with
            | .ok r ps => .ok r (st2.set i (getS ps ([] : List D).length))
            | .exc x ps => .exc x (st2.set i (getS ps ([] : List D).length))
            | .fail => .fail) else (match noExc m ([] ++ d :: es) with
            | .ok r _ => .ok r st2
            | .exc x _ => .exc x st2
            | .fail => .fail)
        | none => .fail)) Q := by
        unfold eCallL aNil at h
        dsimp only [Res.bind] at h
        rw [eg] at h
        dsimp only [aNil, Res.bind]
        rw [eg]
        exact h
      obtain ⟨v, ev, rv⟩ := pr.at_ i d0 eg
      obtain ⟨v0, ev0, q⟩ := lent_tail (E := fun σ cls dd H' => wX X cls dd σ H') (fs := []) (cl_nil) (pr.toP (fun _ q => q) (RepL.nil)) eg h1 rfl
      rw [ev] at ev0
      cases ev0
      obtain ⟨a, dx, fs, e1, e2⟩ := insOf_rep1 pr.w.ex rv hi
      subst e1
      exact ⟨.ref a, ev, a, dx, fs, rfl, e2, spM_noExc q⟩
    · rw [if_neg hi] at h; exact h.elim
end
end DL

set_option maxHeartbeats 1000000
/-! DL154: an expression that only reads an owned thing in a slot: it is let stand for the expression's time, and then owned again. The value must be flat, or an own list of flat things; the other slots must be empty or flat. -/
namespace DL
open PySem PySem.Spec PyProof.Rows L2
def flatO : Option D → Bool
  | none => true
  | some d => flat d
def flatR : D → Bool
  | .lst true xs => xs.all flat
  | d => flat d
def flatBut (st : Sl) (i : Nat) : Bool := (List.range st.length).all fun j => decide (j = i) || flatO (getS st j)
def eThaw (i : Nat) (m : ME) : ME := fun st => match getS st i with
  | some d0 => match m (st.set i (some (frz d0))) with
    | .ok r st2 => if flatR r = true ∧ flatBut st2 i = true then .ok r (st2.set i (some d0)) else .fail
    | _ => .fail
  | none => .fail
section
variable {ca : Nat → Addr} {K : PySem.W.Frag} {Hf H Hf1 H1 : Hp} {S S1 : Rg} {X : Cx}
theorem repT_flat {v : V} {d : D} (r : Rep ca K Hf H S v d) (h : flat d = true) : Rep ca K Hf1 H1 Em v d := by
  cases r with
  | non => exact .non
  | bl => exact .bl
  | int => exact .int
  | str => exact .str
  | _ => cases h
theorem repTL_flat : ∀ {S : Rg} {vs : List V} {ds : List D}, RepL ca K Hf H S vs ds → ds.all flat = true → RepL ca K Hf1 H1 Em vs ds
  | _, _, _, .nil, _ => .nil
  | _, _, _, .cons r1 r2 h1 h2 h3, h => by
    rw [List.all_cons, Bool.and_eq_true] at h
    exact .cons (repT_flat r1 h.1) (repTL_flat r2 h.2) (fun _ q => q) (fun _ q => q) fun _ q _ => q
theorem rep_flatR {v : V} {d : D} (r : Rep ca K Hf H S v d) (h : flatR d = true) : Rep ca K Hf1 H S v d := by
  cases r with
  | lstO s e rl => exact .lstO s e ((repTL_flat rl h).mono fun _ q => q.elim)
  | non => exact .non
  | bl => exact .bl
  | int => exact .int
  | str => exact .str
  | _ => cases h
theorem flatBut_at {st : Sl} {i j : Nat} {d : D} (h : flatBut st i = true) (hj : j ≠ i) (e : getS st j = some d) : flat d = true := by
  have hl : j < st.length := by
    refine Decidable.byContradiction fun q => ?_
    unfold getS at e
    rw [List.getElem?_eq_none_iff.mpr (Nat.le_of_not_lt q)] at e
    cases e
  have := List.all_eq_true.mp h j (List.mem_range.mpr hl)
  rw [e] at this
  simpa [hj, flatO] using this
theorem ce_thaw {e : Expr} {i : Nat} {m : ME} (hm : CE ca X e m) : CE ca X e (eThaw i m) := fun Hf H R σ st Q p h => by
  unfold eThaw at h
  cases g : getS st i with
  | none => rw [g] at h; exact h.elim
  | some d0 =>
    rw [g] at h
    dsimp only at h
    obtain ⟨v0, ev, r0⟩ := p.at_ i d0 g
    obtain ⟨Hf', _, _, _, t1, p1⟩ := p.freeze g
    refine hm Hf' H _ σ _ Q p1 ?_
    cases em : m (st.set i (some (frz d0))) with
    | fail => rw [em] at h; exact h.elim
    | exc x st1 => rw [em] at h; exact h.elim
    | ok r st2 =>
      rw [em] at h
      dsimp only at h
      by_cases hc : flatR r = true ∧ flatBut st2 i = true
      · rw [if_pos hc] at h
        intro Hf2 H2 P2 R2 v t2 p2
        let Hf3 : Hp := fun b => if Classical.propDecidable (R i b) |>.decide then none else Hf2 b
        have hy : ∀ b, R i b → Hf3 b = none := fun b q => by
          show (if _ then _ else _) = _
          rw [if_pos (by simpa using q)]
        have hno : ∀ b, ¬ R i b → Hf3 b = Hf2 b := fun b q => by
          show (if _ then _ else _) = _
          rw [if_neg (by simpa using q)]
        have hsub : ∀ b o, Hf3 b = some o → ¬ R i b ∧ Hf2 b = some o := fun b o q => by
          by_cases z : R i b
          · rw [hy b z] at q; cases q
          · rw [hno b z] at q; exact ⟨z, q⟩
        have nR : ∀ b, R i b → ¬ jn Em (fun j b => j ≠ i ∧ R j b) b := fun b q z => by
          rcases z with z | ⟨j, z1, z2⟩
          · exact z
          · exact z1 (p.dj j i b z2 q)
        have kR : ∀ b o, R i b → H b = some o → H2 b = some o := fun b o q e => t2.keep b o e (nR b q)
        have hx : Ex Hf Hf3 := fun b o q => by
          have z : ¬ R i b := fun z => by rw [p.w.nf b (.inr ⟨i, z⟩)] at q; cases q
          rw [hno b z]
          exact t2.fx b o (t1.fx b o q)
        have nP : ∀ b, P2 b → R i b → False := fun b q z => by
          rcases t2.nw b (.inl q) with w | w
          · exact nR b z w
          · obtain ⟨o, eo⟩ := p.w.dm b (.inr ⟨i, z⟩)
            rw [w] at eo; cases eo
        have t3 := t1.trans t2
        refine h Hf3 H2 P2 (fun j b => j = i ∧ R i b) v ⟨hx, fun b o e n => t3.keep b o e n, fun b q => ?_, fun b o e => t3.fz b o (hsub b o e).2⟩
          ⟨rep_flatR p2.pend hc.1, by rw [List.length_set]; exact p2.len, fun j d e => ?_, fun j k b q1 q2 => q1.1.trans q2.1.symm, fun j b q1 q2 => nP b q1 q2.2, ⟨fun b o e => p2.w.ex b o (hsub b o e).2, fun b q => ?_, fun b q => ?_⟩⟩
        · rcases q with q | ⟨j, _, q⟩
          · exact t3.nw b (.inl q)
          · exact .inl (.inr ⟨i, q⟩)
        · rcases set_get e with ⟨q1, q2⟩ | ⟨q1, q2⟩
          · subst q1
            cases q2
            exact ⟨v0, ev, (r0.keep hx fun b q o e => kR b o q e).mono fun b q => ⟨rfl, q⟩⟩
          · obtain ⟨v', e1, r1⟩ := p2.at_ j d q2
            exact ⟨v', e1, (repT_flat r1 (flatBut_at hc.2 (Ne.symm q1) q2)).mono fun _ q => q.elim⟩
        · rcases q with q | ⟨j, _, q⟩
          · exact p2.w.dm b (.inl q)
          · obtain ⟨o, eo⟩ := p.w.dm b (.inr ⟨i, q⟩)
            exact ⟨o, kR b o q eo⟩
        · rcases q with q | ⟨j, _, q⟩
          · rw [hno b fun z => nP b q z]; exact p2.w.nf b (.inl q)
          · exact hy b q
      · rw [if_neg hc] at h; exact h.elim
end
end DL

set_option maxHeartbeats 2000000
/-! DL155: != of two lists all of whose items are equal by eqBool (own == inside): the answer False. -/
namespace DL
open PySem PySem.SeqAt GQ
open AutoSeq1 (wpAny_loadPart')
open MeetsSeq MeetsSeq2 MeetsSeq3 SeqRoads2
section
variable {prog : Program} {w : World} {A : Around} {R : Result → Shared → Prop}
theorem ne_loopG (l b : Addr) (N : Nat) (I : Nat → Shared → Prop) (hl : ListI prog w A (fun e s' => R (.error e) s') l b N I)
    (fin : ∀ s, I N s → R (.ok (.ret (.bool false))) s) (k : Nat) :
    ∀ i : Nat, N - i = k → i ≤ N → ∀ s, I i s →
      wpAny (model prog w) A.in1 (Builtin.«list.__eq__.loop» ⟨[.ref l, .ref b, rawInt i, rawInt 3], []⟩) (FinOf prog w A R) (fun e s' => R (.error e) s') s := by
  induction k with
  | zero =>
    intro i hk hi s h
    obtain ⟨items, items2, n, n2, hl1, hb1, hs1, hs2, _⟩ := hl _ _ h
    have hi' : i = N := by omega
    have hR : R (.ok (.ret (.bool false))) s := fin s (hi' ▸ h)
    obtain ⟨hp, g, d, tk, os⟩ := s
    wp_walk using wpAny_loadPart' hl1, wpAny_loadPart' hb1
    have hi1 : items[((i : Nat) : Int).toNat]? = none := by simp; omega
    have hi2 : items2[((i : Nat) : Int).toNat]? = none := by simp; omega
    rw [hi1, hi2]
    wp_walk using wpAny_loadPart' hl1, wpAny_loadPart' hb1
    show R (.ok (.ret (.bool (items.size != items2.size)))) _
    rw [hs1, hs2]
    simpa using hR
  | succ k ih =>
    intro i hk hi s h
    obtain ⟨items, items2, n, n2, hl1, hb1, hs1, hs2, turn⟩ := hl _ _ h
    have hlt : i < items.size := by omega
    have hlt2 : i < items2.size := by omega
    have ht := turn hlt hlt2
    obtain ⟨hp, g, d, tk, os⟩ := s
    wp_walk using wpAny_loadPart' hl1, wpAny_loadPart' hb1
    have hi1 : items[((i : Nat) : Int).toNat]? = some items[i] := by simp [hlt]
    have hi2 : items2[((i : Nat) : Int).toNat]? = some items2[i] := by simp [hlt2]
    have hc : ((i : Int) + 1) = ((i + 1 : Nat) : Int) := by omega
    rw [hi1, hi2]
    refine wpAny_bind (wpAny_mono ht (fun r s2 h2 => ?_) fun _ _ x => x)
    obtain ⟨hr, h2⟩ := h2
    subst hr
    have hrec := ih (i + 1) (by omega) (by omega) s2 h2
    obtain ⟨hp2, g2, d2, tk2, os2⟩ := s2
    wp_walk
    rw [hc]
    exact ⟨plainId_quiet plain_eq_loop _, codeAny_builtin entry_eq_loop (by
      rw [Around.under_plainId plain_eq_loop _]
      exact hrec)⟩
theorem list_neG (l b : Addr) (N : Nat) (I : Nat → Shared → Prop) (hl : ListI prog w A (fun e s' => R (.error e) s') l b N I)
    (fin : ∀ s, I N s → R (.ok (.ret (.bool false))) s) {s : Shared} (h : I 0 s) :
    wpAny (model prog w) A.in1 (Builtin.«list.__ne__» ⟨[.ref l, .ref b], []⟩) (FinOf prog w A R) (fun e s' => R (.error e) s') s := by
  obtain ⟨items, items2, n, n2, hl1, hb1, hs1, hs2, _⟩ := hl _ _ h
  have hrec := ne_loopG (A := A) (R := R) l b N I hl fin _ 0 rfl (Nat.zero_le _) s h
  obtain ⟨hp, g, d, tk, os⟩ := s
  have f3 := AutoSeq1.sub_list_list
  have hne : ¬ (items.size != items2.size) = true := by simp [hs1, hs2]
  wp_walk using wpAny_loadPart' hl1, wpAny_loadPart' hb1
  exact ⟨plainId_quiet plain_eq_loop _, codeAny_builtin entry_eq_loop (by
    rw [Around.under_plainId plain_eq_loop _]
    exact hrec)⟩
end
section
variable {prog : Program} {w : World} {A : Around} {E : Value → Shared → Prop} {s : Shared}
theorem rn_listG {l b : Addr} {N : Nat} {Q : Value → Shared → Prop} (hu : A.units < cLine) (I : Nat → Shared → Prop) (hl : ListI prog w A E l b N I)
    (fin : ∀ s, I N s → Q (.bool false) s) (h : I 0 s) : wpAny (model prog w) A (richCompare .NotEq (.ref l) (.ref b)) Q E s := by
  obtain ⟨items, items2, n, n2, hl1, hb1, _, _, _⟩ := hl _ _ h
  refine wpAny_richCompare_same_room (op := .NotEq) ⟨_, hl1, rfl⟩ ⟨_, hb1, rfl⟩ F.slot_list_ne (call_here F.slot_list_ne ⟨_, hl1, rfl⟩ F.entry_list_ne (F.args_list_ne_2 _ _) ?_) hu
  exact list_neG (R := wants (fun v s' => v ≠ .notImplemented ∧ Q v s') E) l b N I hl (fun s' q => ⟨(fun x => nomatch x), fin s' q⟩) h
end
open PySem.Spec PyProof.Rows L2
section
variable {X : Cx} {n : Nat} {D : Eqv}
end
end DL

/-! DL156: sleeping generators stay as they are while code that does not wake them runs (a frame rule for generators, own work over Runs). -/
namespace DL
open PySem PyProof.Rows
open Sem (wp)

/-- only plain frames -/
def NG (fs : List Frame) : Prop := ∀ f ∈ fs, ∃ k h g l c p kp, f = Frame.ret k h g l c p kp
def NGS : GenState → Prop
  | .suspended _ _ _ _ fs _ => NG fs
  | _ => True
/-- a sleeper that can never be woken -/
def Dead (x : GenState) : Prop := ∃ l c p fs cl, x = .suspended (fun _ => .unsupported "") l c p fs cl
def Susp (x : GenState) : Prop := ∃ k l c p fs cl, x = .suspended k l c p fs cl
/-- it cannot be woken: dead, or running -/
def Dz (x : GenState) : Prop := Dead x ∨ x = .running
/-- the left one is a dead copy of the right one, or they are the same -/
inductive E1 : GenState → GenState → Prop
  | same {x} : NGS x → E1 x x
  | dead {k l l' c p fs fs' cl} : fs.map Frame.where_ = fs'.map Frame.where_ → E1 (.suspended (fun _ => .unsupported "") l c p fs cl) (.suspended k l' c p fs' cl)
structure GSim (ga gb : Array GenState) : Prop where
  size : ga.size = gb.size
  at_ : ∀ (i : Nat) (x y : GenState), ga[i]? = some x → gb[i]? = some y → E1 x y
/-- the dead ones on the left, and their likes on the right, stay -/
def GKp (ga gb ga' gb' : Array GenState) : Prop := ∀ (i : Nat) (x y : GenState), ga[i]? = some x → gb[i]? = some y → Dz x → ga'[i]? = some x ∧ gb'[i]? = some y

theorem GSim.get {ga gb : Array GenState} (h : GSim ga gb) {i : Nat} {x : GenState} (e : ga[i]? = some x) : ∃ y, gb[i]? = some y ∧ E1 x y := by
  obtain ⟨hi, _⟩ := Array.getElem?_eq_some_iff.mp e
  have hi' : i < gb.size := by rw [← h.size]; exact hi
  exact ⟨gb[i], Array.getElem?_eq_getElem hi', h.at_ i x _ e (Array.getElem?_eq_getElem hi')⟩
theorem E1.seen {x y : GenState} (h : E1 x y) : x.seen = y.seen := by
  cases h with
  | same _ => rfl
  | dead e => simp only [GenState.seen, e]
theorem E1.bare {x y : GenState} (h : E1 x y) : x.bare = y.bare := by
  cases h with
  | same _ => rfl
  | dead e => rfl
theorem GKp.refl {ga gb : Array GenState} : GKp ga gb ga gb := fun _ _ _ a b _ => ⟨a, b⟩
theorem GKp.trans {ga gb ga' gb' ga2 gb2 : Array GenState} (a : GKp ga gb ga' gb') (b : GKp ga' gb' ga2 gb2) : GKp ga gb ga2 gb2 := fun i x y h1 h2 h3 =>
  let ⟨q1, q2⟩ := a i x y h1 h2 h3
  b i x y q1 q2 h3
theorem GSim.set {ga gb : Array GenState} (h : GSim ga gb) (g : Nat) {z : GenState} (hz : NGS z) : GSim (ga.setIfInBounds g z) (gb.setIfInBounds g z) := by
  refine ⟨by simp [h.size], fun i x y e1 e2 => ?_⟩
  by_cases hi : g = i
  · subst hi
    rw [Array.getElem?_setIfInBounds_self] at e1 e2
    split at e1
    · split at e2
      · cases e1; cases e2; exact .same hz
      · cases e2
    · cases e1
  · rw [Array.getElem?_setIfInBounds_ne hi] at e1 e2
    exact h.at_ i x y e1 e2
theorem GKp.set {ga gb : Array GenState} (g : Nat) {z : GenState} (hn : ∀ x : GenState, ga[g]? = some x → ¬ Dz x) : GKp ga gb (ga.setIfInBounds g z) (gb.setIfInBounds g z) := fun i x y e1 e2 d => by
  have hi : g ≠ i := fun e => hn x (e ▸ e1) d
  rw [Array.getElem?_setIfInBounds_ne hi, Array.getElem?_setIfInBounds_ne hi]
  exact ⟨e1, e2⟩
theorem GSim.push {ga gb : Array GenState} (h : GSim ga gb) {z : GenState} (hz : NGS z) : GSim (ga.push z) (gb.push z) := by
  refine ⟨by simp [h.size], fun i x y e1 e2 => ?_⟩
  rw [Array.getElem?_push] at e1 e2
  rw [h.size] at e1
  split at e1
  · rename_i hi
    rw [if_pos hi] at e2
    cases e1; cases e2
    exact .same hz
  · rename_i hi
    rw [if_neg hi] at e2
    exact h.at_ i x y e1 e2
theorem GKp.push {ga gb : Array GenState} {z z' : GenState} : GKp ga gb (ga.push z) (gb.push z') := fun i x y e1 e2 _ => by
  obtain ⟨h1, _⟩ := Array.getElem?_eq_some_iff.mp e1
  obtain ⟨h2, _⟩ := Array.getElem?_eq_some_iff.mp e2
  rw [Array.getElem?_push, Array.getElem?_push, if_neg (Nat.ne_of_lt h1), if_neg (Nat.ne_of_lt h2)]
  exact ⟨e1, e2⟩
/-- a dead copy -/
def dead : GenState → GenState
  | .suspended _ l c p fs cl => .suspended (fun _ => .unsupported "") l c p (fs.map fun f => Frame.ret (fun _ => .unsupported "") none false [] f.where_.1 f.where_.2 []) cl
  | x => x
/-- the sleepers but those of I are as they were, and what runs runs -/
structure Kept (I : Nat → Prop) (s s' : Shared) : Prop where
  susp : ∀ (i : Nat) (x : GenState), ¬ I i → s.gens[i]? = some x → Susp x → s'.gens[i]? = some x
  run : ∀ i : Nat, s.gens[i]? = some .running → s'.gens[i]? = some .running
theorem Kept.refl {I : Nat → Prop} {s : Shared} : Kept I s s := ⟨fun _ _ _ e _ => e, fun _ e => e⟩
theorem Kept.trans {I J : Nat → Prop} {s s1 s2 : Shared} (a : Kept I s s1) (b : Kept J s1 s2) (h : ∀ i, J i → I i) : Kept I s s2 := ⟨fun i x n e su => b.susp i x (fun z => n (h i z)) (a.susp i x n e su) su, fun i e => b.run i (a.run i e)⟩
end DL

/-! DL157: private things that lie still while code runs that does not know them. -/
namespace DL
open PySem L2 PyProof.Rows

/-- private things: objects, sleeping generators -/
structure Prv where
  obj : Addr → Option Obj
  gen : Nat → Option GenState
  run : Nat → Prop := fun _ => False
  os : Option OsState := Option.none
  s0 : Option Shared := Option.none
def Prv.none : Prv := { obj := fun _ => Option.none, gen := fun _ => Option.none }
/-- a private object, told to the others -/
def PO (b : Addr) (o : Obj) : HO := .ext fun h => h.get? b = some o
def plus (H : Hp) (G : Prv) : Hp := fun b => match G.obj b with
  | some o => some (PO b o)
  | Option.none => H b
def minus (H : Hp) (G : Prv) : Hp := fun b => match G.obj b with
  | some _ => Option.none
  | Option.none => H b
/-- they lie so, nobody knows them -/
structure Held (X : Cx) (pins : List (Addr × Obj)) (H : Hp) (G : Prv) (s : Shared) : Prop where
  obj : ∀ b o, G.obj b = some o → s.heap.get? b = some o ∧ FpOk X pins H b
  gen : ∀ (i : Nat) (x : GenState), G.gen i = some x → s.gens[i]? = some x ∧ Susp x ∧ NGS x
  run : ∀ i : Nat, G.run i → s.gens[i]? = some .running
  os : ∀ o, G.os = some o → X.s_0.os = o
  s0 : ∀ o, G.s0 = some o → X.s_0 = o
theorem Held.nil {X : Cx} {pins : List (Addr × Obj)} {H : Hp} {s : Shared} : Held X pins H Prv.none s := ⟨fun _ _ e => (nomatch e), fun _ _ e => (nomatch e), fun _ e => e.elim, fun _ e => (nomatch e), fun _ e => (nomatch e)⟩
theorem plus_in {H : Hp} {G : Prv} {b : Addr} {o : Obj} (e : G.obj b = some o) : plus H G b = some (PO b o) := by unfold plus; rw [e]
theorem plus_out {H : Hp} {G : Prv} {b : Addr} (e : G.obj b = Option.none) : plus H G b = H b := by unfold plus; rw [e]
theorem minus_in {H : Hp} {G : Prv} {b : Addr} {o : Obj} (e : G.obj b = some o) : minus H G b = Option.none := by unfold minus; rw [e]
theorem minus_out {H : Hp} {G : Prv} {b : Addr} (e : G.obj b = Option.none) : minus H G b = H b := by unfold minus; rw [e]

section
variable {X : Cx} {pins : List (Addr × Obj)} {σ : L2.St} {H H' : Hp} {s s' : Shared} {G : Prv}
theorem obj_of_some {b : Addr} {u : HO} (hn : ∀ b o, G.obj b = some o → H b = Option.none) (e : H b = some u) : G.obj b = Option.none := by
  cases q : G.obj b with
  | none => rfl
  | some o => rw [hn b o q] at e; cases e
theorem po_ok {P : Program} {w : World} {h : Heap} {b : Addr} {o : Obj} (e : h.get? b = some o) : ObjOk P w H h b (PO b o) := ⟨e, ⟨o, e⟩, fun _ _ q k => k o q⟩
theorem _root_.L2.Inv.plus (I : Inv X pins σ H s) (hd : Held X pins H G s) : Inv X pins σ (DL.plus H G) s := by
  have hn : ∀ b o, G.obj b = some o → H b = Option.none := fun b o e => (hd.obj b o e).2.1
  have keep : ∀ b u, H b = some u → DL.plus H G b = some u := fun b u e => by rw [plus_out (obj_of_some hn e)]; exact e
  refine ⟨I.ok, I.os, I.bare, ⟨I.base.keep, I.base.slot, fun b o e n hx => ?_, I.base.there, fun b xs e => keep _ _ (I.base.tups b xs e), fun b o u e => keep _ _ (I.base.frzs b o u e), fun b ps e => ?_⟩, I.loc, I.cell, ?_, fun x c e => ?_, fun p hp => ?_, fun b u e => ?_, I.len⟩
  · cases q : G.obj b with
    | none => rw [plus_out q]; exact I.base.free b o e n hx
    | some o' =>
      rcases (hd.obj b o' q).2.2.2.2.1 with z | z
      · exact absurd z hx
      · exact absurd (Nat.lt_of_lt_of_le (Heap.lt_size e) z) (Nat.lt_irrefl _)
  · obtain ⟨m, q⟩ := I.base.tbls b ps e
    exact ⟨m, keep _ _ q⟩
  · cases q : G.obj X.env.locals with
    | none => rw [plus_out q]; exact I.free
    | some o => exact absurd rfl (hd.obj _ o q).2.2.1
  · cases q : G.obj c with
    | none => rw [plus_out q]; exact I.freeC x c e
    | some o => exact absurd rfl ((hd.obj c o q).2.2.2.2.2.1 x c e)
  · obtain ⟨e, n, r⟩ := I.pin p hp
    refine ⟨e, ?_, r⟩
    cases q : G.obj p.1 with
    | none => rw [plus_out q]; exact n
    | some o => exact absurd rfl ((hd.obj p.1 o q).2.2.2.2.2.2 p hp)
  · cases q : G.obj b with
    | none =>
      rw [plus_out q] at e
      exact (I.hok b u e).stay (fun _ _ _ z => z) (fun c z => keep _ _ z) fun c xs z => keep _ _ z
    | some o =>
      rw [plus_in q] at e
      cases e
      exact po_ok (hd.obj b o q).1
/-- what of the private things' places does not change -/
def Still (X : Cx) (pins : List (Addr × Obj)) (G : Prv) : Prop := ∀ b o, G.obj b = some o → b ≠ X.env.locals ∧ b ∉ X.fs ∧ (b ∈ X.ex ∨ X.s_0.heap.objs.size ≤ b) ∧ (∀ x c, X.env.cells.lookup x = some c → c ≠ b) ∧ ∀ p ∈ X.pn ++ pins, p.1 ≠ b
theorem Held.still (hd : Held X pins H G s) : Still X pins G := fun b o e => (hd.obj b o e).2.2
theorem _root_.L2.Inv.minus (I : Inv X pins σ H' s) (st : Still X pins G) (hp : ∀ b o, G.obj b = some o → H' b = some (PO b o)) : Inv X pins σ (DL.minus H' G) s := by
  have keep : ∀ b u, H' b = some u → (∀ o, u ≠ PO b o) → DL.minus H' G b = some u := fun b u e n => by
    cases q : G.obj b with
    | none => rw [minus_out q]; exact e
    | some o =>
      rw [hp b o q] at e
      cases e
      exact absurd rfl (n o)
  have none' : ∀ b, H' b = Option.none → DL.minus H' G b = Option.none := fun b e => by
    cases q : G.obj b with
    | none => rw [minus_out q]; exact e
    | some o => exact minus_in q
  have back : ∀ b u, DL.minus H' G b = some u → H' b = some u := fun b u e => by
    cases q : G.obj b with
    | none => rw [minus_out q] at e; exact e
    | some o => rw [minus_in q] at e; cases e
  refine ⟨I.ok, I.os, I.bare, ⟨I.base.keep, I.base.slot, fun b o e n hx => none' b (I.base.free b o e n hx), I.base.there, fun b xs e => keep _ _ (I.base.tups b xs e) (fun o z => nomatch z), fun b o u e => keep _ _ (I.base.frzs b o u e) (fun o z => nomatch z), fun b ps e => ?_⟩, I.loc, I.cell, none' _ I.free, fun x c e => none' _ (I.freeC x c e), fun p hp => ?_, fun b u e => ?_, I.len⟩
  · obtain ⟨m, q⟩ := I.base.tbls b ps e
    exact ⟨m, keep _ _ q fun o z => nomatch z⟩
  · obtain ⟨e, n, r⟩ := I.pin p hp
    exact ⟨e, none' _ n, r⟩
  · exact (I.hok b u (back b u e)).stay (fun _ _ _ z => z) (fun c z => keep _ _ z (fun o z => nomatch z)) fun c xs z => keep _ _ z (fun o z => nomatch z)
theorem Held.back (I : Inv X pins σ H' s') (hd : Held X pins H G s) (hp : ∀ b o, G.obj b = some o → H' b = some (PO b o)) (k : Kept (fun _ => False) s s') : Held X pins (DL.minus H' G) G s' :=
  ⟨fun b o e => ⟨(I.hok b _ (hp b o e)).1, minus_in e, hd.still b o e⟩, fun i x e => ⟨k.susp i x (fun z => z) (hd.gen i x e).1 (hd.gen i x e).2.1, (hd.gen i x e).2⟩, fun i e => k.run i (hd.run i e), hd.os, hd.s0⟩
end

section
variable {X : Cx} {pins : List (Addr × Obj)} {σ : L2.St} {H H' Hf : Hp} {s s' : Shared} {G : Prv} {ca : Nat → Addr} {R : Nat → Rg} {st : Sl} {L : List Nat} {P : Rg} {pp : Prop}
theorem PR.plus (p : PR ca X.K Hf H P pp R σ st) (hn : ∀ b o, G.obj b = some o → H b = Option.none) : PR ca X.K Hf (DL.plus H G) P pp R σ st := by
  have keep : ∀ b u, H b = some u → DL.plus H G b = some u := fun b u e => by rw [plus_out (obj_of_some hn e)]; exact e
  refine ⟨p.pend, p.len, fun i d e => ?_, p.dj, p.dp, ⟨fun b o e => keep b o (p.w.ex b o e), fun b q => ?_, p.w.nf⟩⟩
  · obtain ⟨v, e1, r⟩ := p.at_ i d e
    exact ⟨v, e1, r.keep (fun _ _ e => e) fun b _ o e => keep b o e⟩
  · obtain ⟨o, e⟩ := p.w.dm b q
    exact ⟨o, keep b o e⟩
/-- a step among the known things is one without the private ones -/
theorem Tr.minus {S S' : Rg} {Hf' : Hp} (hn : ∀ b o, G.obj b = some o → H b = Option.none) (hS : ∀ b o, G.obj b = some o → ¬ S b) (t : Tr S Hf (DL.plus H G) S' Hf' H') :
    Tr S Hf H S' Hf' (DL.minus H' G) ∧ (∀ b o, G.obj b = some o → H' b = some (PO b o)) ∧ (∀ b o, G.obj b = some o → ¬ S' b) := by
  have kp : ∀ b o, G.obj b = some o → H' b = some (PO b o) := fun b o e => t.keep b _ (plus_in e) (hS b o e)
  have hnone : ∀ b, DL.plus H G b = Option.none → H b = Option.none := fun b e => by
    cases q : G.obj b with
    | none => rw [plus_out q] at e; exact e
    | some o => rw [plus_in q] at e; cases e
  refine ⟨⟨t.fx, fun b o e n => ?_, fun b q => (t.nw b q).imp_right (hnone b), fun b o e => (t.fz b o e).imp_right fun q => q.imp_right (hnone b)⟩, kp, fun b o e q => ?_⟩
  · have g := obj_of_some hn e
    rw [minus_out g]
    exact t.keep b o (by rw [plus_out g]; exact e) n
  · rcases t.nw b q with z | z
    · exact hS b o e z
    · rw [plus_in e] at z; cases z
theorem PR.minus (p : PR ca X.K Hf H' P pp R σ st) (hp : ∀ b o, G.obj b = some o → ¬ jn P R b) (hf : ∀ b o, G.obj b = some o → Hf b = Option.none) : PR ca X.K Hf (DL.minus H' G) P pp R σ st := by
  have keep : ∀ b u, (∀ o, G.obj b ≠ some o) → H' b = some u → DL.minus H' G b = some u := fun b u n e => by
    cases q : G.obj b with
    | none => rw [minus_out q]; exact e
    | some o => exact absurd q (n o)
  refine ⟨p.pend, p.len, fun i d e => ?_, p.dj, p.dp, ⟨fun b o e => keep b o (fun o' q => ?_) (p.w.ex b o e), fun b q => ?_, p.w.nf⟩⟩
  · obtain ⟨v, e1, r⟩ := p.at_ i d e
    exact ⟨v, e1, r.keep (fun _ _ e => e) fun b q o e => keep b o (fun o' z => hp b o' z (.inr ⟨i, q⟩)) e⟩
  · rw [hf b o' q] at e; cases e
  · obtain ⟨o, e⟩ := p.w.dm b q
    exact ⟨o, keep b o (fun o' z => hp b o' z q) e⟩
/-- the pending datum goes with it -/
theorem Rep.minus {S : Rg} {v : V} {d : D} (r : Rep ca X.K Hf H' S v d) (hp : ∀ b o, G.obj b = some o → ¬ S b) : Rep ca X.K Hf (DL.minus H' G) S v d :=
  r.keep (fun _ _ e => e) fun b q o e => by
    cases z : G.obj b with
    | none => rw [minus_out z]; exact e
    | some o' => exact absurd q (hp b o' z)
end
end DL

/-! DL158: what a generator promises that sleeps or has not begun; a for loop over one. -/
namespace DL
open PySem L2 PyProof.Rows

section
variable (ca : Nat → Addr) (P : Program) (w : World) (K : PySem.W.Frag) (mg : Str → Option Value) (base : Heap) (outer : List Env) (k : Nat) (os0 : OsState)
/-- the state in which it may be woken -/
structure Wk (Hf0 : Hp) (G : Prv) (A : Around) (s : Shared) (Hf H : Hp) : Prop where
  room : RoomG k A
  os : s.os = os0
  env : Env0 P w K mg base A outer s H
  fx : Ex Hf0 Hf
  hx : Ex Hf H
  obj : ∀ b o, G.obj b = some o → s.heap.get? b = some o ∧ H b = none ∧ b ∉ frs outer
  gen : ∀ (i : Nat) (x : GenState), G.gen i = some x → s.gens[i]? = some x ∧ NGS x
/-- what its turn leaves: Q the region of what it made -/
structure Woke (G : Prv) (s : Shared) (Hf H : Hp) (s1 : Shared) (Hf1 H1 : Hp) (Q : Rg) (ex : List Addr) : Prop where
  os : s1.os = s.os
  bare : AllBare s1.gens
  exs : ∀ b ∈ ex, ∃ o, G.obj b = some o
  un : Un (frs outer) ex H H1 s.heap s1.heap
  hok : HOk P w H1 s1.heap
  tr : Tr Em Hf H Q Hf1 H1
  w : Wl Hf1 H1 Q
/-- its private things from then on -/
structure Anew (G G1 : Prv) (s s1 : Shared) (H1 : Hp) : Prop where
  obj : ∀ b o, G1.obj b = some o → s1.heap.get? b = some o ∧ H1 b = none ∧ ((∃ o', G.obj b = some o') ∨ s.heap.objs.size ≤ b)
  gen : ∀ (i : Nat) (x : GenState), G1.gen i = some x → s1.gens[i]? = some x ∧ Susp x ∧ NGS x
  run : ∀ i : Nat, ¬ G1.run i
  os : G1.os = none
  s0 : G1.s0 = none
end
section
variable {ca : Nat → Addr} {P : Program} {w : World} {K : PySem.W.Frag} {mg : Str → Option Value} {base : Heap} {outer : List Env} {k : Nat} {os0 : OsState} {Hf0 Hf1 : Hp} {G : Prv}
end
/-- its private things are there, nobody knows them -/
structure Made (X : Cx) (pins : List (Addr × Obj)) (H : Hp) (G : Prv) (s : Shared) : Prop where
  obj : ∀ b o, G.obj b = some o → s.heap.get? b = some o ∧ FpOk X pins H b
  gen : ∀ (i : Nat) (x : GenState), G.gen i = some x → s.gens[i]? = some x ∧ NGS x
theorem Held.made {X : Cx} {pins : List (Addr × Obj)} {H : Hp} {G : Prv} {s : Shared} (h : Held X pins H G s) : Made X pins H G s := ⟨h.obj, fun i x e => ⟨(h.gen i x e).1, (h.gen i x e).2.2⟩⟩
section
variable {ca : Nat → Addr} {X : Cx} {pins : List (Addr × Obj)} {σ : L2.St} {H Hf H1 Hf1 : Hp} {s s1 : Shared} {G G1 : Prv} {R : Nat → Rg} {st : Sl} {L : List Nat} {Q : Rg} {k : Nat}
theorem Made.wk {os0 : OsState} (ho : s.os = os0) (I : Inv X pins σ H s) (hr : RoomG k X.A) (hx : Ex Hf H) (m : Made X pins H G s) : Wk X.prog X.w X.K X.mg X.base X.stack k os0 Hf G X.A s Hf H :=
  ⟨hr, ho, I.env0, fun _ _ e => e, hx, fun b o e => ⟨(m.obj b o e).1, (m.obj b o e).2.1, fun z => (List.mem_cons.mp (I.stkSub b z)).elim (m.obj b o e).2.2.1 (m.obj b o e).2.2.2.1⟩, m.gen⟩
theorem Woke.inv {ex : List Addr} (I : Inv X pins σ H s) (m : Made X pins H G s) (w : Woke X.prog X.w X.stack G s Hf H s1 Hf1 H1 Q ex) : Inv X pins σ H1 s1 :=
  I.call' w.os w.un w.hok w.bare fun b hb => by
    obtain ⟨o, e⟩ := w.exs b hb
    obtain ⟨_, _, f1, _, f3, f4, f5⟩ := m.obj b o e
    exact ⟨f3, f1, f4, f5⟩
theorem Anew.held (I : Inv X pins σ H s) (m : Made X pins H G s) (I1 : Inv X pins σ H1 s1) (a : Anew G G1 s s1 H1) : Held X pins H1 G1 s1 :=
  ⟨fun b o e => by
    obtain ⟨q1, q2, q3⟩ := a.obj b o e
    refine ⟨q1, ?_⟩
    rcases q3 with ⟨o', q3⟩ | q3
    · exact ⟨q2, (m.obj b o' q3).2.2⟩
    · exact I.fpOk q3 q2, a.gen, fun i e => (a.run i e).elim, fun o e => (by rw [a.os] at e; cases e), fun o e => (by rw [a.s0] at e; cases e)⟩
end
end DL

/-! DL159: a list comprehension over a generator (or over what walks one). -/
namespace DL
open PySem L2 PyProof.Rows

section
variable {X : Cx} {pins : List (Addr × Obj)} {σ : L2.St} {H H' Hf : Hp} {s s' : Shared} {G : Prv} {ca : Nat → Addr} {R : Nat → Rg} {st : Sl} {L : List Nat} {P : Rg} {pp : Prop} {k : Nat}
end
end DL

/-! DL160: dead places stay dead; segments of a generator's run with a free end; a heap cut down. -/
namespace DL
open PySem L2 PyProof.Rows
open Sem (wp)

/-! ### the heap only grows, and what is dead stays so -/
structure HM (h h' : Heap) : Prop where
  size : h.objs.size ≤ h'.objs.size
  dead : ∀ b, b < h.objs.size → h.get? b = none → h'.get? b = none
theorem HM.refl {h : Heap} : HM h h := ⟨Nat.le_refl _, fun _ _ e => e⟩
theorem HM.trans {h h1 h2 : Heap} (a : HM h h1) (b : HM h1 h2) : HM h h2 := ⟨Nat.le_trans a.size b.size, fun x hx e => b.dead x (Nat.lt_of_lt_of_le hx a.size) (a.dead x hx e)⟩
theorem HM.push {h : Heap} {o : Obj} : HM h (h.push o) := by
  refine ⟨by rw [Heap.size_push]; exact Nat.le_succ _, fun b hb e => ?_⟩
  cases h with
  | mk objs l =>
    unfold Heap.get? Heap.push at *
    dsimp only at *
    rw [Array.getElem?_push_lt hb]
    rw [Array.getElem?_eq_getElem hb] at e
    exact e
theorem HM.update {h : Heap} {a : Addr} {f : Obj → Obj} (ha : (h.get? a).isSome) : HM h (h.update a f) := by
  refine ⟨by rw [Heap.size_update]; exact Nat.le_refl _, fun b hb e => ?_⟩
  have hne : a ≠ b := fun z => by rw [z, e] at ha; cases ha
  rw [Heap.get?_update_other _ _ hne]
  exact e
theorem runs_hm {M : Model} {Γ : Ctx} {p : Pos} {t : Sem PySem.Fin} {fs : List Frame} {s s' : Shared} {e : End} (h : Runs M Γ p t fs s e s') : HM s.heap s'.heap := by
  induction h with
  | done => exact .refl
  | raise => exact .refl
  | again _ _ ih => exact ih
  | rule _ ih => exact ih
  | «at» _ ih => exact ih
  | load _ _ ih => exact ih
  | update hl _ ih => exact (HM.update hl).trans ih
  | loadIfAlive _ ih => exact ih
  | point _ ih => exact ih
  | alloc _ ih => exact HM.push.trans ih
  | fresh _ ih => exact ih
  | ask _ ih => exact ih
  | choose _ _ ih => exact ih
  | os _ ih => exact ih
  | handled _ ih => exact ih
  | genState _ _ ih => exact ih
  | stack _ ih => exact ih
  | thread _ ih => exact ih
  | newGen _ ih => exact ih
  | call _ _ ih1 ih2 => exact ih1.trans ih2
  | callSusp _ ih1 => exact ih1
  | yield => exact .refl
  | resumeFresh _ _ _ _ ih1 ih2 => exact HM.trans ih1 ih2
  | resumeSuspended _ _ _ _ ih1 ih2 => exact HM.trans ih1 ih2
  | resumeJustStarted _ _ _ ih => exact ih
  | resumeThrowFresh _ _ ih => exact ih
  | resumeRunning _ _ ih => exact ih
  | resumeFinished _ _ ih => exact ih
  | segRet _ _ ih1 ih2 => exact ih1.trans ih2
  | segGen _ _ ih1 ih2 => exact HM.trans ih1 ih2
  | segSuspOut _ _ ih => exact ih
  | segSuspGen _ _ _ _ ih1 ih2 => exact HM.trans ih1 ih2

/-! ### segments: Φ is told the end, or the state in which it sleeps -/
def Sg (M : Model) (A : Around) (Φ : End → Shared → Prop) (c : Code) (t : Sem PySem.Fin) (fs : List Frame) (s : Shared) : Prop := ∀ Γ p, Γ.code = c → Γ.Woken A → ∃ e s', Runs M Γ p t fs s e s' ∧ Φ e s'
section
variable {M : Model} {A : Around} {Φ : End → Shared → Prop} {c : Code} {fs : List Frame} {s : Shared}
theorem Sg.imp {Φ' : End → Shared → Prop} {t : Sem PySem.Fin} (h : Sg M A Φ c t fs s) (hΦ : ∀ e s', HM s.heap s'.heap → Φ e s' → Φ' e s') : Sg M A Φ' c t fs s := fun Γ p hc hΓ =>
  let ⟨e, s', hr, q⟩ := h Γ p hc hΓ
  ⟨e, s', hr, hΦ e s' (runs_hm hr) q⟩
end

/-! ### a heap cut down to its first L places, of which those of p are kept -/
def cutH (h : Heap) (n : Nat) (p : Addr → Bool) : Heap := ⟨Array.ofFn (n := n) fun i => if p i.1 then (h.objs[i.1]?).getD ⟨.none, none, .freed, #[]⟩ else ⟨.none, none, .freed, #[]⟩, h.life⟩
theorem cutH_size {h : Heap} {n : Nat} {p : Addr → Bool} : (cutH h n p).objs.size = n := by simp [cutH]
theorem cutH_get {h : Heap} {n : Nat} {p : Addr → Bool} {b : Addr} (hb : b < n) (hp : p b = true) : (cutH h n p).get? b = h.get? b := by
  unfold Heap.get? cutH
  dsimp only
  rw [Array.getElem?_ofFn, dif_pos hb]
  dsimp only
  rw [if_pos hp]
  cases e : h.objs[b]? with
  | none => rfl
  | some o => rfl
theorem of_cutH {h : Heap} {n : Nat} {p : Addr → Bool} {b : Addr} {o : Obj} (e : (cutH h n p).get? b = some o) : b < n ∧ p b = true ∧ h.get? b = some o := by
  have hb : b < n := by
    have := Heap.lt_size e
    rwa [cutH_size] at this
  cases hp : p b with
  | true => exact ⟨hb, rfl, by rw [← cutH_get hb hp]; exact e⟩
  | false =>
    exfalso
    unfold Heap.get? cutH at e
    dsimp only at e
    rw [Array.getElem?_ofFn, dif_pos hb] at e
    dsimp only at e
    rw [hp] at e
    cases e
end DL

/-! DL161: a generator's body: what it hands out, statement by statement. -/
namespace DL
open PySem L2 PyProof.Rows

mutual
/-- what is owned of it is lists -/
def okD : D → Bool
  | .lst true xs => okDs xs
  | .ins true _ _ => false
  | .dic true _ => false
  | .dct true _ => false
  | _ => true
def okDs : List D → Bool
  | [] => true
  | d :: ds => okD d && okDs ds
end
def okSl : Sl → Bool
  | [] => true
  | none :: st => okSl st
  | some d :: st => okD d && okSl st

/-- a generator's frame -/
structure GF where
  P : Program
  w : World
  K : PySem.W.Frag
  mg : Str → Option Value
  base : Heap
  N : List Str
  env : Env
  outer : List Env
  k : Nat
  a : Addr
  go : Obj
  g : Nat
  os : OsState
def GF.cx (F : GF) (A : Around) (s0 : Shared) : Cx := { prog := F.P, w := F.w, K := F.K, mg := F.mg, base := F.base, A := A.deeper F.env, N := F.N, s_0 := s0, H_0 := fun _ => none, env := F.env, outer := F.outer, stack := F.env :: F.outer, ex := [], fn := fun _ => true, calm := true, pn := [], xe := fun _ _ => False }
/-- what it knows -/
structure GZ where
  Hf : Hp
  H : Hp
  R : Nat → Rg
  σ : L2.St
  st : Sl
  W : Prv
/-- it holds its own object, it runs -/
structure GHold (F : GF) (W : Prv) : Prop where
  obj : W.obj F.a = some F.go
  run : W.run F.g ∧ ∀ i, W.run i → i = F.g
  os : W.os = some F.os
structure GInv (ca : Nat → Addr) (F : GF) (A : Around) (z : GZ) (P : Rg) (pp : Prop) (s : Shared) : Prop where
  cx : ∃ s0 : Shared, s0.heap.objs.size = F.env.locals ∧ Inv (F.cx A s0) [] z.σ z.H s ∧ Held (F.cx A s0) [] z.H z.W s
  room : RoomG F.k (A.deeper F.env)
  pr : PR ca F.K z.Hf z.H P pp z.R z.σ z.st
  hold : GHold F z.W
/-- from z on, no sleep between -/
structure GZ.tr (z : GZ) (P : Rg) (z1 : GZ) : Prop where
  t : Tr (jn Em z.R) z.Hf z.H (jn P z1.R) z1.Hf z1.H
  s0 : z1.W.s0 = z.W.s0
theorem GZ.tr.trans {z z1 z2 : GZ} {P : Rg} (a : z.tr Em z1) (b : z1.tr P z2) : z.tr P z2 := ⟨a.t.trans b.t, b.s0.trans a.s0⟩
theorem GZ.tr.refl {z : GZ} : z.tr Em z := ⟨Tr.refl fun _ q => q, rfl⟩
/-- the same things held -/
structure Prv.Same (W W1 : Prv) : Prop where
  obj : W.obj = W1.obj
  gen : W.gen = W1.gen
  run : W.run = W1.run
  os : W.os = W1.os
theorem Prv.Same.rfl {W : Prv} : Prv.Same W W := ⟨Eq.refl _, Eq.refl _, Eq.refl _, Eq.refl _⟩
theorem Prv.Same.trans {W W1 W2 : Prv} (a : Prv.Same W W1) (b : Prv.Same W1 W2) : Prv.Same W W2 := ⟨a.obj.trans b.obj, a.gen.trans b.gen, a.run.trans b.run, a.os.trans b.os⟩
/-- what the segment's end is to do: the data are handed out one by one, then it ends -/
def GAcc (ca : Nat → Addr) (F : GF) : List D → Around → GZ → (End → Shared → Prop) → Prop
  | [], A, z, Φ => ∀ (s1 : Shared) (z1 : GZ), GInv ca F A z1 Em True s1 → z.tr Em z1 → Φ (.ret (.ok (.ret .none))) s1
  | d :: ds, A, z, Φ => ∀ (s1 : Shared) (z1 : GZ) (P1 : Rg) (v : V) (u : Value) (l' : List Value) (k' : Resume → Sem PySem.Fin) (c' : Code) (p' : Pos) (fs' : List Frame), GInv ca F A z1 P1 (Rep ca F.K z1.Hf z1.H P1 v d) s1 → z.tr P1 z1 → RelV v u → NG fs' → fs'.any Frame.guarded = false → okSl z1.st = true →
      (∀ (A2 : Around) (s2 : Shared) (z2 : GZ), z2.st = z1.st → Prv.Same z2.W z1.W → GInv ca F A2 z2 Em True s2 → Ex z1.Hf z2.Hf → ∀ Φ', GAcc ca F ds A2 z2 Φ' → Sg (model F.P F.w) A2 Φ' c' (k' (.send .none)) fs' s2) →
      Φ (.susp u false l' k' c' p' fs') s1
/-- where the code stands -/
structure GCd (F : GF) (c : Code) (fs : List Frame) (gd : Bool → Bool) : Prop where
  over : ∀ A : Around, A.over c fs = A.deeper F.env
  ng : NG fs
  guard : fs.any Frame.guarded = false
  gd : gd false = false
section
variable {ca : Nat → Addr} {F : GF} {A : Around} {z z' : GZ} {s s' : Shared} {c : Code} {fs : List Frame} {K : Flow → Sem PySem.Fin} {J : Value → Sem PySem.Fin} {gd : Bool → Bool} {lv : List Value → List Value} {dsK ds : List D}
theorem GAcc.from {Φ : End → Shared → Prop} (a : GAcc ca F ds A z Φ) (t : z.tr Em z') : GAcc ca F ds A z' Φ := by
  cases ds with
  | nil => exact fun s1 z1 I t1 => a s1 z1 I (t.trans t1)
  | cons d ds => exact fun s1 z1 P1 v u l' k' c' p' fs' I t1 => a s1 z1 P1 v u l' k' c' p' fs' I (t.trans t1)
theorem GInv.drop {P : Rg} {pp : Prop} (g : GInv ca F A z P pp s) : GInv ca F A z Em True s := ⟨g.cx, g.room, g.pr.drop, g.hold⟩

/-! ### statements that hand out nothing -/
/-! ### lists of statements -/
/-! ### yield -/
end
end DL

/-! DL162: if and for in a generator's body. -/
namespace DL
open PySem L2 PyProof.Rows

section
variable {ca : Nat → Addr} {F : GF} {A : Around} {z z' : GZ} {s s' : Shared} {c : Code} {fs : List Frame} {J : Value → Sem PySem.Fin} {gd : Bool → Bool} {lv : List Value → List Value} {dsK ds : List D}

/-! ### if -/
/-! ### for -/
/-- an iterator's own object, seen from the generator's frame -/
def FpG (F : GF) (H : Hp) (b : Addr) : Prop := H b = none ∧ b ≠ F.env.locals ∧ b ∉ frs F.outer ∧ F.env.locals ≤ b ∧ ∀ x c, F.env.cells.lookup x = some c → c ≠ b
theorem FpG.ok {H : Hp} {b : Addr} {s0 : Shared} (h : FpG F H b) (hs : s0.heap.objs.size = F.env.locals) : FpOk (F.cx A s0) [] H b := ⟨h.1, h.2.1, h.2.2.1, .inr (by show s0.heap.objs.size ≤ b; rw [hs]; exact h.2.2.2.1), h.2.2.2.2, fun p hp => absurd (show p ∈ ([] : List (Addr × Obj)) ++ [] from hp) (by simp)⟩
theorem FpG.of {H : Hp} {b : Addr} {s0 : Shared} (h : FpOk (F.cx A s0) [] H b) (hs : s0.heap.objs.size = F.env.locals) : FpG F H b := ⟨h.1, h.2.1, h.2.2.1, h.2.2.2.1.elim (fun z => absurd (show b ∈ ([] : List Addr) from z) (by simp)) fun z => by rw [← hs]; exact z, h.2.2.2.2.1⟩
/-- the private things and, beside them, the objects at fp as they stand -/
def Prv.more (W : Prv) (fp : List Addr) (h : Heap) : Prv := ⟨fun b => if b ∈ fp then h.get? b else W.obj b, W.gen, W.run, W.os, W.s0⟩
/-- the loop's own things -/
structure Lp (F : GF) (W : Prv) (fp : List Addr) (H : Hp) : Prop where
  its : ∀ b ∈ fp, FpG F H b
  out : ∀ b ∈ fp, W.obj b = none
theorem GHold.same {W W1 : Prv} (x : GHold F W1) (h : Prv.Same W W1) : GHold F W := ⟨by rw [h.obj]; exact x.obj, by rw [h.run]; exact x.run, by rw [h.os]; exact x.os⟩
theorem GHold.more {W : Prv} {fp : List Addr} {h : Heap} (x : GHold F W) (hout : ∀ b ∈ fp, W.obj b = none) : GHold F (W.more fp h) :=
  ⟨by
    show (if F.a ∈ fp then h.get? F.a else W.obj F.a) = some F.go
    rw [if_neg fun hb => by
      have := x.obj
      rw [hout _ hb] at this
      cases this]
    exact x.obj, x.run, x.os⟩
end
end DL

/-! DL163: a for loop in a generator's body. -/
namespace DL
open PySem L2 PyProof.Rows

section
variable {ca : Nat → Addr} {F : GF}
def Prv.at (W : Prv) (o : Option Shared) : Prv := { W with s0 := o }
theorem Prv.Same.at {W : Prv} {o : Option Shared} : Prv.Same (W.at o) W := ⟨Eq.refl _, Eq.refl _, Eq.refl _, Eq.refl _⟩
theorem Held.same {X : Cx} {pins : List (Addr × Obj)} {H : Hp} {W W1 : Prv} {s : Shared} (hd : Held X pins H W s) (h : Prv.Same W W1) : Held X pins H (W1.at W.s0) s :=
  ⟨fun b o e => hd.obj b o (by rw [h.obj]; exact e), fun i x e => hd.gen i x (by rw [h.gen]; exact e), fun i e => hd.run i (by rw [h.run]; exact e), fun o e => hd.os o (by rw [h.os]; exact e), fun o e => hd.s0 o e⟩
end
end DL

/-! DL164: a generator falls asleep and is woken. -/
namespace DL
open PySem L2 PyProof.Rows

section
variable {P : Program} {w : World} {H H' : Hp} {h h' : Heap} {a : Addr} {o : HO} {ca : Nat → Addr} {K : PySem.W.Frag} {Hf Hf' : Hp}
theorem objOk_alive (x : ObjOk P w H h a o) : ∃ u, h.get? a = some u := by
  cases o with
  | lst xs => obtain ⟨_, _, _, _, e⟩ := x; exact ⟨_, e⟩
  | tup xs => obtain ⟨_, _, _, o, e, _⟩ := x; exact ⟨_, e⟩
  | dK kvs => obtain ⟨_, _, _, _, o, _, _, e, _⟩ := x; exact ⟨_, e⟩
  | dT kvs => obtain ⟨_, _, _, _, o, _, _, e, _⟩ := x; exact ⟨_, e⟩
  | set S n => obtain ⟨o, _, _, _, e, _⟩ := x; exact ⟨_, e⟩
  | ins C dx fs => obtain ⟨_, _, _, e, _⟩ := x; exact ⟨_, e⟩
  | own y => exact x
  | xd fs => obtain ⟨_, ⟨o, _, _, e, _⟩, _⟩ := x; exact ⟨_, e⟩
  | rng lo hi => obtain ⟨_, _, _, e⟩ := x; exact ⟨_, e⟩
  | frz ob u => exact ⟨_, x.1⟩
  | tbl ps => exact ⟨_, x⟩
  | met f y => exact ⟨_, x⟩
  | ext φ => exact x.2.1
/-- the region may be cut down to its lists -/
def isLstH (H : Hp) (b : Addr) : Prop := ∃ xs, H b = some (.lst xs)
mutual
theorem rep_shrink : ∀ {d : D} {S : Rg} {v : V}, okD d = true → Rep ca K Hf H S v d → Rep ca K Hf H (fun b => S b ∧ isLstH H b) v d
  | .non, _, _, _, r => by cases r; exact .non
  | .bl _, _, _, _, r => by cases r; exact .bl
  | .int _, _, _, _, r => by cases r; exact .int
  | .str _, _, _, _, r => by cases r; exact .str
  | .scr _, _, _, _, r => by cases r with | scr h => exact .scr h
  | .cls _, _, _, _, r => by cases r; exact .cls
  | .ty _, _, _, _, r => by cases r; exact .ty
  | .lst false _, _, _, _, r => by cases r with | lstF e r => exact .lstF e r
  | .lst true xs, S, _, h, r => by
    cases r with
    | lstO s e r =>
      refine .lstO ⟨s, _, e⟩ e ((repL_shrink (d := xs) (by simpa [okD] using h) r).mono fun b q => ⟨⟨q.1.1, q.2⟩, q.1.2⟩)
  | .tup _, _, _, _, r => by cases r with | tup e r => exact .tup e r
  | .ins false _ _, _, _, _, r => by cases r with | insF e k r => exact .insF e k r
  | .ins true _ _, _, _, h, _ => by simp [okD] at h
  | .dic false _, _, _, _, r => by cases r with | dicF e k r => exact .dicF e k r
  | .dic true _, _, _, h, _ => by simp [okD] at h
  | .dct false _, _, _, _, r => by cases r with | dctF e k r => exact .dctF e k r
  | .dct true _, _, _, h, _ => by simp [okD] at h
  | .xc _ _, _, _, _, r => by cases r with | xc e e2 k r => exact .xc e e2 k r
theorem repL_shrink : ∀ {d : List D} {S : Rg} {v : List V}, okDs d = true → RepL ca K Hf H S v d → RepL ca K Hf H (fun b => S b ∧ isLstH H b) v d
  | [], _, _, _, r => by cases r; exact .nil
  | d :: ds, S, _, h, r => by
    simp only [okDs, Bool.and_eq_true] at h
    cases r with
    | cons r1 r2 h1 h2 h3 => exact .cons (rep_shrink h.1 r1) (repL_shrink h.2 r2) (fun b q => ⟨h1 b q.1, q.2⟩) (fun b q => ⟨h2 b q.1, q.2⟩) fun b q1 q2 => h3 b q1.1 q2.1
end
theorem okS_get : ∀ {st : Sl} {i : Nat} {d : D}, okSl st = true → getS st i = some d → okD d = true
  | [], i, d, _, e => by simp [getS] at e
  | none :: st, 0, d, _, e => by simp [getS] at e
  | none :: st, i + 1, d, h, e => okS_get (st := st) (i := i) (by simpa [okSl] using h) (by simpa [getS] using e)
  | some x :: st, 0, d, h, e => by
    simp only [okSl, Bool.and_eq_true] at h
    have : x = d := by simpa [getS] using e
    rw [← this]
    exact h.1
  | some x :: st, i + 1, d, h, e => by
    simp only [okSl, Bool.and_eq_true] at h
    exact okS_get (st := st) (i := i) h.2 (by simpa [getS] using e)
theorem PR.shrink {R : Nat → Rg} {σ : L2.St} {st : Sl} {Q : Rg} {pp : Prop} (p : PR ca K Hf H Q pp R σ st) (h : okSl st = true) : PR ca K Hf H Q pp (fun i b => R i b ∧ isLstH H b) σ st :=
  ⟨p.pend, p.len, fun i d e => by
    obtain ⟨v, e1, r⟩ := p.at_ i d e
    exact ⟨v, e1, rep_shrink (okS_get h e) r⟩, fun i j b q1 q2 => p.dj i j b q1.1 q2.1, fun i b q1 q2 => p.dp i b q1 q2.1, p.w.mono fun b q => q.imp_right fun ⟨i, q⟩ => ⟨i, q.1⟩⟩
end

/-- it is a generator's object -/
def GenO (g : Nat) (o : Obj) : Prop := ∃ nm qn, o.cls = .type "generator" ∧ o.data = .fields #[.int g 0, nm, qn] ∧ o.slots = #[]
theorem GenO.is {g : Nat} {o : Obj} {h : Heap} {a : Addr} (x : GenO g o) (e : h.get? a = some o) : h.IsGen a g := let ⟨nm, qn, r⟩ := x; ⟨o, nm, qn, e, r⟩
/-- how it sleeps (or has not begun) -/
structure Slp (ca : Nat → Addr) (F : GF) (z : GZ) (s : Shared) : Prop where
  cx : ∃ (A : Around) (s0 : Shared), s0.heap.objs.size = F.env.locals ∧ Inv (F.cx A s0) [] z.σ z.H s ∧ Held (F.cx A s0) [] z.H z.W s
  pr : PR ca F.K z.Hf z.H Em True z.R z.σ z.st
  lst : ∀ i b, z.R i b → isLstH z.H b
  frame : F.env.frame = some F.env.locals
  hold : GHold F z.W
  go : GenO F.g F.go
/-- its private places -/
def isPrv (F : GF) (z : GZ) (b : Addr) : Prop := (∃ i, z.R i b) ∨ b = F.env.locals ∨ ∃ y, F.env.cells.lookup y = some b
open Classical in
noncomputable def prvOf (F : GF) (z : GZ) (s : Shared) (x : GenState) : Prv :=
  ⟨fun b => if isPrv F z b then s.heap.get? b else z.W.obj b, fun i => if i = F.g then some x else z.W.gen i, fun _ => False, none, none⟩
open Classical in
/-- what it knows when it is woken: what it knew of its own, what the others know, all else as private things of others -/
noncomputable def wkH (F : GF) (z : GZ) (G : Prv) (H : Hp) (s : Shared) : Hp := fun b => if (∃ i, z.R i b) then z.H b else match G.obj b with
  | some _ => none
  | none => match H b with
    | some o => some o
    | none => if (F.base.get? b).isSome = true ∨ b ∈ frs F.outer then none else (s.heap.get? b).map (PO b)
open Classical in
/-- what the others know when it falls asleep -/
noncomputable def slH (R1 : Nat → Rg) (G : Prv) (H : Hp) (s : Shared) (H1 : Hp) : Hp := fun b => if (∃ i, R1 i b) then none else if G.obj b = none ∧ H b = none ∧ (s.heap.get? b).isSome = true then none else H1 b

section
variable {ca : Nat → Addr} {F : GF} {z : GZ} {s s1 : Shared} {x : GenState} {A : Around} {Hf H : Hp}
theorem prv_in {b : Addr} (h : isPrv F z b) : (prvOf F z s x).obj b = s.heap.get? b := by unfold prvOf; exact if_pos h
theorem prv_out {b : Addr} (h : ¬ isPrv F z b) : (prvOf F z s x).obj b = z.W.obj b := by unfold prvOf; exact if_neg h
theorem prv_g : (prvOf F z s x).gen F.g = some x := by unfold prvOf; exact if_pos rfl
theorem prv_ne {i : Nat} (h : i ≠ F.g) : (prvOf F z s x).gen i = z.W.gen i := by unfold prvOf; exact if_neg h
theorem wkH_H {G : Prv} {b : Addr} {o : HO} (h : ¬ ∃ i, z.R i b) (e : G.obj b = none) (e2 : H b = some o) : wkH F z G H s b = some o := by unfold wkH; rw [if_neg h, e, e2]
theorem wkH_f {G : Prv} {b : Addr} {o : Obj} (h : ¬ ∃ i, z.R i b) (e : G.obj b = none) (e2 : H b = none) (k : ¬ ((F.base.get? b).isSome = true ∨ b ∈ frs F.outer)) (e3 : s.heap.get? b = some o) : wkH F z G H s b = some (PO b o) := by
  unfold wkH
  rw [if_neg h, e, e2]
  dsimp only
  rw [if_neg k, e3]
  rfl
/-- facts of the sleeper -/
theorem Slp.rtracked (sl : Slp ca F z s) {b : Addr} (h : ∃ i, z.R i b) : ∃ o u, s.heap.get? b = some o ∧ z.H b = some u := by
  obtain ⟨i, h⟩ := h
  obtain ⟨A, s0, _, I, _⟩ := sl.cx
  obtain ⟨xs, e⟩ := sl.lst i b h
  obtain ⟨o, eo⟩ := objOk_alive (I.hok b _ e)
  exact ⟨o, _, eo, e⟩
theorem Slp.prv_some (sl : Slp ca F z s) {b : Addr} (h : isPrv F z b) : ∃ o, (prvOf F z s x).obj b = some o := by
  rw [prv_in h]
  obtain ⟨A, s0, _, I, _⟩ := sl.cx
  rcases h with h | h | ⟨y, h⟩
  · obtain ⟨o, _, e, _⟩ := sl.rtracked h
    exact ⟨o, e⟩
  · obtain ⟨m, ⟨o, _, _, e, _⟩, _⟩ := I.loc
    rw [h]
    exact ⟨o, e⟩
  · obtain ⟨v, o, e, _⟩ := I.cell y b h
    exact ⟨o, e⟩
theorem Slp.basez (sl : Slp ca F z s) : F.base.objs.size ≤ F.env.locals := by
  obtain ⟨A, s0, hs0, I, hd⟩ := sl.cx
  have := I.ok.bsz
  rw [show (F.cx A s0).s_0.heap.objs.size = F.env.locals from hs0] at this
  exact this
/-- the state of the wake, cut down to what the generator may know of it -/
def wkS (F : GF) (s : Shared) : Shared := { s with heap := cutH s.heap F.env.locals fun b => (F.base.get? b).isSome || decide (b ∈ frs F.outer) }
end
end DL

/-! DL165: what a turn of a generator leaves to the others. -/
namespace DL
open PySem L2 PyProof.Rows

section
variable {ca : Nat → Addr} {F : GF} {z z3 : GZ} {s s1 s' s2 : Shared} {x y : GenState} {A : Around} {Hf H : Hp} {P3 : Rg} {pp : Prop} {R3 : Nat → Rg}
noncomputable abbrev wkZ (F : GF) (z : GZ) (s1 : Shared) (x : GenState) (Hf H : Hp) (s : Shared) : GZ := ⟨Hf, wkH F z (prvOf F z s1 x) H s, z.R, z.σ, z.st, z.W.at (some (wkS F s))⟩
theorem slH_R {G : Prv} {H1 : Hp} {b : Addr} (h : ∃ i, R3 i b) : slH R3 G H s H1 b = none := by unfold slH; exact if_pos h
theorem slH_o {G : Prv} {H1 : Hp} {b : Addr} (h : ¬ ∃ i, R3 i b) (h2 : ¬ (G.obj b = none ∧ H b = none ∧ (s.heap.get? b).isSome = true)) : slH R3 G H s H1 b = H1 b := by
  unfold slH
  rw [if_neg h, if_neg h2]
theorem slH_none {G : Prv} {H1 : Hp} {b : Addr} (h : H1 b = none) : slH R3 G H s H1 b = none := by
  unfold slH
  split
  · rfl
  · split
    · rfl
    · exact h
/-- all that follows from a turn -/
structure Asl (ca : Nat → Addr) (F : GF) (z z3 : GZ) (s1 s s' : Shared) (x : GenState) (A : Around) (Hf H : Hp) (P3 : Rg) (pp : Prop) : Prop where
  sl : Slp ca F z s1
  wk : Wk F.P F.w F.K F.mg F.base F.outer (F.k + 2) F.os z.Hf (prvOf F z s1 x) A s Hf H
  gi : GInv ca F A.in1 z3 P3 pp s'
  tr : GZ.tr (wkZ F z s1 x Hf H s) P3 z3
  hm : HM s.heap s'.heap
section
variable (q : Asl ca F z z3 s1 s s' x A Hf H P3 pp)
include q
theorem Asl.inv : ∃ s0, s0.heap = (wkS F s).heap ∧ s0.os = F.os ∧ s0.heap.objs.size = F.env.locals ∧ Inv (F.cx A.in1 s0) [] z3.σ z3.H s' ∧ Held (F.cx A.in1 s0) [] z3.H z3.W s' := by
  obtain ⟨s0, h1, I, hd⟩ := q.gi.cx
  refine ⟨s0, ?_, hd.os F.os q.gi.hold.os, h1, I, hd⟩
  have := hd.s0 (wkS F s) q.tr.s0
  rw [← this]
  rfl
theorem Asl.pnone {b : Addr} {o : Obj} (e : (prvOf F z s1 x).obj b = some o) : H b = none := (q.wk.obj b o e).2.1
theorem Asl.gnone {b : Addr} {u : HO} (e : H b = some u) : (prvOf F z s1 x).obj b = none := by
  cases h : (prvOf F z s1 x).obj b with
  | none => rfl
  | some o => rw [q.pnone h] at e; cases e
theorem Asl.rprv {b : Addr} (h : ∃ i, z.R i b) : ∃ o, (prvOf F z s1 x).obj b = some o := q.sl.prv_some (.inl h)
/-- what the others knew is known still -/
theorem Asl.keep {b : Addr} {u : HO} (e : H b = some u) : z3.H b = some u := by
  have nR : ¬ ∃ i, z.R i b := fun h => by
    obtain ⟨o, e2⟩ := q.rprv h
    rw [q.pnone e2] at e; cases e
  refine q.tr.t.keep b u (wkH_H nR (q.gnone e) e) fun h => ?_
  rcases h with h | h
  · exact h
  · exact nR h
/-- what nobody knew is as it was -/
theorem Asl.foreign {b : Addr} {o : Obj} (e1 : (prvOf F z s1 x).obj b = none) (e2 : H b = none) (e3 : s.heap.get? b = some o) (k : ¬ ((F.base.get? b).isSome = true ∨ b ∈ frs F.outer)) : z3.H b = some (PO b o) ∧ s'.heap.get? b = some o := by
  have nR : ¬ ∃ i, z.R i b := fun h => by
    obtain ⟨o, e⟩ := q.rprv h
    rw [e1] at e; cases e
  obtain ⟨s0, _, _, _, I, _⟩ := q.inv
  have h := q.tr.t.keep b _ (wkH_f nR e1 e2 k e3) fun h => h.elim (fun h => h) nR
  exact ⟨h, (I.hok b _ h).1⟩
theorem Asl.base {b : Addr} {o : Obj} (e : F.base.get? b = some o) : s'.heap.get? b = some o ∧ z3.H b = none := by
  obtain ⟨s0, _, _, _, I, _⟩ := q.inv
  exact I.bs b o e
theorem Asl.fr {b : Addr} (hb : b ∈ frs F.outer) : ∃ o, s.heap.get? b = some o ∧ z3.H b = none ∧ ∃ sl, s'.heap.get? b = some { o with slots := sl } := by
  obtain ⟨s0, h0, _, h1, I, _⟩ := q.inv
  obtain ⟨hn, o, ho, _⟩ := I.ok.funs.mem hb
  have ho : s0.heap.get? b = some o := ho
  rw [h0] at ho
  obtain ⟨_, _, hs⟩ := of_cutH ho
  have hx : b ∉ (F.cx A.in1 s0).ex := fun z => absurd (show b ∈ ([] : List Addr) from z) (by simp)
  obtain ⟨sl, e⟩ := I.base.slot b o (by show s0.heap.get? b = some o; rw [h0]; exact ho) rfl hb hx
  exact ⟨o, hs, I.base.free b o (by show s0.heap.get? b = some o; rw [h0]; exact ho) rfl hx, sl, e⟩
/-- a place that lived and was not private is known to it, or a private thing of others -/
theorem Asl.alive {b : Addr} {o : Obj} (e : s.heap.get? b = some o) (n : (prvOf F z s1 x).obj b = none) (h1 : z3.H b = none ∨ isLstH z3.H b) : (∃ u, H b = some u ∧ z3.H b = some u) ∨ (F.base.get? b).isSome = true ∨ b ∈ frs F.outer := by
  cases h : H b with
  | some u => exact .inl ⟨u, rfl, q.keep h⟩
  | none =>
    refine .inr (Classical.byContradiction fun k => ?_)
    have := (q.foreign n h e k).1
    rcases h1 with h1 | ⟨xs, h1⟩
    · rw [h1] at this; cases this
    · rw [h1] at this; cases this
theorem Asl.slp (hok : okSl z3.st = true) : Slp ca F { z3 with R := fun i b => z3.R i b ∧ isLstH z3.H b } s' := by
  obtain ⟨s0, h1, I, hd⟩ := q.gi.cx
  exact ⟨⟨A.in1, s0, h1, I, hd⟩, q.gi.pr.drop.shrink hok, fun i b h => h.2, q.sl.frame, q.gi.hold, q.sl.go⟩
theorem Asl.anew (hok : okSl z3.st = true) (hy : Susp y ∧ NGS y) : Anew (prvOf F z s1 x) (prvOf F { z3 with R := fun i b => z3.R i b ∧ isLstH z3.H b } s' y) s (s'.setGen F.g y) (slH (fun i b => z3.R i b ∧ isLstH z3.H b) (prvOf F z s1 x) H s z3.H) := by
  obtain ⟨s0, h0, hos, h1, I, hd⟩ := q.inv
  have sl3 := q.slp hok
  have frz : ∀ b ∈ frs F.outer, z3.H b = none := fun b hb => let ⟨_, _, h, _⟩ := q.fr hb; h
  refine ⟨fun b o e => ?_, fun i x' e => ?_, fun i h => h, rfl, rfl⟩
  · have e' := e
    by_cases h : isPrv F { z3 with R := fun i b => z3.R i b ∧ isLstH z3.H b } b
    · rw [prv_in h] at e
      have young : (¬ ∃ o', (prvOf F z s1 x).obj b = some o') → s.heap.objs.size ≤ b := fun nn => by
        have nn' : (prvOf F z s1 x).obj b = none := by
          cases k : (prvOf F z s1 x).obj b with
          | none => rfl
          | some o' => exact absurd ⟨o', k⟩ nn
        refine Classical.byContradiction fun hlt => ?_
        have hlt : b < s.heap.objs.size := Nat.lt_of_not_le hlt
        cases es : s.heap.get? b with
        | none =>
          have := q.hm.dead b hlt es
          rw [e] at this; cases this
        | some o0 =>
          rcases h with ⟨i, hR, hL⟩ | h | ⟨y', h⟩
          · obtain ⟨xs, eL⟩ := hL
            rcases q.alive es nn' (.inr ⟨xs, eL⟩) with ⟨u, k1, k2⟩ | k | k
            · rcases q.tr.t.nw b (.inr ⟨i, hR⟩) with z' | z'
              · rcases z' with z' | z'
                · exact z'
                · obtain ⟨o4, e4⟩ := q.rprv z'
                  exact nn ⟨o4, e4⟩
              · have nR : ¬ ∃ i, z.R i b := fun h => by
                  obtain ⟨o4, e4⟩ := q.rprv h
                  exact nn ⟨o4, e4⟩
                have := wkH_H (F := F) (s := s) nR nn' k1
                rw [show (wkZ F z s1 x Hf H s).H b = wkH F z (prvOf F z s1 x) H s b from rfl, this] at z'
                cases z'
            · obtain ⟨o', k⟩ := Option.isSome_iff_exists.mp k
              have := (q.base k).2
              rw [eL] at this; cases this
            · have := frz b k
              rw [eL] at this; cases this
          · exact nn (q.sl.prv_some (.inr (.inl h)))
          · exact nn (q.sl.prv_some (.inr (.inr ⟨y', h⟩)))
      refine ⟨e, ?_, Classical.byContradiction fun nn => nn (.inr (young fun k => nn (.inl k)))⟩
      rcases h with h | h | ⟨y', h⟩
      · exact slH_R h
      · rw [h]; exact slH_none I.free
      · exact slH_none (I.freeC y' b h)
    · rw [prv_out h] at e
      obtain ⟨k1, k2, k3, k4, k5, _⟩ := hd.obj b o e
      refine ⟨k1, slH_none k2, Classical.byContradiction fun nn => ?_⟩
      have nn' : (prvOf F z s1 x).obj b = none := by
        cases k : (prvOf F z s1 x).obj b with
        | none => rfl
        | some o' => exact absurd (.inl ⟨o', k⟩) nn
      have hlt : b < s.heap.objs.size := Nat.lt_of_not_le fun k => nn (.inr k)
      cases es : s.heap.get? b with
      | none =>
        have := q.hm.dead b hlt es
        rw [k1] at this; cases this
      | some o0 =>
        rcases q.alive es nn' (.inl k2) with ⟨u, _, k⟩ | k | k
        · rw [k2] at k; cases k
        · obtain ⟨o', k⟩ := Option.isSome_iff_exists.mp k
          rcases k5 with k5 | k5
          · exact absurd (show b ∈ ([] : List Addr) from k5) (by simp)
          · have k5 : s0.heap.objs.size ≤ b := k5
            rw [h1] at k5
            exact absurd (Nat.lt_of_lt_of_le (Heap.lt_size k) (Nat.le_trans q.sl.basez k5)) (Nat.lt_irrefl _)
        · exact k4 k
  · have hrun := hd.run F.g q.gi.hold.run.1
    obtain ⟨hi, _⟩ := Array.getElem?_eq_some_iff.mp hrun
    by_cases h : i = F.g
    · subst h
      rw [prv_g] at e
      cases e
      exact ⟨by
        show (s'.gens.setIfInBounds F.g y)[F.g]? = some y
        rw [Array.getElem?_setIfInBounds_self_of_lt hi], hy⟩
    · rw [prv_ne h] at e
      obtain ⟨k1, k2⟩ := hd.gen i x' e
      exact ⟨by
        show (s'.gens.setIfInBounds F.g y)[i]? = some x'
        rw [Array.getElem?_setIfInBounds_ne (Ne.symm h)]
        exact k1, k2⟩
theorem Asl.p3 {b : Addr} (h : P3 b) (hl : ∀ i b, R3 i b → z3.R i b ∧ isLstH z3.H b) : slH R3 (prvOf F z s1 x) H s z3.H b = z3.H b := by
  have m1 : ¬ ∃ i, R3 i b := fun ⟨i, h'⟩ => q.gi.pr.dp i b h (hl i b h').1
  obtain ⟨u, e⟩ := q.gi.pr.w.dm b (.inl h)
  refine slH_o m1 fun h' => ?_
  rcases q.tr.t.nw b (.inl h) with z' | z'
  · rcases z' with z' | z'
    · exact z'
    · obtain ⟨o, e4⟩ := q.rprv z'
      rw [h'.1] at e4; cases e4
  · obtain ⟨o, eo⟩ := Option.isSome_iff_exists.mp h'.2.2
    have nR : ¬ ∃ i, z.R i b := fun h2 => by
      obtain ⟨o, e4⟩ := q.rprv h2
      rw [h'.1] at e4; cases e4
    by_cases k : (F.base.get? b).isSome = true ∨ b ∈ frs F.outer
    · rcases k with k | k
      · obtain ⟨o', k⟩ := Option.isSome_iff_exists.mp k
        have := (q.base k).2
        rw [e] at this; cases this
      · obtain ⟨_, _, k, _⟩ := q.fr k
        rw [e] at k; cases k
    · have := wkH_f nR h'.1 h'.2.1 k eo
      rw [show (wkZ F z s1 x Hf H s).H b = wkH F z (prvOf F z s1 x) H s b from rfl, this] at z'
      cases z'
end
theorem Woke.kept {G : Prv} {s s1 s2 : Shared} {Hf H Hf1 H1 : Hp} {P : Program} {w : World} {outer : List Env} {Q : Rg} {ex : List Addr} (x : Woke P w outer G s Hf H s1 Hf1 H1 Q ex) (k : ∀ b o, s1.heap.get? b = some o → s2.heap.get? b = some o) (h1 : s2.os = s1.os) (h2 : AllBare s2.gens) : Woke P w outer G s Hf H s2 Hf1 H1 Q ex :=
  ⟨h1.trans x.os, h2, x.exs, x.un.trans (Un.kept k), x.hok.kept k, x.tr, x.w⟩
end
end DL

/-! DL166: a generator def and its calls. -/
namespace DL
open PySem L2 PyProof.Rows

section
variable {ca : Nat → Addr} {P : Program} {w : World} {K : PySem.W.Frag} {mg : Str → Option Value} {base : Heap}
end
end DL

set_option maxHeartbeats 1000000
/-! DL167: enumerate over a generator. -/
namespace DL
open PySem L2 PyProof.Rows
open AutoSeq1 (wpAny_loadPart')

section
variable {ca : Nat → Addr} {P : Program} {w : World} {K : PySem.W.Frag} {mg : Str → Option Value} {base : Heap} {outer : List Env} {k : Nat} {os0 : OsState}
def Prv.with (G : Prv) (e : Addr) (o : Obj) : Prv := { G with obj := fun b => if b = e then some o else G.obj b }
theorem with_ne {G : Prv} {e b : Addr} {o : Obj} (h : b ≠ e) : (G.with e o).obj b = G.obj b := by
  show (if b = e then some o else G.obj b) = _
  rw [if_neg h]
theorem Wk.less {G : Prv} {e : Addr} {o : Obj} {A : Around} {s : Shared} {Hf0 Hf H : Hp} (w' : Wk P w K mg base outer (k + 1) os0 Hf0 (G.with e o) A s Hf H) (hn : G.obj e = none) : Wk P w K mg base outer k os0 Hf0 G A.in1 s Hf H :=
  ⟨w'.room.in1, w'.os, w'.env.in1, w'.fx, w'.hx, fun b u q => w'.obj b u (by rw [with_ne fun z => by rw [z, hn] at q; cases q]; exact q), w'.gen⟩
end
end DL

/-! DL168: a def's context does not ask for the sleepers. -/
namespace DL
open PySem L2 PyProof.Rows
end DL

set_option maxHeartbeats 1000000
/-! DL169: an expression that only looks: all slots are shown frozen to it, and are as before after it. -/
namespace DL
open PySem L2 PyProof.Rows
def roOk : D → Bool
  | .lst true xs => xs.all flat
  | d => flat d
def frzS (st : Sl) : Sl := st.map fun o => o.map frz
/-- the expression sees all that stands in the slots frozen; what it gives holds nothing of theirs -/
def eRo (m : ME) : ME := fun st => match m (frzS st) with
  | .ok d _ => if roOk d then .ok d st else .fail
  | _ => .fail
theorem getS_frzS (st : Sl) (i : Nat) : getS (frzS st) i = (getS st i).map frz := by
  unfold frzS getS
  rw [List.getElem?_map]
  cases st[i]? with
  | none => rfl
  | some o => cases o <;> rfl
section
variable {ca : Nat → Addr} {K : PySem.W.Frag} {Hf H H3 Hf1 H1 Hf2 H2 : Hp} {S P : Rg} {R R1 R2 : Nat → Rg} {σ : L2.St} {st : Sl} {v : V} {d : D} {vs : List V} {ds : List D} {X : Cx} {L : List Nat}
theorem rep_ro (r : Rep ca K Hf H S v d) (h : roOk d = true) : Rep ca K Hf2 H S v d := by
  cases r with
  | lstO s e r => exact .lstO s e (repL_fl r h)
  | lstF e r => exact absurd h (fun z => by cases z)
  | non => exact .non
  | bl => exact .bl
  | int => exact .int
  | str => exact .str
  | _ => exact absurd h (fun z => by cases z)
theorem ce_ro {e : Expr} {m : ME} (hm : CE ca X e m) : CE ca X e (eRo m) := fun Hf H R σ st Q p h => by
  unfold eRo at h
  cases em : m (frzS st) with
  | fail => rw [em] at h; exact h.elim
  | exc x st2 => rw [em] at h; exact h.elim
  | ok d st2 =>
    rw [em] at h
    dsimp only at h
    by_cases hf : roOk d = true
    case neg => rw [if_neg hf] at h; exact h.elim
    case pos =>
      rw [if_pos hf] at h
      let T : Rg := jn Em R
      have tR : ∀ {i b}, R i b → T b := fun {i b} q => .inr ⟨i, q⟩
      have tE : ∀ {b}, T b → ∃ i, R i b := fun {b} q => q.elim (fun q => q.elim) fun q => q
      have na : ∀ b, T b → Hf b = none := fun b q => p.w.nf b q
      have fx0 : Ex Hf (showT T H Hf) := fun b o e => by
        have hb : ¬ T b := fun z => by rw [na b z] at e; cases e
        rw [showT_f hb]
        exact e
      have p2 : PR ca X.K (showT T H Hf) H Em True (fun _ => Em) σ (frzS st) := by
        refine ⟨trivial, ?_, fun i d0 e => ?_, fun i j b q _ => q.elim, fun i b _ q => q.elim, ⟨fun b o e => ?_, fun b q => ?_, fun b q => ?_⟩⟩
        · rw [← p.len]
          exact List.length_map ..
        · rw [getS_frzS] at e
          cases eg : getS st i with
          | none => rw [eg] at e; cases e
          | some d1 =>
            rw [eg] at e
            cases e
            obtain ⟨v, ev, r⟩ := p.at_ i d1 eg
            exact ⟨v, ev, r.frz fx0 fun b q o eo => by rw [showT_t (tR q)]; exact eo⟩
        · by_cases hb : T b
          · rw [showT_t hb] at e
            exact e
          · rw [showT_f hb] at e
            exact p.w.ex b o e
        · exact q.elim (fun q => q.elim) fun ⟨_, q⟩ => q.elim
        · exact q.elim (fun q => q.elim) fun ⟨_, q⟩ => q.elim
      refine hm (showT T H Hf) H (fun _ => Em) σ (frzS st) Q p2 ?_
      rw [em]
      intro Hf' H' P' R' v t q
      have no : ∀ b, ¬ jn Em (fun _ => Em) b := fun b q => q.elim (fun q => q.elim) fun ⟨_, q⟩ => q.elim
      have keep : ∀ b o, H b = some o → H' b = some o := fun b o e => t.keep b o e (no b)
      have fx : Ex Hf (hideT T Hf') := fun b o e => by
        have hb : ¬ T b := fun z => by rw [na b z] at e; cases e
        rw [hideT_f hb]
        exact t.fx b o (by rw [showT_f hb]; exact e)
      have hfz : ∀ b o, ¬ T b → Hf' b = some o → Hf b = some o ∨ H b = none := fun b o hb e => by
        rcases t.fz b o e with z | z | z
        · rw [showT_f hb] at z; exact .inl z
        · exact (no b z).elim
        · exact .inr z
      have pn : ∀ b, P' b → H b = none := fun b z => (t.nw b (.inl z)).elim (fun z => (no b z).elim) fun z => z
      have pT : ∀ b, P' b → ¬ T b := fun b z y => by
        obtain ⟨o, e⟩ := p.w.dm b y
        have := pn b z
        rw [e] at this
        cases this
      refine h (hideT T Hf') H' P' R v ⟨fx, fun b o e n => keep b o e, fun b z => ?_, fun b o e => ?_⟩
        ⟨rep_ro q.pend hf, p.len, fun j d e => ?_, p.dj, fun j b z1 z2 => pT b z1 (tR z2), ⟨fun b o e => ?_, fun b z => ?_, fun b z => ?_⟩⟩
      · rcases z with z | z
        · exact .inr (pn b z)
        · exact .inl (.inr z)
      · by_cases hb : T b
        · rw [hideT_t hb] at e
          cases e
        · rw [hideT_f hb] at e
          rcases hfz b o hb e with z | z
          · exact .inl z
          · exact .inr (.inr z)
      · obtain ⟨w, e1, r⟩ := p.at_ j d e
        exact ⟨w, e1, r.keep fx fun b hb o e => keep b o e⟩
      · by_cases hb : T b
        · rw [hideT_t hb] at e
          cases e
        · rw [hideT_f hb] at e
          exact q.w.ex b o e
      · rcases z with z | ⟨j, z⟩
        · exact q.w.dm b (.inl z)
        · obtain ⟨o, e⟩ := p.w.dm b (tR z)
          exact ⟨o, keep b o e⟩
      · by_cases hb : T b
        · rw [hideT_t hb]
        · rw [hideT_f hb]
          rcases z with z | z
          · exact q.w.nf b (.inl z)
          · exact (hb (.inr z)).elim
end
end DL
namespace DL
open PySem (Str)
theorem xRo {m : ME} {st st2 : Sl} {d : D} (e : m (frzS st) = .ok d st2) (h : roOk d = true) : eRo m st = .ok d st := by
  unfold eRo
  rw [e]
  show (if roOk d = true then _ else _) = _
  rw [if_pos h]
end DL

/-! DL170: what generators hand out, evaluated. -/
namespace DL
open PySem (Str)
open PySem L2
end DL

/-! DL171: sorted(set(a list of whole numbers)), fewer than 64 apart. -/
namespace DL
open PySem PySem.Spec PyProof.Rows L2
end DL

set_option maxHeartbeats 2000000
/-! DL172: != of two lists that stand, whose items are flat, lists of flat things, or instances equal by their own ==. -/
namespace DL
open PySem PySem.Spec PyProof.Rows L2
section
variable {ca : Nat → Addr} {K : PySem.W.Frag} {Hf H Hf1 H1 Hf2 H2 : Hp} {S S1 S2 P P1 P2 : Rg} {R R1 R2 : Nat → Rg} {σ σ' : L2.St} {st st' : Sl} {v w x y : V} {d e : D} {vs : List V} {ds xs : List D} {X : Cx} {L : List Nat}
/-- one call below, the items are found equal, and no more than objects are made -/
def ItEq (X : Cx) (x y : V) (H : Hp) : Prop := ∀ (pins : List (Addr × Obj)) (s : Shared) (σ : L2.St) (H1 : Hp) (u v : Value), Inv X pins σ H1 s → Ext H H1 → RelV x u → RelV y v →
  wpAny (model X.prog X.w) X.A.in1 (eqBool u v) (fun r s2 => r = true ∧ LoopI X pins σ H1 s2) X.xe s
theorem itEq_of {n : Nat} {D : Eqv} (hD : Mon D) (h : EqG X n D) (hr : Room (n + 1) X.A) (d : D x y H) : ItEq X x y H := fun pins s σ H1 u v I e rx ry =>
  wpAny_mono (h X.A.in1 pins s σ H1 x y u v (Sub.in1 ⟨hr, rfl⟩) I rx ry (hD _ _ _ _ e d)) (fun r s2 q => q) fun _ _ z => z
def rNeI (X : Cx) : L2.R2 := fun x y H Q => ∃ a b xs ys, x = .ref a ∧ y = .ref b ∧ H a = some (.lst xs) ∧ H b = some (.lst ys) ∧ xs.length = ys.length ∧ (∀ (i : Nat) (u v : V), xs[i]? = some u → ys[i]? = some v → ItEq X u v H) ∧ ∀ H', Ext H H' → Q (.bl false) H'
theorem op_neI (hr : Room 1 X.A) : OpR X (compareOp .NotEq) (rNeI X) := by
  intro pins s σ H x y v u Q I rx ry hq
  obtain ⟨a, b, xs, ys, rfl, rfl, ha, hb, hl, hit, hQ⟩ := hq
  cases rx
  cases ry
  show wpAny (model X.prog X.w) X.A (richCompare .NotEq _ _) (EP X pins σ Q) X.xe s
  refine wpAny_mono (rn_listG (N := xs.length) (Q := fun r s' => r = .bool false ∧ LoopI X pins σ H s') hr.units0 (fun _ s' => LoopI X pins σ H s') (fun i s' q => ?_) (fun s' q => ⟨rfl, q⟩) ⟨H, I, Ext.rfl'⟩) (fun r s' z => ?_) fun _ _ z => z
  · obtain ⟨H1, I1, e1⟩ := id q
    obtain ⟨_, its, k, r, e⟩ := I1.hok a _ (e1 _ _ ha)
    obtain ⟨_, its2, k2, r2, e2⟩ := I1.hok b _ (e1 _ _ hb)
    refine ⟨its.toArray, its2.toArray, k, k2, e, e2, by rw [List.size_toArray, ← r.length], by rw [List.size_toArray, ← r2.length, ← hl], fun h1 h2 => ?_⟩
    have h1' : i < its.length := by simpa using h1
    have h2' : i < its2.length := by simpa using h2
    have k1 : i < xs.length := by rw [r.length]; exact h1'
    have k2 : i < ys.length := by rw [r2.length]; exact h2'
    obtain ⟨u, hu, ru⟩ := r.get (List.getElem?_eq_getElem k1)
    obtain ⟨v, hv, rv⟩ := r2.get (List.getElem?_eq_getElem k2)
    rw [List.getElem?_eq_getElem h1'] at hu
    rw [List.getElem?_eq_getElem h2'] at hv
    have eu : its.toArray[i] = u := by simpa using Option.some.inj hu
    have ev : its2.toArray[i] = v := by simpa using Option.some.inj hv
    rw [eu, ev]
    refine wpAny_mono (hit i _ _ (List.getElem?_eq_getElem k1) (List.getElem?_eq_getElem k2) pins s' σ H1 u v I1 e1 ru rv) (fun r s2 z => ?_) fun _ _ z => z
    obtain ⟨hr', H2, I2, e2⟩ := z
    exact ⟨hr', H2, I2, e1.trans e2⟩
  · obtain ⟨hr', H', I', e⟩ := z
    subst hr'
    exact ⟨.bl false, H', I', rfl, hQ H' e⟩
theorem rep_insA {C : Nat} {gs : List (Str × D)} (r : Rep ca K Hf H S v (.ins false C gs)) : ∃ a dx fs, v = .ref a ∧ Hf a = some (.ins (ca C) dx fs) := by
  cases r with
  | insF e _ _ => exact ⟨_, _, _, rfl, e⟩
theorem itEq_ins {k C : Nat} {f : Addr} {m : MF} {g1 g2 : List (Str × D)} {ps : Sl} (F : FnG X.prog X.w X.K X.mg X.base (L2.CX X.prog X.w) k f (spM ca X.K m)) (c : OwnEqC X.K (ca C) f) (hr : RoomG (k + 1) X.A) (wl : Wl Hf H Em)
    (r1 : Rep ca X.K Hf H S1 x (.ins false C g1)) (r2 : Rep ca X.K Hf H S2 y (.ins false C g2)) (e : m [.ins false C g1, .ins false C g2] = .ok (.bl true) ps) : ItEq X x y H := fun pins s σ H1 u v I ex rx ry => by
  have q1 := r1.cold (S' := Em) rfl
  have q2 := r2.cold (S' := Em) rfl
  obtain ⟨a, dx, fs, rfl, e1⟩ := rep_insA r1
  obtain ⟨b, dy, gs, rfl, e2⟩ := rep_insA r2
  cases rx
  cases ry
  by_cases hab : a = b
  · subst hab
    exact SeqAt.EqAt.same (A := X.A.in1) (s := s) (.ref a) X.prog X.w X.xe _ ⟨rfl, H1, I, Ext.rfl'⟩
  · obtain ⟨mA, J, _⟩ := ins_get I.hok (ex _ _ (wl.ex _ _ e1))
    obtain ⟨mB, J', _⟩ := ins_get I.hok (ex _ _ (wl.ex _ _ e2))
    obtain ⟨od, J, _⟩ := J.look
    obtain ⟨od', J', _⟩ := J'.look
    obtain ⟨mm, hF⟩ := I.fr
    have hs : spM ca X.K m [.ref a, .ref b] H1 (fun v H' => v = .bl true ∧ Ext H1 H') (fun cls dd H' => wX X cls dd σ H') := by
      refine ⟨Hf, Em, [.ins false C g1, .ins false C g2], .cons (S1 := Em) (S2 := Em) (q1.keep (fun _ _ z => z) fun _ z => z.elim) (.cons (S1 := Em) (S2 := Em) (q2.keep (fun _ _ z => z) fun _ z => z.elim) .nil (fun _ z => z) (fun _ z => z) fun _ z _ => z) (fun _ z => z) (fun _ z => z) fun _ z _ => z, ⟨fun b o z => ex _ _ (wl.ex b o z), fun _ z => z.elim, fun _ z => z.elim⟩, ?_⟩
      rw [e]
      intro Hf' H' P' Rp v t q
      exact ⟨rep_bl q.pend, fun b o z => t.keep b o z fun y => y.elim⟩
    refine GQ.eqBool_refG hab (PySem.W.cmp_K (op := .Eq) (tb := .ref (ca C)) hr.in1.2.units0 hF I.ok.mod.kin J J'.type (by simp [PySem.W.notFirst]) c.eq c.fn (thn (eq_runG F hr.in1 rfl (passAt (takes_wX X) σ) I hs) fun v s' z => ?_))
    obtain ⟨vv, H', I', rv, ev, ee⟩ := z
    subst ev
    cases rv
    exact ⟨true, rfl, rfl, H', I', ee⟩
/-! ### the data -/
def flatsEq : List D → List D → Bool
  | [], [] => true
  | x :: xs, y :: ys => flat x && flat y && eqF x y && flatsEq xs ys
  | _, _ => false
def itOk (C : Nat) (m : MF) : D → D → Bool
  | .ins false c1 g1, .ins false c2 g2 => decide (c1 = C) && decide (c2 = C) && (match m [.ins false c1 g1, .ins false c2 g2] with
    | .ok (.bl true) _ => true
    | _ => false)
  | .lst false xs, .lst false ys => flatsEq xs ys
  | x, y => flat x && flat y && eqF x y
def itsOk (C : Nat) (m : MF) : List D → List D → Bool
  | [], [] => true
  | x :: xs, y :: ys => itOk C m x y && itsOk C m xs ys
  | _, _ => false
/-- != of two lists that stand: False, or nothing is said -/
def eNeI (C : Nat) (m : MF) (oa ob : Opd) : ME := fun st => opds [oa, ob] st fun gs st2 => match gs st2 with
  | some [.lst false xs, .lst false ys] => if itsOk C m xs ys then .ok (.bl false) st2 else .fail
  | _ => .fail
theorem flats_prs : ∀ {xs ys : List D} {vs ws : List V} {S1 S2 : Rg}, RepL ca K Hf H S1 vs xs → RepL ca K Hf H S2 ws ys → flatsEq xs ys = true → Prs DFlat vs ws H
  | _, _, _, _, _, _, .nil, .nil, _ => Prs.nil
  | _, _, _, _, _, _, .cons (d := d) r1 t1 _ _ _, .cons (d := d') r2 t2 _ _ _, h => by
    rw [flatsEq, Bool.and_eq_true, Bool.and_eq_true, Bool.and_eq_true] at h
    refine Prs.cons ⟨rep_flat r1 h.1.1.1, rep_flat r2 h.1.1.2, ?_⟩ (flats_prs t1 t2 h.2)
    rw [rep_eqF r1 r2 h.1.1.1 h.1.1.2]
    exact h.1.2
  | _, _, _, _, _, _, .nil, .cons .., h => by rw [flatsEq] at h; cases h; all_goals (intros; simp_all)
  | _, _, _, _, _, _, .cons .., .nil, h => by rw [flatsEq] at h; cases h; all_goals (intros; simp_all)
theorem itEq_D {k C : Nat} {f : Addr} {m : MF} {d1 d2 : D} (F : FnG X.prog X.w X.K X.mg X.base (L2.CX X.prog X.w) k f (spM ca X.K m)) (c : OwnEqC X.K (ca C) f) (hr : RoomG (k + 2) X.A) (wl : Wl Hf H Em)
    (r1 : Rep ca X.K Hf H S1 x d1) (r2 : Rep ca X.K Hf H S2 y d2) (h : itOk C m d1 d2 = true) : ItEq X x y H := by
  unfold itOk at h
  split at h
  · rw [Bool.and_eq_true, Bool.and_eq_true, decide_eq_true_eq, decide_eq_true_eq] at h
    obtain ⟨⟨rfl, rfl⟩, h⟩ := h
    split at h
    · rename_i e
      exact itEq_ins F c (hr.mono (Nat.le_succ _)) wl r1 r2 e
    · cases h
  · cases r1 with
    | lstF e1 t1 =>
      cases r2 with
      | lstF e2 t2 => exact itEq_of (mon_list mon_flat) (eqG_list mon_flat eqG_flat) (hr.2.mono (by omega)) ⟨_, _, _, _, rfl, rfl, wl.ex _ _ e1, wl.ex _ _ e2, flats_prs t1 t2 h⟩
  · rw [Bool.and_eq_true, Bool.and_eq_true] at h
    refine itEq_of mon_flat eqG_flat (hr.2.mono (by omega)) ⟨rep_flat r1 h.1.1, rep_flat r2 h.1.2, ?_⟩
    rw [rep_eqF r1 r2 h.1.1 h.1.2]
    exact h.2
theorem itsEq_D {k C : Nat} {f : Addr} {m : MF} (F : FnG X.prog X.w X.K X.mg X.base (L2.CX X.prog X.w) k f (spM ca X.K m)) (c : OwnEqC X.K (ca C) f) (hr : RoomG (k + 2) X.A) (wl : Wl Hf H Em) :
    ∀ {xs ys : List D} {vs ws : List V} {S1 S2 : Rg}, RepL ca X.K Hf H S1 vs xs → RepL ca X.K Hf H S2 ws ys → itsOk C m xs ys = true → vs.length = ws.length ∧ ∀ (i : Nat) (u v : V), vs[i]? = some u → ws[i]? = some v → ItEq X u v H
  | _, _, _, _, _, _, .nil, .nil, _ => ⟨rfl, fun i u v z => by simp at z⟩
  | _, _, _, _, _, _, .cons (d := d) r1 t1 _ _ _, .cons (d := d') r2 t2 _ _ _, h => by
    rw [itsOk, Bool.and_eq_true] at h
    obtain ⟨q1, q2⟩ := itsEq_D F c hr wl t1 t2 h.2
    refine ⟨by rw [List.length_cons, List.length_cons, q1], fun i u v z1 z2 => ?_⟩
    cases i with
    | zero =>
      rw [List.getElem?_cons_zero] at z1 z2
      cases z1
      cases z2
      exact itEq_D F c hr wl r1 r2 h.1
    | succ i =>
      rw [List.getElem?_cons_succ] at z1 z2
      exact q2 i u v z1 z2
  | _, _, _, _, _, _, .nil, .cons .., h => by rw [itsOk] at h; cases h; all_goals (intros; simp_all)
  | _, _, _, _, _, _, .cons .., .nil, h => by rw [itsOk] at h; cases h; all_goals (intros; simp_all)
theorem ce_neI {k C : Nat} {f : Addr} {a b : Expr} {oa ob : Opd} {m : MF} {pos : Pos} (F : FnG X.prog X.w X.K X.mg X.base (L2.CX X.prog X.w) k f (spM ca X.K m)) (c : OwnEqC X.K (ca C) f) (hr : RoomG (k + 2) X.A)
    (ha : CO ca X a oa) (hbb : CO ca X b ob) : CE ca X (.Compare a [.NotEq] [b] pos) (eNeI C m oa ob) := fun Hf H R σ st Q p h => by
  have key : WL X [a, b] σ H fun vs H2 => rl2 (rNeI X) vs H2 Q := by
    refine ops_sound (.cons ha (.cons hbb .nil)) p h fun gs st2 Hf2 H2 R2 vs t2 p2 hr2 hk => ?_
    cases g : gs st2 with
    | none => rw [g] at hk; exact hk.elim
    | some ds =>
      rw [g] at hk
      match ds, hk with
      | [.lst false xs, .lst false ys], hk =>
        dsimp only at hk
        by_cases hc : itsOk C m xs ys = true
        · rw [if_pos hc] at hk
          obtain ⟨x, y, S, S', e1, r1, r2⟩ := rdl2 (hr2 _ g) rfl
          subst e1
          cases r1 with
          | lstF a1 t1 =>
            cases r2 with
            | lstF a2 t2' =>
              have wl : Wl Hf2 H2 Em := p2.w.mono fun _ q => q.elim
              obtain ⟨q1, q2⟩ := itsEq_D F c hr wl t1 t2' hc
              refine ⟨_, _, _, _, rfl, rfl, wl.ex _ _ a1, wl.ex _ _ a2, q1, q2, fun H' ex => ?_⟩
              have p3 := p2.drop
              refine hk Hf2 H' Em R2 (.bl false) ⟨fun _ _ z => z, fun b o z _ => ex b o z, fun b z => .inl (z.elim (fun z => z.elim) .inr), fun _ _ z => .inl z⟩ ⟨.bl, p3.len, fun j d e => ?_, p3.dj, fun i b q _ => q.elim, ⟨fun b o z => ex b o (p3.w.ex b o z), fun b z => ?_, fun b z => p3.w.nf b z⟩⟩
              · obtain ⟨w, e1, r⟩ := p3.at_ j d e
                exact ⟨w, e1, r.keep (fun _ _ z => z) fun b _ o z => ex b o z⟩
              · obtain ⟨o, z⟩ := p3.w.dm b z
                exact ⟨o, ex b o z⟩
        · rw [if_neg hc] at hk; exact hk.elim
  refine ⟨fun pins s I => ?_⟩
  refine wpAny_Compare1 (binT (R := fun x y H => rNeI X x y H Q) (we_pe X a) (we_pe X b) I key fun v u s2 x y H2 I2 rx ry q => ?_) (nomark b (by decide) (by decide))
  exact op_neI (hr.2.mono (by omega)) pins s2 σ H2 x y v u Q I2 rx ry q
end
end DL

/-! DL173: a, b, c = x, y, z where what is stored may be owned. -/
namespace DL
open PySem L2 PyProof.Rows
section
variable {ca : Nat → Addr} {K : PySem.W.Frag} {Hf H : Hp} {P : Rg} {R : Nat → Rg} {σ : L2.St} {st : Sl} {v w x : V} {d e f : D} {X : Cx} {L : List Nat}
end
end DL

set_option maxHeartbeats 2000000
/-! DL174: == and != of two lists that stand, by their items (flat, instances with an own ==, tuples and lists of these): True and False. -/
namespace DL
open PySem PySem.SeqAt GQ
open AutoSeq1 (wpAny_loadPart')
open MeetsSeq MeetsSeq2 MeetsSeq3 SeqRoads2
def allF (c : Nat → Bool) : Nat → Nat → Bool
  | _, 0 => true
  | i, k + 1 => c i && allF c (i + 1) k
section
variable {prog : Program} {w : World} {A : Around} {R : Result → Shared → Prop}
/-- the two lists are read anew at each turn; their i-th items compare to c i -/
def ListB (prog : Program) (w : World) (A : Around) (E : Value → Shared → Prop) (l b : Addr) (N : Nat) (c : Nat → Bool) (I : Shared → Prop) : Prop :=
  ∀ s, I s → ∃ (items items2 : Array Value) (n n2 : Nat), s.heap.get? l = some { cls := .type "list", data := .seq items n } ∧ s.heap.get? b = some { cls := .type "list", data := .seq items2 n2 } ∧ items.size = N ∧ items2.size = N ∧
    ∀ (i : Nat) (h1 : i < items.size) (h2 : i < items2.size), wpAny (model prog w) A.in1 (eqBool items[i] items2[i]) (fun r s' => r = c i ∧ I s') E s
theorem eq_loopB (l b : Addr) (N : Nat) (c : Nat → Bool) (I : Shared → Prop) (hl : ListB prog w A (fun e s' => R (.error e) s') l b N c I) (k : Nat) :
    ∀ i : Nat, N - i = k → i ≤ N → (∀ s, I s → R (.ok (.ret (.bool (allF c i k)))) s) → ∀ s, I s →
      wpAny (model prog w) A.in1 (Builtin.«list.__eq__.loop» ⟨[.ref l, .ref b, rawInt i, rawInt 2], []⟩) (FinOf prog w A R) (fun e s' => R (.error e) s') s := by
  induction k with
  | zero =>
    intro i hk hi fin s h
    obtain ⟨items, items2, n, n2, hl1, hb1, hs1, hs2, _⟩ := hl _ h
    have hi' : i = N := by omega
    have hR : R (.ok (.ret (.bool true))) s := fin s h
    obtain ⟨hp, g, d, tk, os⟩ := s
    wp_walk using wpAny_loadPart' hl1, wpAny_loadPart' hb1
    have hi1 : items[((i : Nat) : Int).toNat]? = none := by simp; omega
    have hi2 : items2[((i : Nat) : Int).toNat]? = none := by simp; omega
    rw [hi1, hi2]
    wp_walk using wpAny_loadPart' hl1, wpAny_loadPart' hb1
    show R (.ok (.ret (.bool (items.size == items2.size)))) _
    rw [hs1, hs2]
    simpa using hR
  | succ k ih =>
    intro i hk hi fin s h
    obtain ⟨items, items2, n, n2, hl1, hb1, hs1, hs2, turn⟩ := hl _ h
    have hlt : i < items.size := by omega
    have hlt2 : i < items2.size := by omega
    have ht := turn i hlt hlt2
    obtain ⟨hp, g, d, tk, os⟩ := s
    wp_walk using wpAny_loadPart' hl1, wpAny_loadPart' hb1
    have hi1 : items[((i : Nat) : Int).toNat]? = some items[i] := by simp [hlt]
    have hi2 : items2[((i : Nat) : Int).toNat]? = some items2[i] := by simp [hlt2]
    have hc : ((i : Int) + 1) = ((i + 1 : Nat) : Int) := by omega
    rw [hi1, hi2]
    refine wpAny_bind (wpAny_mono ht (fun r s2 h2 => ?_) fun _ _ x => x)
    obtain ⟨hr, h2⟩ := h2
    subst hr
    cases hci : c i with
    | true =>
      have hrec := ih (i + 1) (by omega) (by omega) (fun s hs => by have := fin s hs; rw [allF, hci, Bool.true_and] at this; exact this) s2 h2
      obtain ⟨hp2, g2, d2, tk2, os2⟩ := s2
      wp_walk
      rw [hc]
      exact ⟨plainId_quiet plain_eq_loop _, codeAny_builtin entry_eq_loop (by
        rw [Around.under_plainId plain_eq_loop _]
        exact hrec)⟩
    | false =>
      have fin2 := fin s2 h2
      rw [allF, hci, Bool.false_and] at fin2
      obtain ⟨items', items2', n', n2', hl1', hb1', hs1', hs2', _⟩ := hl _ h2
      have hj1 : items'[((i : Nat) : Int).toNat]? = some (items'[i]'(by omega)) := by simp
      have hj2 : items2'[((i : Nat) : Int).toNat]? = some (items2'[i]'(by omega)) := by simp
      obtain ⟨hp2, g2, d2, tk2, os2⟩ := s2
      wp_walk using wpAny_loadPart' hl1', wpAny_loadPart' hb1'
      rw [hj1, hj2]
      wp_walk
      exact fin2
theorem ne_loopB (l b : Addr) (N : Nat) (c : Nat → Bool) (I : Shared → Prop) (hl : ListB prog w A (fun e s' => R (.error e) s') l b N c I) (k : Nat) :
    ∀ i : Nat, N - i = k → i ≤ N → (∀ s, I s → R (.ok (.ret (.bool (!allF c i k)))) s) → ∀ s, I s →
      wpAny (model prog w) A.in1 (Builtin.«list.__eq__.loop» ⟨[.ref l, .ref b, rawInt i, rawInt 3], []⟩) (FinOf prog w A R) (fun e s' => R (.error e) s') s := by
  induction k with
  | zero =>
    intro i hk hi fin s h
    obtain ⟨items, items2, n, n2, hl1, hb1, hs1, hs2, _⟩ := hl _ h
    have hi' : i = N := by omega
    have hR : R (.ok (.ret (.bool false))) s := fin s h
    obtain ⟨hp, g, d, tk, os⟩ := s
    wp_walk using wpAny_loadPart' hl1, wpAny_loadPart' hb1
    have hi1 : items[((i : Nat) : Int).toNat]? = none := by simp; omega
    have hi2 : items2[((i : Nat) : Int).toNat]? = none := by simp; omega
    rw [hi1, hi2]
    wp_walk using wpAny_loadPart' hl1, wpAny_loadPart' hb1
    show R (.ok (.ret (.bool (items.size != items2.size)))) _
    rw [hs1, hs2]
    simpa using hR
  | succ k ih =>
    intro i hk hi fin s h
    obtain ⟨items, items2, n, n2, hl1, hb1, hs1, hs2, turn⟩ := hl _ h
    have hlt : i < items.size := by omega
    have hlt2 : i < items2.size := by omega
    have ht := turn i hlt hlt2
    obtain ⟨hp, g, d, tk, os⟩ := s
    wp_walk using wpAny_loadPart' hl1, wpAny_loadPart' hb1
    have hi1 : items[((i : Nat) : Int).toNat]? = some items[i] := by simp [hlt]
    have hi2 : items2[((i : Nat) : Int).toNat]? = some items2[i] := by simp [hlt2]
    have hc : ((i : Int) + 1) = ((i + 1 : Nat) : Int) := by omega
    rw [hi1, hi2]
    refine wpAny_bind (wpAny_mono ht (fun r s2 h2 => ?_) fun _ _ x => x)
    obtain ⟨hr, h2⟩ := h2
    subst hr
    cases hci : c i with
    | true =>
      have hrec := ih (i + 1) (by omega) (by omega) (fun s hs => by have := fin s hs; rw [allF, hci, Bool.true_and] at this; exact this) s2 h2
      obtain ⟨hp2, g2, d2, tk2, os2⟩ := s2
      wp_walk
      rw [hc]
      exact ⟨plainId_quiet plain_eq_loop _, codeAny_builtin entry_eq_loop (by
        rw [Around.under_plainId plain_eq_loop _]
        exact hrec)⟩
    | false =>
      have fin2 := fin s2 h2
      rw [allF, hci, Bool.false_and] at fin2
      obtain ⟨items', items2', n', n2', hl1', hb1', hs1', hs2', _⟩ := hl _ h2
      have hj1 : items'[((i : Nat) : Int).toNat]? = some (items'[i]'(by omega)) := by simp
      have hj2 : items2'[((i : Nat) : Int).toNat]? = some (items2'[i]'(by omega)) := by simp
      obtain ⟨hp2, g2, d2, tk2, os2⟩ := s2
      wp_walk using wpAny_loadPart' hl1', wpAny_loadPart' hb1'
      rw [hj1, hj2]
      wp_walk
      exact fin2
theorem list_eqB (l b : Addr) (N : Nat) (c : Nat → Bool) (I : Shared → Prop) (hl : ListB prog w A (fun e s' => R (.error e) s') l b N c I)
    (fin : ∀ s, I s → R (.ok (.ret (.bool (allF c 0 N)))) s) {s : Shared} (h : I s) :
    wpAny (model prog w) A.in1 (Builtin.«list.__eq__» ⟨[.ref l, .ref b], []⟩) (FinOf prog w A R) (fun e s' => R (.error e) s') s := by
  obtain ⟨items, items2, n, n2, hl1, hb1, hs1, hs2, _⟩ := hl _ h
  have hrec := eq_loopB (A := A) (R := R) l b N c I hl N 0 rfl (Nat.zero_le _) fin s h
  obtain ⟨hp, g, d, tk, os⟩ := s
  have f3 := AutoSeq1.sub_list_list
  have hne : ¬ (items.size != items2.size) = true := by simp [hs1, hs2]
  wp_walk using wpAny_loadPart' hl1, wpAny_loadPart' hb1
  exact ⟨plainId_quiet plain_eq_loop _, codeAny_builtin entry_eq_loop (by
    rw [Around.under_plainId plain_eq_loop _]
    exact hrec)⟩
theorem list_neB (l b : Addr) (N : Nat) (c : Nat → Bool) (I : Shared → Prop) (hl : ListB prog w A (fun e s' => R (.error e) s') l b N c I)
    (fin : ∀ s, I s → R (.ok (.ret (.bool (!allF c 0 N)))) s) {s : Shared} (h : I s) :
    wpAny (model prog w) A.in1 (Builtin.«list.__ne__» ⟨[.ref l, .ref b], []⟩) (FinOf prog w A R) (fun e s' => R (.error e) s') s := by
  obtain ⟨items, items2, n, n2, hl1, hb1, hs1, hs2, _⟩ := hl _ h
  have hrec := ne_loopB (A := A) (R := R) l b N c I hl N 0 rfl (Nat.zero_le _) fin s h
  obtain ⟨hp, g, d, tk, os⟩ := s
  have f3 := AutoSeq1.sub_list_list
  have hne : ¬ (items.size != items2.size) = true := by simp [hs1, hs2]
  wp_walk using wpAny_loadPart' hl1, wpAny_loadPart' hb1
  exact ⟨plainId_quiet plain_eq_loop _, codeAny_builtin entry_eq_loop (by
    rw [Around.under_plainId plain_eq_loop _]
    exact hrec)⟩
/-- lists of different lengths -/
theorem list_eqL (l b : Addr) {items items2 : Array Value} {n n2 : Nat} (hs : items.size ≠ items2.size) {s : Shared} (fin : R (.ok (.ret (.bool false))) s)
    (hl1 : s.heap.get? l = some { cls := .type "list", data := .seq items n }) (hb1 : s.heap.get? b = some { cls := .type "list", data := .seq items2 n2 }) :
    wpAny (model prog w) A.in1 (Builtin.«list.__eq__» ⟨[.ref l, .ref b], []⟩) (FinOf prog w A R) (fun e s' => R (.error e) s') s := by
  obtain ⟨hp, g, d, tk, os⟩ := s
  have f3 := AutoSeq1.sub_list_list
  have hne : (items.size != items2.size) = true := by simp [hs]
  wp_walk using wpAny_loadPart' hl1, wpAny_loadPart' hb1
  exact fin
theorem list_neL (l b : Addr) {items items2 : Array Value} {n n2 : Nat} (hs : items.size ≠ items2.size) {s : Shared} (fin : R (.ok (.ret (.bool true))) s)
    (hl1 : s.heap.get? l = some { cls := .type "list", data := .seq items n }) (hb1 : s.heap.get? b = some { cls := .type "list", data := .seq items2 n2 }) :
    wpAny (model prog w) A.in1 (Builtin.«list.__ne__» ⟨[.ref l, .ref b], []⟩) (FinOf prog w A R) (fun e s' => R (.error e) s') s := by
  obtain ⟨hp, g, d, tk, os⟩ := s
  have f3 := AutoSeq1.sub_list_list
  have hne : (items.size != items2.size) = true := by simp [hs]
  wp_walk using wpAny_loadPart' hl1, wpAny_loadPart' hb1
  exact fin
theorem tuple_eqB (l b : Addr) (items items2 : Array Value) (n n2 : Nat) (dd dd2 : Option Addr) (sl sl2 : Array (Option Value)) (hsz : items.size = items2.size) (c : Nat → Bool) (I : Shared → Prop)
    (turn : ∀ i (h1 : i < items.size) (h2 : i < items2.size) s, I s → wpAny (model prog w) A.in1 (eqBool items[i] items2[i]) (fun r s' => r = c i ∧ I s') (fun e s' => R (.error e) s') s)
    (fin : ∀ s, I s → R (.ok (.ret (.bool (allF c 0 items.size)))) s) {s : Shared} (hl1 : s.heap.get? l = some { cls := .type "tuple", dict := dd, data := .seq items n, slots := sl }) (hb1 : s.heap.get? b = some { cls := .type "tuple", dict := dd2, data := .seq items2 n2, slots := sl2 }) (h : I s) :
    wpAny (model prog w) A.in1 (Builtin.«tuple.__eq__» ⟨[.ref l, .ref b], []⟩) (FinOf prog w A R) (fun e s' => R (.error e) s') s := by
  have f2 := AutoSeq1.sub_tuple_tuple
  have hZ : (items.toList.zip items2.toList).length = items.size := by simp [hsz]
  have h0 := h
  have fin0 : ∀ (i : Nat), i ≤ items.size → (allF c 0 items.size = allF c i (items.size - i)) → ∀ s, I s → R (.ok (.ret (.bool (allF c i (items.size - i))))) s := fun i _ e s hs => e ▸ fin s hs
  obtain ⟨hp, g, d, tk, os⟩ := s
  wp_walk using wpAny_loadPart' hl1, wpAny_loadPart' hb1, wpAny_forIn_list _ (fun rest b s' => b.1 = none ∧ ∃ i, rest = (items.toList.zip items2.toList).drop i ∧ i ≤ items.size ∧ (allF c 0 items.size = allF c i (items.size - i)) ∧ I s') _
  case turn =>
    rintro ⟨y, x⟩ rest b s' ⟨hb', i, hz, hi, ha, hI⟩
    have hlt : i < (items.toList.zip items2.toList).length := by
      rcases Nat.lt_or_ge i (items.toList.zip items2.toList).length with h' | h'
      · exact h'
      · rw [List.drop_of_length_le h'] at hz; cases hz
    have h1 : i < items.size := hZ ▸ hlt
    have h2 : i < items2.size := hsz ▸ h1
    rw [List.drop_eq_getElem_cons hlt] at hz
    injection hz with hyx hrest
    have hy : y = items[i] := by have := congrArg Prod.fst hyx; simpa using this
    have hx : x = items2[i] := by have := congrArg Prod.snd hyx; simpa using this
    subst hy hx
    have ek : items.size - i = (items.size - (i + 1)) + 1 := by omega
    rw [ek, allF] at ha
    refine wpAny_bind (wpAny_mono (turn i h1 h2 s' hI) (fun r s2 q2 => ?_) fun _ _ x => x)
    obtain ⟨hr, q2⟩ := q2
    subst hr
    cases hci : c i with
    | true =>
      rw [hci, Bool.true_and] at ha
      wp_walk
      exact ⟨rfl, i + 1, hrest, h1, ha, q2⟩
    | false =>
      rw [hci, Bool.false_and] at ha
      have fin2 := fin s2 q2
      rw [ha] at fin2
      wp_walk
      exact fin2
  case fin =>
    rintro ⟨b1, b2⟩ s' ⟨hb', i, hz, hi, ha, hI⟩
    simp only at hb'
    subst hb'
    have hge : items.size ≤ i := by
      rcases Nat.lt_or_ge i (items.toList.zip items2.toList).length with h' | h'
      · rw [List.drop_eq_getElem_cons h'] at hz; cases hz
      · exact hZ ▸ h'
    have hi' : i = items.size := by omega
    have hR := fin s' hI
    rw [ha, hi', Nat.sub_self, allF] at hR
    wp_walk
    simpa [Builtin.Tuple.tupleCompareSizes, hsz] using hR
  case h =>
    exact ⟨rfl, 0, rfl, Nat.zero_le _, by rw [Nat.sub_zero], h0⟩
end
end DL

set_option maxHeartbeats 1000000
/-! DL175: a def whose last parameter has a default (a flat constant), called with it or without. -/
namespace DL
open PySem L2 PyProof.Rows
/-- n parameters ahead of the one that has a default -/
def mDef (n : Nat) (dd : D) (m : MF) : MF := fun ds => if ds.length = n then (match m (ds ++ [dd]) with
  | .ok d ps => .ok d (ps.take n)
  | .exc x ps => .exc x (ps.take n)
  | .fail => .fail) else m ds
structure DefB (K : PySem.W.Frag) (fd : FuncData) (ps : List Str) (dv : V) : Prop where
  full : Binds K fd ps []
  dflt : ∃ u : Value, RelV dv u ∧ Binds K fd ps [u]
section
variable {K : PySem.W.Frag} {x qual : Str} {params : Arguments} {body : List Stmt} {scope : Scope} {dv : V} {f : Addr} {fd : FuncData}
theorem defB_of {ps : List Str} {n : Nat} (F : FunD K x qual params body scope [dv] [] f fd) (hn : n + 1 = ps.length)
    (h1 : ∀ (T : Addr) (kV doc pm : Value) (an : Option Addr) (cdv ct : Value) (us its : List Value), us.length = n → its.length = 1 →
      ∃ k, bindArgs (PySem.W.fnOf x qual params body scope (.ref T) kV doc pm an cdv ct) ⟨us, []⟩ = seqItems? (.ref T) >>= k ∧ k (some its.toArray) = pure (ps.zip (us ++ its.drop 0)))
    (h2 : ∀ (T : Addr) (kV doc pm : Value) (an : Option Addr) (cdv ct : Value) (us its : List Value), us.length = n + 1 → its.length = 1 →
      ∃ k, bindArgs (PySem.W.fnOf x qual params body scope (.ref T) kV doc pm an cdv ct) ⟨us, []⟩ = seqItems? (.ref T) >>= k ∧ k (some its.toArray) = pure (ps.zip (us ++ its.drop 1))) : DefB K fd ps dv := by
  refine ⟨?_, ?_⟩
  · obtain ⟨ds, r, b⟩ := F.binds1 (ps := ps) (n + 1) 1 (by simp) (by simpa using hn) h2
    have e : ds = [] := by
      have := r.length
      simp at this
      exact List.length_eq_zero_iff.mp this.symm
    subst e
    exact b
  · obtain ⟨ds, r, b⟩ := F.binds1 (ps := ps) n 0 (by simp) (by simpa using hn) h1
    cases r with
    | cons ru r' =>
      cases r'
      exact ⟨_, ru, b⟩
end
section
variable {ca : Nat → Addr} {P : Program} {w : World} {K : PySem.W.Frag} {mg : Str → Option Value} {base : Heap} {L : List Nat}
theorem fn_bodyD {x qual : Str} {st : Stmt} {f : Addr} {N ps : List Str} {k n : Nat} {mb : MS} (S : FnScope N ps (defScope st)) (hn : ps.length = n)
    (hb : ∀ (cdv : Value) (A : Around) (outer : List Env) (s : Shared) (H : Hp) (E : XK), RoomG k (A.deeper (envOfC qual (defScope st) s.heap.objs.size f cdv)) →
      CSs ca (cxOf (L2.CX P w) P w K mg base N qual (defScope st) f cdv A outer s H E) L (defBody st) mb) {cdv : Value} {A : Around} {outer : List Env} {s : Shared} {H : Hp} {vs : List V} {Q : VK} {E : XK} (hr : RoomG k (A.deeper (envOfC qual (defScope st) s.heap.objs.size f cdv)))
    (h : spM ca K (fn n N.length L mb) vs H Q E) : ∃ t, PSs (cxOf (L2.CX P w) P w K mg base N qual (defScope st) f cdv A outer s H E) (defBody st) t ∧ t { nx := fun _ H' => Q .non H', rt := Q } (L2.start N vs) H := by
  refine ⟨_, wss_pss _ _, ?_⟩
  have hl := spM_len h
  obtain ⟨Hf, Pg, ds, r, w1, post⟩ := h
  have hds : ds.length = n := by rw [← r.length]; exact hl
  obtain ⟨R, a, b, c⟩ := repL_split r
  have hvn : vs.length ≤ N.length := by
    have := congrArg List.length S.pre
    rw [List.length_take] at this
    omega
  have p0 : PR ca K Hf H Em True R (L2.start N vs) (ds.map some ++ List.replicate (N.length - n) none) := by
    refine ⟨trivial, ?_, fun i d e => ?_, b, fun _ _ q => q.elim, ?_⟩
    · unfold L2.start; simp [hds, hl]
    · have hi : i < ds.length := by
        by_cases hi : i < ds.length
        · exact hi
        · exfalso
          unfold getS at e
          rw [List.getElem?_append_right (by simp; omega), List.getElem?_replicate] at e
          split at e <;> cases e
      have e1 : ds[i]? = some d := by
        unfold getS at e
        rw [List.getElem?_append_left (by simpa using hi), List.getElem?_map, List.getElem?_eq_getElem hi] at e
        rw [List.getElem?_eq_getElem hi]
        exact e
      obtain ⟨v, e2, r2⟩ := a i d e1
      refine ⟨v, ?_, r2⟩
      rw [start_at (by rw [r.length]; exact hi), e2]
    · exact w1.mono fun b q => q.elim (fun q => q.elim) fun ⟨i, q⟩ => c i b q
  refine hb cdv A outer s H E hr Hf H R (L2.start N vs) _ _ p0 ?_
  unfold fn at post
  rw [if_pos hds] at post
  have hkk : ∀ σ' : L2.St, Lk L (L2.start N vs) σ' → ∀ i ∈ L, i < n → σ'[i]? = some (vs[i]?) := fun σ' k i hi hn' => by
    rw [k.2 i hi]; exact start_at (by omega)
  have hS : ∀ b, jn Em R b → Pg b := fun b q => q.elim (fun q => q.elim) fun ⟨i, q⟩ => c i b q
  have hR : ∀ {P' : Rg} {R' : Nat → Rg} (b : Addr), jn P' (fun i b => i ∈ L ∧ i < n ∧ R' i b) b → jn P' R' b := fun b q => q.elim .inl fun ⟨i, q⟩ => .inr ⟨i, q.2.2⟩
  cases em : mb (ds.map some ++ List.replicate (N.length - n) none) with
  | fail => rw [em] at post; exact post.elim
  | brk st1 => rw [em] at post; exact post.elim
  | cont st1 => rw [em] at post; exact post.elim
  | next st1 =>
    rw [em] at post
    intro Hf1 H1 R1 σ1 t1 p1 k1
    exact post Hf1 H1 Em _ .non ((t1.more hS).less hR) (p1.params hl (hkk σ1 k1) .non fun _ q => q)
  | ret d st1 =>
    rw [em] at post
    intro Hf1 H1 P1 R1 σ1 v t1 p1 k1
    exact post Hf1 H1 P1 _ v ((t1.more hS).less hR) (p1.params hl (hkk σ1 k1) p1.pend fun _ q => q)
  | exc x st1 =>
    rw [em] at post
    intro Hf1 H1 R1 σ1 cls dd t1 p1 k1
    exact wX_of (takes_of rfl rfl rfl rfl) (post Hf1 H1 _ cls dd ((t1.more hS).less hR) (p1.params hl (hkk σ1 k1) p1.pend fun _ q => q))
theorem def_ok {x qual : Str} {st : Stmt} {f : Addr} {fd : FuncData} {N ps : List Str} {k n : Nat} {mb : MS} {dv : V} {dd : D} (F : FunD K x qual (defArgs st) (defBody st) (defScope st) [dv] [] f fd) (B : DefB K fd ps dv) (S : FnScope N ps (defScope st)) (hn : ps.length = n + 1)
    (hd : ∀ (Hf H : Hp) (S : Rg), Rep ca K Hf H S dv dd)
    (hb : ∀ (cdv : Value) (A : Around) (outer : List Env) (s : Shared) (H : Hp) (E : XK), RoomG k (A.deeper (envOfC qual (defScope st) s.heap.objs.size f cdv)) →
      CSs ca (cxOf (L2.CX P w) P w K mg base N qual (defScope st) f cdv A outer s H E) L (defBody st) mb) : FnG P w K mg base (L2.CX P w) (k + 1) f (spM ca K (mDef n dd (fn (n + 1) N.length L mb))) := by
  obtain ⟨oc, od, dV, kV, doc, pm, an, cdv, ct, osl, rfl, lk, hcd, _, _⟩ := F.ex
  intro A outer s H us vs Q E hr e0 r h
  have KX : K.In s.heap := e0.mod.kin.keeps fun b o e => (e0.bs b o e).1
  obtain ⟨Hf, Pg, ds, rl, w1, post⟩ := h
  generalize hm : fn (n + 1) N.length L mb = m at *
  have hl := rl.length
  unfold mDef at post
  by_cases hc : ds.length = n
  · rw [if_pos hc] at post
    obtain ⟨u, ru, b1⟩ := B.dflt
    have hlen : (us ++ [u]).length = ps.length := by
      rw [List.length_append, ← r.length, hl, hc, hn]
      rfl
    have hd0 : Rep ca K Hf H Em dv dd := hd Hf H Em
    have rr : RepL ca K Hf H Pg (vs ++ [dv]) (ds ++ [dd]) := repL_app' (S1 := Pg) (S2 := Em) rl (RepL.one hd0) (fun _ q => q) (fun _ q => q.elim) fun _ _ q => q
    have slots : ∀ {Hf' H' : Hp} {P' : Rg} {pp : Prop} {Rp : Nat → Rg} {ps' : Sl}, PR ca K Hf' H' P' pp Rp ((vs ++ [dv]).map some) ps' → PR ca K Hf' H' P' pp (fun i b => i < n ∧ Rp i b) (vs.map some) (ps'.take n) := fun {Hf' H' P' pp Rp ps'} q => by
      have ql : ps'.length = n + 1 := by
        have := q.len
        rw [List.length_map, List.length_append, hl, hc] at this
        rw [this]
        rfl
      refine ⟨q.pend, ?_, fun i d e => ?_, fun i j b z1 z2 => q.dj i j b z1.2 z2.2, fun i b z1 z2 => q.dp i b z1 z2.2, q.w.mono fun b z => z.imp_right fun ⟨i, z⟩ => ⟨i, z.2⟩⟩
      · rw [List.length_take, List.length_map, hl, ql, hc]
        omega
      · have hi : i < n := by
          refine Classical.byContradiction fun hi => ?_
          unfold getS at e
          rw [List.getElem?_eq_none (by rw [List.length_take, ql]; omega)] at e
          cases e
        have e2 : getS ps' i = some d := by
          unfold getS at e ⊢
          rw [List.getElem?_take, if_pos hi] at e
          exact e
        obtain ⟨v, e3, r3⟩ := q.at_ i d e2
        refine ⟨v, ?_, r3.mono fun b z => ⟨hi, z⟩⟩
        rw [List.getElem?_map, List.getElem?_append_left (by rw [hl]; omega)] at e3
        rw [List.getElem?_map]
        exact e3
    have hsp : spM ca K m (vs ++ [dv]) H Q E := by
      refine ⟨Hf, Pg, ds ++ [dd], rr, w1, ?_⟩
      cases em : m (ds ++ [dd]) with
      | fail => rw [em] at post; exact post
      | ok d ps' =>
        rw [em] at post
        intro Hf' H' P' Rp v t q
        exact post Hf' H' P' _ v (t.less fun b z => z.imp_right fun ⟨i, z⟩ => ⟨i, z.2⟩) (slots q)
      | exc y ps' =>
        rw [em] at post
        intro Hf' H' Rp cls dd t q
        exact post Hf' H' _ cls dd (t.less fun b z => z.imp_right fun ⟨i, z⟩ => ⟨i, z.2⟩) (slots q)
    subst hm
    refine StX.run_bnd lk hcd S hr.2 e0 (G := fun xs H2 => xs = vs ++ [dv] ∧ H2 = H) (fun A' Ex Q' hq => ?_) fun s2 H2 xs ⟨e1, e2⟩ hr' => ?_
    · have b := b1 s us KX hlen
      exact b _ _ _ _ (hq s H (vs ++ [dv]) (us ++ [u]) e0 Un.refl rfl (fun _ _ z => z) (r.append (.cons ru .nil)) (by rw [List.length_append, hl, hc, hn]; rfl) ⟨rfl, rfl⟩)
    · subst e1 e2
      exact fn_bodyD (x := x) S hn hb ⟨hr.1, hr'⟩ hsp
  · rw [if_neg hc] at post
    have hsp : spM ca K m vs H Q E := ⟨Hf, Pg, ds, rl, w1, post⟩
    subst hm
    have hl2 := spM_len hsp
    refine StX.run_bnd lk hcd S hr.2 e0 (G := fun xs H2 => xs = vs ∧ H2 = H) (fun A' Ex Q' hq => ?_) fun s2 H2 xs ⟨e1, e2⟩ hr' => ?_
    · have b := B.full s us KX (by rw [List.append_nil, ← r.length, hl2, hn])
      rw [List.append_nil] at b
      exact b _ _ _ _ (hq s H vs us e0 Un.refl rfl (fun _ _ z => z) r (by rw [hl2, hn]) ⟨rfl, rfl⟩)
    · subst e1 e2
      exact fn_bodyD (x := x) S hn hb ⟨hr.1, hr'⟩ hsp
end
end DL

set_option maxHeartbeats 1000000
/-! DL176: o.f, o.g = t.f, t.g: what the slot of t owns (g's value) goes over to o; t is not used after it. -/
namespace DL
open PySem PySem.Spec PyProof.Rows L2
section
variable {ca : Nat → Addr} {K : PySem.W.Frag} {Hf H Hf1 H1 Hf2 H2 : Hp} {S P : Rg} {R R1 R2 : Nat → Rg} {σ : L2.St} {st : Sl} {v : V} {d : D} {vs : List V} {ds : List D} {X : Cx} {L : List Nat}
end
end DL

set_option maxHeartbeats 2000000
/-! DL177: == and != of two lists that stand (flat, own ==, tuples and lists of these), answered by their data; a def with a default as the linked program holds it. -/
namespace DL
open PySem PySem.Spec PyProof.Rows L2
theorem funD1_mk {K : PySem.W.Frag} {x qual : Str} {st : Stmt} {f T : Addr} {oc kV doc pm cdv ct tc v' : Value} {od an td : Option Addr} {osl ts : Array (Option Value)} {n : Nat} {v : V}
    (l : K.lookup f = some ⟨oc, od, .func (PySem.W.fnOf x qual (defArgs st) (defBody st) (defScope st) (.ref T) kV doc pm an cdv ct), osl⟩) (q : PySem.W.codeIn K cdv qual = true) (k : PySem.W.keepIn K (.ref f) = true)
    (t : K.lookup T = some ⟨tc, td, .seq #[v'] n, ts⟩) (r : RelV v v') : FunD K x qual (defArgs st) (defBody st) (defScope st) [v] [] f (PySem.W.fnOf x qual (defArgs st) (defBody st) (defScope st) (.ref T) kV doc pm an cdv ct) :=
  ⟨⟨oc, od, .ref T, kV, doc, pm, an, cdv, ct, osl, rfl, l, q, .inr ⟨by simp, T, _, [v'], n, rfl, t, rfl, .cons r .nil⟩, .inl rfl⟩, k⟩
section
variable {ca : Nat → Addr} {K : PySem.W.Frag} {Hf H Hf1 H1 Hf2 H2 : Hp} {S S1 S2 P P1 P2 : Rg} {R R1 R2 : Nat → Rg} {σ σ' : L2.St} {st st' : Sl} {v w x y : V} {d e : D} {vs : List V} {ds xs : List D} {X : Cx} {L : List Nat} {A : Around}
/-- at A, the two compare to b, and no more than objects are made -/
def ItB (X : Cx) (A : Around) (x y : V) (H : Hp) (b : Bool) : Prop := ∀ (pins : List (Addr × Obj)) (s : Shared) (σ : L2.St) (H1 : Hp) (u v : Value), Inv X pins σ H1 s → Ext H H1 → RelV x u → RelV y v →
  wpAny (model X.prog X.w) A (eqBool u v) (fun r s2 => r = b ∧ LoopI X pins σ H1 s2) X.xe s
/-- pair by pair -/
def ItsB (X : Cx) (A : Around) (xs ys : List V) (H : Hp) (c : Nat → Bool) : Prop := xs.length = ys.length ∧ ∀ (i : Nat) (u v : V), xs[i]? = some u → ys[i]? = some v → ItB X A u v H (c i)
theorem itB_flat (hx : flatV x = true) (hy : flatV y = true) : ItB X A x y H (eqV x y) := fun pins s σ H1 u v I e rx ry =>
  eqAt_V (A := A) (s := s) rx ry hx hy X.prog X.w X.xe _ ⟨rfl, H1, I, Ext.rfl'⟩
/-- the lists as they are read anew at each turn -/
theorem listB_of {a b : Addr} {xs ys : List V} {c : Nat → Bool} {pins : List (Addr × Obj)} (ha : H a = some (.lst xs)) (hb : H b = some (.lst ys)) (h : ItsB X A.in1 xs ys H c) (e0 : Ext H H1) :
    ListB X.prog X.w A X.xe a b xs.length c (fun s' => LoopI X pins σ H1 s') := fun s q => by
  obtain ⟨H2, I2, e1⟩ := id q
  obtain ⟨_, its, k, r, e⟩ := I2.hok a _ (e1 _ _ (e0 _ _ ha))
  obtain ⟨_, its2, k2, r2, e2⟩ := I2.hok b _ (e1 _ _ (e0 _ _ hb))
  refine ⟨its.toArray, its2.toArray, k, k2, e, e2, by rw [List.size_toArray, ← r.length], by rw [List.size_toArray, ← r2.length, ← h.1], fun i h1 h2 => ?_⟩
  have h1' : i < its.length := by simpa using h1
  have h2' : i < its2.length := by simpa using h2
  have k1 : i < xs.length := by rw [r.length]; exact h1'
  have k2 : i < ys.length := by rw [r2.length]; exact h2'
  obtain ⟨u, hu, ru⟩ := r.get (List.getElem?_eq_getElem k1)
  obtain ⟨v, hv, rv⟩ := r2.get (List.getElem?_eq_getElem k2)
  rw [List.getElem?_eq_getElem h1'] at hu
  rw [List.getElem?_eq_getElem h2'] at hv
  have eu : its.toArray[i] = u := by simpa using Option.some.inj hu
  have ev : its2.toArray[i] = v := by simpa using Option.some.inj hv
  rw [eu, ev]
  refine wpAny_mono (h.2 i _ _ (List.getElem?_eq_getElem k1) (List.getElem?_eq_getElem k2) pins s σ H2 u v I2 (e0.trans e1) ru rv) (fun r s2 z => ?_) fun _ _ z => z
  obtain ⟨hr', H3, I3, e3⟩ := z
  exact ⟨hr', H3, I3, e1.trans e3⟩
open PySem.SeqAt GQ MeetsSeq MeetsSeq2 MeetsSeq3 SeqRoads2 in
theorem rc_listB {l b : Addr} {N : Nat} {c : Nat → Bool} {s : Shared} {E : Value → Shared → Prop} {prog : Program} {w : World} {Q : Value → Shared → Prop} (hu : A.units < cLine) (I : Shared → Prop) (hl : ListB prog w A E l b N c I)
    (fin : ∀ s, I s → Q (.bool (allF c 0 N)) s) (h : I s) : wpAny (model prog w) A (richCompare .Eq (.ref l) (.ref b)) Q E s := by
  obtain ⟨items, items2, n, n2, hl1, hb1, _, _, _⟩ := hl _ h
  refine wpAny_richCompare_same_room (op := .Eq) ⟨_, hl1, rfl⟩ ⟨_, hb1, rfl⟩ F.slot_list_eq (call_here F.slot_list_eq ⟨_, hl1, rfl⟩ F.entry_list_eq (F.args_list_eq_2 _ _) ?_) hu
  exact list_eqB (R := wants (fun v s' => v ≠ .notImplemented ∧ Q v s') E) l b N c I hl (fun s' q => ⟨(fun x => nomatch x), fin s' q⟩) h
open PySem.SeqAt GQ MeetsSeq MeetsSeq2 MeetsSeq3 SeqRoads2 in
theorem rn_listB {l b : Addr} {N : Nat} {c : Nat → Bool} {s : Shared} {E : Value → Shared → Prop} {prog : Program} {w : World} {Q : Value → Shared → Prop} (hu : A.units < cLine) (I : Shared → Prop) (hl : ListB prog w A E l b N c I)
    (fin : ∀ s, I s → Q (.bool (!allF c 0 N)) s) (h : I s) : wpAny (model prog w) A (richCompare .NotEq (.ref l) (.ref b)) Q E s := by
  obtain ⟨items, items2, n, n2, hl1, hb1, _, _, _⟩ := hl _ h
  refine wpAny_richCompare_same_room (op := .NotEq) ⟨_, hl1, rfl⟩ ⟨_, hb1, rfl⟩ F.slot_list_ne (call_here F.slot_list_ne ⟨_, hl1, rfl⟩ F.entry_list_ne (F.args_list_ne_2 _ _) ?_) hu
  exact list_neB (R := wants (fun v s' => v ≠ .notImplemented ∧ Q v s') E) l b N c I hl (fun s' q => ⟨(fun x => nomatch x), fin s' q⟩) h
open PySem.SeqAt GQ MeetsSeq MeetsSeq2 MeetsSeq3 SeqRoads2 in
theorem rc_listL {l b : Addr} {items items2 : Array Value} {n n2 : Nat} {s : Shared} {E : Value → Shared → Prop} {prog : Program} {w : World} {Q : Value → Shared → Prop} (hu : A.units < cLine) (hs : items.size ≠ items2.size)
    (hl1 : s.heap.get? l = some { cls := .type "list", data := .seq items n }) (hb1 : s.heap.get? b = some { cls := .type "list", data := .seq items2 n2 }) (fin : Q (.bool false) s) : wpAny (model prog w) A (richCompare .Eq (.ref l) (.ref b)) Q E s := by
  refine wpAny_richCompare_same_room (op := .Eq) ⟨_, hl1, rfl⟩ ⟨_, hb1, rfl⟩ F.slot_list_eq (call_here F.slot_list_eq ⟨_, hl1, rfl⟩ F.entry_list_eq (F.args_list_eq_2 _ _) ?_) hu
  exact list_eqL (R := wants (fun v s' => v ≠ .notImplemented ∧ Q v s') E) l b hs ⟨(fun x => nomatch x), fin⟩ hl1 hb1
open PySem.SeqAt GQ MeetsSeq MeetsSeq2 MeetsSeq3 SeqRoads2 in
theorem rn_listL {l b : Addr} {items items2 : Array Value} {n n2 : Nat} {s : Shared} {E : Value → Shared → Prop} {prog : Program} {w : World} {Q : Value → Shared → Prop} (hu : A.units < cLine) (hs : items.size ≠ items2.size)
    (hl1 : s.heap.get? l = some { cls := .type "list", data := .seq items n }) (hb1 : s.heap.get? b = some { cls := .type "list", data := .seq items2 n2 }) (fin : Q (.bool true) s) : wpAny (model prog w) A (richCompare .NotEq (.ref l) (.ref b)) Q E s := by
  refine wpAny_richCompare_same_room (op := .NotEq) ⟨_, hl1, rfl⟩ ⟨_, hb1, rfl⟩ F.slot_list_ne (call_here F.slot_list_ne ⟨_, hl1, rfl⟩ F.entry_list_ne (F.args_list_ne_2 _ _) ?_) hu
  exact list_neL (R := wants (fun v s' => v ≠ .notImplemented ∧ Q v s') E) l b hs ⟨(fun x => nomatch x), fin⟩ hl1 hb1
/-- two lists of one length -/
theorem itB_list {a b : Addr} {xs ys : List V} {c : Nat → Bool} (hu : A.units < cLine) (ha : H a = some (.lst xs)) (hb : H b = some (.lst ys)) (h : ItsB X A.in1 xs ys H c) (hab : a = b → allF c 0 xs.length = true) :
    ItB X A (.ref a) (.ref b) H (allF c 0 xs.length) := fun pins s σ H1 u v I e rx ry => by
  cases rx
  cases ry
  by_cases hh : a = b
  · have := hab hh
    subst hh
    rw [this]
    exact SeqAt.EqAt.same (A := A) (s := s) (.ref a) X.prog X.w X.xe _ ⟨rfl, H1, I, Ext.rfl'⟩
  · exact GQ.eqBool_refG hh (rc_listB (N := xs.length) hu (fun s' => LoopI X pins σ H1 s') (listB_of ha hb h e) (fun s' q => ⟨_, rfl, rfl, q⟩) ⟨H1, I, Ext.rfl'⟩)
theorem itB_listL {a b : Addr} {xs ys : List V} (hu : A.units < cLine) (ha : H a = some (.lst xs)) (hb : H b = some (.lst ys)) (hl : xs.length ≠ ys.length) : ItB X A (.ref a) (.ref b) H false := fun pins s σ H1 u v I e rx ry => by
  cases rx
  cases ry
  by_cases hh : a = b
  · subst hh
    rw [ha] at hb
    cases hb
    exact absurd rfl hl
  · obtain ⟨_, its, k, r, e1⟩ := I.hok a _ (e _ _ ha)
    obtain ⟨_, its2, k2, r2, e2⟩ := I.hok b _ (e _ _ hb)
    exact GQ.eqBool_refG hh (rc_listL hu (by rw [List.size_toArray, List.size_toArray, ← r.length, ← r2.length]; exact hl) e1 e2 ⟨_, rfl, rfl, H1, I, Ext.rfl'⟩)
open PySem.SeqAt GQ MeetsSeq MeetsSeq2 MeetsSeq3 SeqRoads2 in
/-- two tuples of one length -/
theorem itB_tup {a b : Addr} {xs ys : List V} {c : Nat → Bool} (hu : A.units < cLine) (ha : SqT X.K H a xs) (hb : SqT X.K H b ys) (h : ItsB X A.in1 xs ys H c) (hab : a = b → allF c 0 xs.length = true) :
    ItB X A (.ref a) (.ref b) H (allF c 0 xs.length) := fun pins s σ H1 u v I e rx ry => by
  cases rx
  cases ry
  by_cases hh : a = b
  · have := hab hh
    subst hh
    rw [this]
    exact SeqAt.EqAt.same (A := A) (s := s) (.ref a) X.prog X.w X.xe _ ⟨rfl, H1, I, Ext.rfl'⟩
  · obtain ⟨its, r, e1, z1⟩ := I.tuple (ha.ext e)
    obtain ⟨its2, r2, e2, z2⟩ := I.tuple (hb.ext e)
    have hsz : its.toArray.size = its2.toArray.size := by rw [List.size_toArray, List.size_toArray, ← r.length, ← r2.length]; exact h.1
    refine GQ.eqBool_refG hh ?_
    obtain ⟨⟨cls, dd, data, sl⟩, ho, hc, n, hd⟩ := id e1
    obtain ⟨⟨cls2, dd2, data2, sl2⟩, ho2, hc2, n2, hd2⟩ := id e2
    simp only at hc hd hc2 hd2
    subst hc hd hc2 hd2
    refine wpAny_richCompare_same_room (op := .Eq) ⟨_, ho, rfl⟩ ⟨_, ho2, rfl⟩ PySem.F.slot_tuple_eq (call_here PySem.F.slot_tuple_eq ⟨_, ho, rfl⟩ PySem.F.entry_tuple_eq (PySem.F.args_tuple_eq_2 _ _) ?_) hu
    refine tuple_eqB (R := wants (fun v s' => v ≠ .notImplemented ∧ ∃ r, v = .bool r ∧ (r = allF c 0 xs.length ∧ LoopI X pins σ H1 s')) X.xe) a b its.toArray its2.toArray n n2 dd dd2 sl sl2 hsz c (fun s' => LoopI X pins σ H1 s') (fun i h1 h2 s' q => ?_) (fun s' q => ⟨(fun x => nomatch x), _, rfl, by rw [List.size_toArray, ← r.length], q⟩) ho ho2 ⟨H1, I, Ext.rfl'⟩
    obtain ⟨H2, I2, e3⟩ := q
    have h1' : i < its.length := by simpa using h1
    have h2' : i < its2.length := by simpa using h2
    have k1 : i < xs.length := by rw [r.length]; exact h1'
    have k2 : i < ys.length := by rw [r2.length]; exact h2'
    obtain ⟨u, hu', ru⟩ := r.get (List.getElem?_eq_getElem k1)
    obtain ⟨v, hv', rv⟩ := r2.get (List.getElem?_eq_getElem k2)
    rw [List.getElem?_eq_getElem h1'] at hu'
    rw [List.getElem?_eq_getElem h2'] at hv'
    have eu : its.toArray[i] = u := by simpa using Option.some.inj hu'
    have ev : its2.toArray[i] = v := by simpa using Option.some.inj hv'
    rw [eu, ev]
    refine wpAny_mono (h.2 i _ _ (List.getElem?_eq_getElem k1) (List.getElem?_eq_getElem k2) pins s' σ H2 u v I2 (e.trans e3) ru rv) (fun r s2 z => ?_) fun _ _ z => z
    obtain ⟨hr', H3, I3, e4⟩ := z
    exact ⟨hr', H3, I3, e3.trans e4⟩
/-! ### the data -/
def plainD : D → Bool
  | .tup xs => xs.all flat
  | d => flat d
def plainI (gs : List (Str × D)) : Bool := gs.all fun p => plainD p.2
def baseB (C : Nat) (m : MF) : D → D → Option Bool
  | .ins false c1 g1, .ins false c2 g2 => if (decide (c1 = C) && decide (c2 = C) && plainI g1 && plainI g2) = true then (match m [.ins false c1 g1, .ins false c2 g2] with
    | .ok (.bl b) _ => (match m [.ins false c1 g1, .ins false c1 g1] with
      | .ok (.bl true) _ => some b
      | _ => none)
    | _ => none) else none
  | x, y => if flat x && flat y then some (eqF x y) else none
def zipL (f : D → D → Option Bool) : List D → List D → Option (List Bool)
  | [], [] => some []
  | x :: xs, y :: ys => match f x y, zipL f xs ys with
    | some b, some bs => some (b :: bs)
    | _, _ => none
  | _, _ => none
def itB1 (C : Nat) (m : MF) (f : D → D → Option Bool) : D → D → Option Bool
  | .tup xs, .tup ys => (zipL f xs ys).map fun bs => bs.all id
  | .lst false xs, .lst false ys => if xs.length = ys.length then (zipL f xs ys).map fun bs => bs.all id else some false
  | x, y => baseB C m x y
/-- the answer of == inside, n levels deep -/
def itB (C : Nat) (m : MF) : Nat → D → D → Option Bool
  | 0 => baseB C m
  | n + 1 => itB1 C m (itB C m n)
theorem allF_list : ∀ (bs pre : List Bool), allF (fun i => (pre ++ bs).getD i true) pre.length bs.length = bs.all id
  | [], pre => rfl
  | b :: bs, pre => by
    have ih := allF_list bs (pre ++ [b])
    rw [List.append_assoc, List.singleton_append, List.length_append] at ih
    rw [List.length_cons, allF, List.all_cons]
    have e : (pre ++ b :: bs).getD pre.length true = b := by
      rw [List.getD_eq_getElem?_getD, List.getElem?_append_right (Nat.le_refl _), Nat.sub_self]
      rfl
    show ((pre ++ b :: bs).getD pre.length true && _) = _
    rw [e]
    exact congrArg (b && ·) ih
theorem allF_all (bs : List Bool) : allF (fun i => bs.getD i true) 0 bs.length = bs.all id := allF_list bs []
theorem flat_uniq (r1 : Rep ca K Hf H S1 v d) (r2 : Rep ca K Hf H S2 v e) (h1 : flat d = true) (h2 : flat e = true) : d = e := by
  cases r1 <;> first | (cases h1; done) | (cases r2 <;> first | (cases h2; done) | rfl)
theorem flats_uniq : ∀ {vs : List V} {ds es : List D} {S1 S2 : Rg}, RepL ca K Hf H S1 vs ds → RepL ca K Hf H S2 vs es → ds.all flat = true → es.all flat = true → ds = es
  | _, _, _, _, _, .nil, .nil, _, _ => rfl
  | _, _, _, _, _, .cons r1 t1 _ _ _, .cons r2 t2 _ _ _, h1, h2 => by
    rw [List.all_cons, Bool.and_eq_true] at h1 h2
    rw [flat_uniq r1 r2 h1.1 h2.1, flats_uniq t1 t2 h1.2 h2.2]
theorem plain_uniq (r1 : Rep ca K Hf H S1 v d) (r2 : Rep ca K Hf H S2 v e) (h1 : plainD d = true) (h2 : plainD e = true) : d = e := by
  cases r1 with
  | tup e1 t1 =>
    cases r2 with
    | tup e2 t2 =>
      rw [e1] at e2
      cases e2
      rw [flats_uniq t1 t2 h1 h2]
    | _ => cases h2
  | non => cases r2 <;> first | rfl | (cases h2; done)
  | bl => cases r2 <;> first | rfl | (cases h2; done)
  | int => cases r2 <;> first | rfl | (cases h2; done)
  | str => cases r2 <;> first | rfl | (cases h2; done)
  | _ => cases h1
theorem plainI_uniq : ∀ {vs : List V} {g1 g2 : List (Str × D)} {S1 S2 : Rg}, RepL ca K Hf H S1 vs (g1.map (·.2)) → RepL ca K Hf H S2 vs (g2.map (·.2)) → g1.map (·.1) = g2.map (·.1) → plainI g1 = true → plainI g2 = true → g1 = g2
  | _, [], [], _, _, _, _, _, _, _ => rfl
  | _, [], _ :: _, _, _, _, _, e, _, _ => by cases e
  | _, _ :: _, [], _, _, _, _, e, _, _ => by cases e
  | _, (a, x) :: g1, (b, y) :: g2, _, _, r1, r2, e, h1, h2 => by
    simp only [List.map_cons, List.cons.injEq] at e
    obtain ⟨rfl, e⟩ := e
    unfold plainI at h1 h2
    rw [List.all_cons, Bool.and_eq_true] at h1 h2
    cases r1 with
    | cons a1 t1 _ _ _ =>
      cases r2 with
      | cons a2 t2 _ _ _ =>
        have q1 : x = y := plain_uniq a1 a2 h1.1 h2.1
        rw [q1, plainI_uniq t1 t2 e h1.2 h2.2]
theorem ins_uniq {C : Nat} {g1 g2 : List (Str × D)} (r1 : Rep ca K Hf H S1 v (.ins false C g1)) (r2 : Rep ca K Hf H S2 v (.ins false C g2)) (h1 : plainI g1 = true) (h2 : plainI g2 = true) : g1 = g2 := by
  cases r1 with
  | insF e1 k1 t1 =>
    cases r2 with
    | insF e2 k2 t2 =>
      rw [e1] at e2
      cases e2
      exact plainI_uniq t1 t2 (k1.symm.trans k2) h1 h2
theorem eqF_refl (h : flat d = true) : eqF d d = true := by
  cases d <;> first | (cases h; done) | simp [eqF]
theorem base_same {C : Nat} {m : MF} {b : Bool} (r1 : Rep ca K Hf H S1 v d) (r2 : Rep ca K Hf H S2 v e) (h : baseB C m d e = some b) : b = true := by
  unfold baseB at h
  split at h
  · split at h
    · rename_i hc
      rw [Bool.and_eq_true, Bool.and_eq_true, Bool.and_eq_true, decide_eq_true_eq, decide_eq_true_eq] at hc
      obtain ⟨⟨⟨rfl, rfl⟩, h1⟩, h2⟩ := hc
      have := ins_uniq r1 r2 h1 h2
      subst this
      split at h
      · rename_i e1
        split at h
        · rename_i e2
          rw [e1] at e2
          cases e2
          cases h
          rfl
        · cases h
      · cases h
    · cases h
  · split at h
    · rename_i hc
      rw [Bool.and_eq_true] at hc
      cases h
      rw [← flat_uniq r1 r2 hc.1 hc.2]
      exact eqF_refl hc.1
    · cases h
theorem zip_same {f : D → D → Option Bool} (hf : ∀ {v : V} {d e : D} {S1 S2 : Rg} {b : Bool}, Rep ca K Hf H S1 v d → Rep ca K Hf H S2 v e → f d e = some b → b = true) :
    ∀ {vs : List V} {ds es : List D} {bs : List Bool} {S1 S2 : Rg}, RepL ca K Hf H S1 vs ds → RepL ca K Hf H S2 vs es → zipL f ds es = some bs → bs.all id = true
  | _, _, _, _, _, _, .nil, .nil, h => by cases h; rfl
  | _, _, _, _, _, _, .cons (d := d) (ds := ds) r1 t1 _ _ _, .cons (d := e) (ds := es) r2 t2 _ _ _, h => by
    rw [zipL] at h
    split at h
    · rename_i e1 e2
      cases h
      rw [List.all_cons, zip_same hf t1 t2 e2]
      have := hf r1 r2 e1
      subst this
      rfl
    · cases h
theorem itB_same {C : Nat} {m : MF} : ∀ (n : Nat) {v : V} {d e : D} {S1 S2 : Rg} {b : Bool}, Rep ca K Hf H S1 v d → Rep ca K Hf H S2 v e → itB C m n d e = some b → b = true
  | 0, _, _, _, _, _, _, r1, r2, h => base_same r1 r2 h
  | n + 1, v, d, e, S1, S2, b, r1, r2, h => by
    rw [itB] at h
    unfold itB1 at h
    split at h
    · cases r1 with
      | tup e1 t1 =>
        cases r2 with
        | tup e2 t2 =>
          rw [e1] at e2
          cases e2
          cases hz : zipL (itB C m n) _ _ with
          | none => rw [hz] at h; cases h
          | some bs =>
            rw [hz] at h
            cases h
            exact zip_same (itB_same n) t1 t2 hz
    · cases r1 with
      | lstF e1 t1 =>
        cases r2 with
        | lstF e2 t2 =>
          rw [e1] at e2
          cases e2
          split at h
          · cases hz : zipL (itB C m n) _ _ with
            | none => rw [hz] at h; cases h
            | some bs =>
              rw [hz] at h
              cases h
              exact zip_same (itB_same n) t1 t2 hz
          · rename_i hl
            exact absurd (t1.length.symm.trans t2.length) hl
    · exact base_same r1 r2 h
theorem itB_ins {k C : Nat} {f : Addr} {m : MF} {g1 g2 : List (Str × D)} {ps : Sl} {b : Bool} (F : FnG X.prog X.w X.K X.mg X.base (L2.CX X.prog X.w) k f (spM ca X.K m)) (c : OwnEqC X.K (ca C) f) (hr : RoomG k A) (hfr : A.frames = X.A.frames) (wl : Wl Hf H Em)
    (r1 : Rep ca X.K Hf H S1 x (.ins false C g1)) (r2 : Rep ca X.K Hf H S2 y (.ins false C g2)) (e : m [.ins false C g1, .ins false C g2] = .ok (.bl b) ps) (hs : x = y → b = true) : ItB X A x y H b := fun pins s σ H1 u v I ex rx ry => by
  have q1 := r1.cold (S' := Em) rfl
  have q2 := r2.cold (S' := Em) rfl
  obtain ⟨a, dx, fs, rfl, e1⟩ := rep_insA r1
  obtain ⟨b', dy, gs, rfl, e2⟩ := rep_insA r2
  cases rx
  cases ry
  by_cases hab : a = b'
  · subst hab
    rw [hs rfl]
    exact SeqAt.EqAt.same (A := A) (s := s) (.ref a) X.prog X.w X.xe _ ⟨rfl, H1, I, Ext.rfl'⟩
  · obtain ⟨mA, J, _⟩ := ins_get I.hok (ex _ _ (wl.ex _ _ e1))
    obtain ⟨mB, J', _⟩ := ins_get I.hok (ex _ _ (wl.ex _ _ e2))
    obtain ⟨od, J, _⟩ := J.look
    obtain ⟨od', J', _⟩ := J'.look
    obtain ⟨mm, hF⟩ := I.fr
    have hs : spM ca X.K m [.ref a, .ref b'] H1 (fun v H' => v = .bl b ∧ Ext H1 H') (fun cls dd H' => wX X cls dd σ H') := by
      refine ⟨Hf, Em, [.ins false C g1, .ins false C g2], .cons (S1 := Em) (S2 := Em) (q1.keep (fun _ _ z => z) fun _ z => z.elim) (.cons (S1 := Em) (S2 := Em) (q2.keep (fun _ _ z => z) fun _ z => z.elim) .nil (fun _ z => z) (fun _ z => z) fun _ z _ => z) (fun _ z => z) (fun _ z => z) fun _ z _ => z, ⟨fun b o z => ex _ _ (wl.ex b o z), fun _ z => z.elim, fun _ z => z.elim⟩, ?_⟩
      rw [e]
      intro Hf' H' P' Rp v t q
      exact ⟨rep_bl q.pend, fun b o z => t.keep b o z fun y => y.elim⟩
    refine GQ.eqBool_refG hab (PySem.W.cmp_K (op := .Eq) (tb := .ref (ca C)) hr.2.units0 hF I.ok.mod.kin J J'.type (by simp [PySem.W.notFirst]) c.eq c.fn (thn (eq_runG F hr hfr (passAt (takes_wX X) σ) I hs) fun v s' z => ?_))
    obtain ⟨vv, H', I', rv, ev, ee⟩ := z
    subst ev
    cases rv
    exact ⟨b, rfl, rfl, H', I', ee⟩
theorem base_D {k C : Nat} {f : Addr} {m : MF} {b : Bool} (F : FnG X.prog X.w X.K X.mg X.base (L2.CX X.prog X.w) k f (spM ca X.K m)) (c : OwnEqC X.K (ca C) f) (hr : RoomG k A) (hfr : A.frames = X.A.frames) (wl : Wl Hf H Em)
    (r1 : Rep ca X.K Hf H S1 x d) (r2 : Rep ca X.K Hf H S2 y e) (h : baseB C m d e = some b) : ItB X A x y H b := by
  have hsame : x = y → b = true := fun z => by
    subst z
    exact base_same r1 r2 h
  unfold baseB at h
  split at h
  · split at h
    · rename_i hc
      rw [Bool.and_eq_true, Bool.and_eq_true, Bool.and_eq_true, decide_eq_true_eq, decide_eq_true_eq] at hc
      obtain ⟨⟨⟨rfl, rfl⟩, h1⟩, h2⟩ := hc
      split at h
      · rename_i e1
        split at h
        · cases h
          exact itB_ins F c hr hfr wl r1 r2 e1 hsame
        · cases h
      · cases h
    · cases h
  · split at h
    · rename_i hc
      rw [Bool.and_eq_true] at hc
      cases h
      rw [← rep_eqF r1 r2 hc.1 hc.2]
      exact itB_flat (rep_flat r1 hc.1) (rep_flat r2 hc.2)
    · cases h
theorem itsB_D {f : D → D → Option Bool} (hf : ∀ {x y : V} {d e : D} {S1 S2 : Rg} {b : Bool}, Rep ca X.K Hf H S1 x d → Rep ca X.K Hf H S2 y e → f d e = some b → ItB X A x y H b) :
    ∀ {vs ws : List V} {ds es : List D} {bs : List Bool} {S1 S2 : Rg}, RepL ca X.K Hf H S1 vs ds → RepL ca X.K Hf H S2 ws es → zipL f ds es = some bs → ItsB X A vs ws H (fun i => bs.getD i true) ∧ bs.length = vs.length
  | _, _, _, _, _, _, _, .nil, .nil, h => by cases h; exact ⟨⟨rfl, fun i u v z => by simp at z⟩, rfl⟩
  | _, _, _, _, _, _, _, .cons (d := d) r1 t1 _ _ _, .cons (d := e) r2 t2 _ _ _, h => by
    rw [zipL] at h
    split at h
    · rename_i e1 e2
      cases h
      obtain ⟨⟨q1, q2⟩, q3⟩ := itsB_D hf t1 t2 e2
      refine ⟨⟨by rw [List.length_cons, List.length_cons, q1], fun i u v z1 z2 => ?_⟩, by rw [List.length_cons, List.length_cons, q3]⟩
      cases i with
      | zero =>
        rw [List.getElem?_cons_zero] at z1 z2
        cases z1
        cases z2
        exact hf r1 r2 e1
      | succ i =>
        rw [List.getElem?_cons_succ] at z1 z2
        exact q2 i u v z1 z2
    · cases h
  | _, _, _, _, _, _, _, .nil, .cons .., h => by cases h
  | _, _, _, _, _, _, _, .cons .., .nil, h => by cases h
theorem itB_D {k C : Nat} {f : Addr} {m : MF} (F : FnG X.prog X.w X.K X.mg X.base (L2.CX X.prog X.w) k f (spM ca X.K m)) (c0 : OwnEqC X.K (ca C) f) (wl : Wl Hf H Em) : ∀ (n : Nat) {A : Around} {x y : V} {d e : D} {S1 S2 : Rg} {b : Bool}, RoomG (k + n) A → A.frames = X.A.frames →
    Rep ca X.K Hf H S1 x d → Rep ca X.K Hf H S2 y e → itB C m n d e = some b → ItB X A x y H b
  | 0, _, _, _, _, _, _, _, _, hr, hfr, r1, r2, h => base_D F c0 hr hfr wl r1 r2 h
  | n + 1, A, x, y, d, e, S1, S2, b, hr, hfr, r1, r2, h => by
    have hsame : x = y → b = true := fun z => by
      subst z
      exact itB_same (n + 1) r1 r2 h
    have hr1 : RoomG (k + n) A.in1 := RoomG.in1 hr
    rw [itB] at h
    unfold itB1 at h
    split at h
    · cases r1 with
      | tup e1 t1 =>
        cases r2 with
        | tup e2 t2 =>
          cases hz : zipL (itB C m n) _ _ with
          | none => rw [hz] at h; cases h
          | some bs =>
            rw [hz] at h
            cases h
            obtain ⟨q1, q2⟩ := itsB_D (A := A.in1) (fun a b c => itB_D F c0 wl n hr1 hfr a b c) t1 t2 hz
            have ea := allF_all bs
            rw [q2] at ea
            have hs2 : _ → bs.all id = true := hsame
            rw [← ea] at hs2
            show ItB X A _ _ H (bs.all id)
            rw [← ea]
            exact itB_tup hr.2.units0 (.inl (.inl (wl.ex _ _ e1))) (.inl (.inl (wl.ex _ _ e2))) q1 fun z => hs2 (by rw [z])
    · cases r1 with
      | lstF e1 t1 =>
        cases r2 with
        | lstF e2 t2 =>
          split at h
          · cases hz : zipL (itB C m n) _ _ with
            | none => rw [hz] at h; cases h
            | some bs =>
              rw [hz] at h
              cases h
              obtain ⟨q1, q2⟩ := itsB_D (A := A.in1) (fun a b c => itB_D F c0 wl n hr1 hfr a b c) t1 t2 hz
              have ea := allF_all bs
              rw [q2] at ea
              have hs2 : _ → bs.all id = true := hsame
              rw [← ea] at hs2
              show ItB X A _ _ H (bs.all id)
              rw [← ea]
              exact itB_list hr.2.units0 (wl.ex _ _ e1) (wl.ex _ _ e2) q1 fun z => hs2 (by rw [z])
          · rename_i hl
            cases h
            exact itB_listL hr.2.units0 (wl.ex _ _ e1) (wl.ex _ _ e2) (by rw [t1.length, t2.length]; exact hl)
    · exact base_D F c0 (hr.mono (by omega)) hfr wl r1 r2 h
/-- == (neg: !=) of two lists that stand, n levels deep -/
def eEqD (neg : Bool) (C : Nat) (m : MF) (n : Nat) (oa ob : Opd) : ME := fun st => opds [oa, ob] st fun gs st2 => match gs st2 with
  | some [.lst false xs, .lst false ys] => if xs.length = ys.length then (match zipL (itB C m n) xs ys with
      | some bs => .ok (.bl (if neg then !bs.all id else bs.all id)) st2
      | none => .fail) else .ok (.bl neg) st2
  | _ => .fail
def rEqB (neg : Bool) (X : Cx) : L2.R2 := fun x y H Q => ∃ a b xs ys, x = .ref a ∧ y = .ref b ∧ H a = some (.lst xs) ∧ H b = some (.lst ys) ∧
  ((∃ c, ItsB X X.A.in1 xs ys H c ∧ ∀ H', Ext H H' → Q (.bl (if neg then !allF c 0 xs.length else allF c 0 xs.length)) H') ∨ (xs.length ≠ ys.length ∧ ∀ H', Ext H H' → Q (.bl neg) H'))
theorem op_eqB (hu : X.A.units < cLine) : OpR X (compareOp .Eq) (rEqB false X) := by
  intro pins s σ H x y v u Q I rx ry hq
  obtain ⟨a, b, xs, ys, rfl, rfl, ha, hb, hq⟩ := hq
  cases rx
  cases ry
  show wpAny (model X.prog X.w) X.A (richCompare .Eq _ _) (EP X pins σ Q) X.xe s
  rcases hq with ⟨c, hi, hQ⟩ | ⟨hl, hQ⟩
  · refine rc_listB (N := xs.length) hu (fun s' => LoopI X pins σ H s') (listB_of ha hb hi Ext.rfl') (fun s' q => ?_) ⟨H, I, Ext.rfl'⟩
    obtain ⟨H', I', e⟩ := q
    exact ⟨.bl _, H', I', rfl, hQ H' e⟩
  · obtain ⟨_, its, k, r, e1⟩ := I.hok a _ ha
    obtain ⟨_, its2, k2, r2, e2⟩ := I.hok b _ hb
    exact rc_listL hu (by rw [List.size_toArray, List.size_toArray, ← r.length, ← r2.length]; exact hl) e1 e2 ⟨.bl _, H, I, rfl, hQ H Ext.rfl'⟩
theorem op_neB (hu : X.A.units < cLine) : OpR X (compareOp .NotEq) (rEqB true X) := by
  intro pins s σ H x y v u Q I rx ry hq
  obtain ⟨a, b, xs, ys, rfl, rfl, ha, hb, hq⟩ := hq
  cases rx
  cases ry
  show wpAny (model X.prog X.w) X.A (richCompare .NotEq _ _) (EP X pins σ Q) X.xe s
  rcases hq with ⟨c, hi, hQ⟩ | ⟨hl, hQ⟩
  · refine rn_listB (N := xs.length) hu (fun s' => LoopI X pins σ H s') (listB_of ha hb hi Ext.rfl') (fun s' q => ?_) ⟨H, I, Ext.rfl'⟩
    obtain ⟨H', I', e⟩ := q
    exact ⟨.bl _, H', I', rfl, hQ H' e⟩
  · obtain ⟨_, its, k, r, e1⟩ := I.hok a _ ha
    obtain ⟨_, its2, k2, r2, e2⟩ := I.hok b _ hb
    exact rn_listL hu (by rw [List.size_toArray, List.size_toArray, ← r.length, ← r2.length]; exact hl) e1 e2 ⟨.bl _, H, I, rfl, hQ H Ext.rfl'⟩
theorem ce_eqD {k C n : Nat} {f : Addr} {a b : Expr} {oa ob : Opd} {m : MF} {pos : Pos} {op : CmpOp} (neg : Bool) (hop : op = if neg then .NotEq else .Eq) (F : FnG X.prog X.w X.K X.mg X.base (L2.CX X.prog X.w) k f (spM ca X.K m)) (c : OwnEqC X.K (ca C) f) (hr : RoomG (k + n + 1) X.A)
    (ha : CO ca X a oa) (hbb : CO ca X b ob) : CE ca X (.Compare a [op] [b] pos) (eEqD neg C m n oa ob) := fun Hf H R σ st Q p h => by
  have key : WL X [a, b] σ H fun vs H2 => rl2 (rEqB neg X) vs H2 Q := by
    refine ops_sound (.cons ha (.cons hbb .nil)) p h fun gs st2 Hf2 H2 R2 vs t2 p2 hr2 hk => ?_
    cases g : gs st2 with
    | none => rw [g] at hk; exact hk.elim
    | some ds =>
      rw [g] at hk
      match ds, hk with
      | [.lst false xs, .lst false ys], hk =>
        dsimp only at hk
        obtain ⟨x, y, S, S', e1, r1, r2⟩ := rdl2 (hr2 _ g) rfl
        subst e1
        cases r1 with
        | lstF a1 t1 =>
          cases r2 with
          | lstF a2 t2' =>
            have wl : Wl Hf2 H2 Em := p2.w.mono fun _ q => q.elim
            have fin : ∀ (bb : Bool), Post ca X Hf2 H2 (jn Em R2) σ (.ok (.bl bb) st2) Q → ∀ H', Ext H2 H' → Q (.bl bb) H' := fun bb hk H' ex => by
              have p3 := p2.drop
              refine hk Hf2 H' Em R2 (.bl bb) ⟨fun _ _ z => z, fun b o z _ => ex b o z, fun b z => .inl (z.elim (fun z => z.elim) .inr), fun _ _ z => .inl z⟩ ⟨.bl, p3.len, fun j d e => ?_, p3.dj, fun i b q _ => q.elim, ⟨fun b o z => ex b o (p3.w.ex b o z), fun b z => ?_, fun b z => p3.w.nf b z⟩⟩
              · obtain ⟨w, e1, r⟩ := p3.at_ j d e
                exact ⟨w, e1, r.keep (fun _ _ z => z) fun b _ o z => ex b o z⟩
              · obtain ⟨o, z⟩ := p3.w.dm b z
                exact ⟨o, ex b o z⟩
            by_cases hc : xs.length = ys.length
            · rw [if_pos hc] at hk
              cases hz : zipL (itB C m n) xs ys with
              | none => rw [hz] at hk; exact hk.elim
              | some bs =>
                rw [hz] at hk
                dsimp only at hk
                obtain ⟨q1, q2⟩ := itsB_D (A := X.A.in1) (fun a b c' => itB_D F c wl n (RoomG.in1 hr) rfl a b c') t1 t2' hz
                refine ⟨_, _, _, _, rfl, rfl, wl.ex _ _ a1, wl.ex _ _ a2, .inl ⟨_, q1, ?_⟩⟩
                have ea := allF_all bs
                rw [q2] at ea
                rw [ea]
                exact fin _ hk
            · rw [if_neg hc] at hk
              exact ⟨_, _, _, _, rfl, rfl, wl.ex _ _ a1, wl.ex _ _ a2, .inr ⟨by rw [t1.length, t2'.length]; exact hc, fin _ hk⟩⟩
  refine ⟨fun pins s I => ?_⟩
  cases neg with
  | false =>
    subst hop
    refine wpAny_Compare1 (binT (R := fun x y H => rEqB false X x y H Q) (we_pe X a) (we_pe X b) I key fun v u s2 x y H2 I2 rx ry q => ?_) (nomark b (by decide) (by decide))
    exact op_eqB hr.2.units0 pins s2 σ H2 x y v u Q I2 rx ry q
  | true =>
    subst hop
    refine wpAny_Compare1 (binT (R := fun x y H => rEqB true X x y H Q) (we_pe X a) (we_pe X b) I key fun v u s2 x y H2 I2 rx ry q => ?_) (nomark b (by decide) (by decide))
    exact op_neB hr.2.units0 pins s2 σ H2 x y v u Q I2 rx ry q
end
end DL

/-! DL178: slices of lists of cold items; the last item; a default, == of lists, a look evaluated. -/
namespace DL
open PySem (Str)
open Nw
theorem mDef_d {n : Nat} {dd d : D} {m : MF} {ds : List D} {st : Sl} (hl : ds.length = n) (h : m (ds ++ [dd]) = .ok d st) : mDef n dd m ds = .ok d (st.take n) := by
  unfold mDef
  rw [if_pos hl, h]
theorem mDef_f {n : Nat} {dd : D} {m : MF} {ds : List D} {r : CR} (hl : ds.length ≠ n) (h : m ds = r) : mDef n dd m ds = r := by
  unfold mDef
  rw [if_neg hl]
  exact h
theorem xEqD {neg : Bool} {C n : Nat} {m : MF} {m1 m2 : ME} {st st1 st2 : Sl} {xs ys : List D} {bs : List Bool} {d : D} (h1 : m1 st = .ok (.lst false xs) st1) (h2 : m2 st1 = .ok (.lst false ys) st2) (hl : xs.length = ys.length) (h : zipL (itB C m n) xs ys = some bs) (hd : D.bl (if neg then !bs.all id else bs.all id) = d) :
    eEqD neg C m n (.v m1) (.v m2) st = .ok d st2 := by
  unfold eEqD
  rw [opds, h1]
  dsimp only [Res.bind]
  rw [opds, h2]
  dsimp only [Res.bind]
  rw [opds]
  show (if xs.length = ys.length then _ else _) = _
  rw [if_pos hl, h]
  dsimp only
  rw [hd]
theorem xEqDL {neg : Bool} {C n : Nat} {m : MF} {m1 m2 : ME} {st st1 st2 : Sl} {xs ys : List D} (h1 : m1 st = .ok (.lst false xs) st1) (h2 : m2 st1 = .ok (.lst false ys) st2) (hl : xs.length ≠ ys.length) :
    eEqD neg C m n (.v m1) (.v m2) st = .ok (.bl neg) st2 := by
  unfold eEqD
  rw [opds, h1]
  dsimp only [Res.bind]
  rw [opds, h2]
  dsimp only [Res.bind]
  rw [opds]
  show (if xs.length = ys.length then _ else _) = _
  rw [if_neg hl]
end DL

/-! DL179: a call without arguments. -/
namespace DL
open PySem PySem.Spec PyProof.Rows L2
section
variable {ca : Nat → Addr} {X : Cx}
theorem ce_call0 {k : Nat} {f : Addr} {x : Str} {p pos : Pos} {m : MF} (F : FnG X.prog X.w X.K X.mg X.base (L2.CX X.prog X.w) k f (spM ca X.K m)) (hr : RoomG k X.A) (hg : Gl X x) (hm : X.mg x = some (.ref f))
    (hk : PySem.W.keepIn X.K (.ref f) = true) (hdb : (x == ("__debug__" : Str)) = false := by decide) :
    CE ca X (.Call (.Name x p) [] [] pos) (eCall m aNil) := fun Hf H R σ st Q pr h => by
  unfold eCall aNil at h
  dsimp only [Res.bind] at h
  have p1 := pr.toP (P' := Em) (fun _ q => q) (RepL.nil (ca := ca) (K := X.K) (Hf := Hf) (H := H) (S := Em))
  refine ⟨fun pins s I => ?_⟩
  refine wpAny_Call_Name_kw (ld_glob I hg hm ?_ hdb)
  refine PySem.W.callWith_K0 I.kIn hk ?_
  exact wpAny_call (run_fnRS (us := []) (vs := []) F hr (passAt (takes_wX X) σ) I .nil ⟨Hf, Em, [], .nil, p1.w.mono fun b q => .inl q, postC_of p1 h⟩)
end
end DL

set_option maxHeartbeats 1000000
/-! DL180: == and != of an instance with an own == and an instance of another class (no subclass of it). -/
namespace PySem
open Sem (wp)
open Builtin
section
variable {prog : Program} {w : World} {A : Around} {E : Value → Shared → Prop} {h : Heap} {g : Array GenState} {d : Drawn} {t : Nat} {os : OsState} {C C2 x y f : Addr} {B : String} {bm : List Value}
theorem richCompare_ne_mix (FB : CmpFacts B bm) (X : h.OwnEqNoNe x C f B bm) {oy : Obj} (hy : h.get? y = some oy) (hyc : oy.cls = .ref C2) (hsub : PySem.W.Looks (model prog w) h (isSubtype (.ref C2) (.ref C)) false) (hu : A.units + 1 < cLine) {Q : Value → Shared → Prop}
    (hcall : wpAny (model prog w) A.in1 (call (.ref f) [.ref x, .ref y]) (fun v s' => ∃ b, v = .bool b ∧ Q (.bool (!b)) s') E ⟨h, g, d, t, os⟩) :
    wpAny (model prog w) A (richCompare .NotEq (.ref x) (.ref y)) Q E ⟨h, g, d, t, os⟩ := by
  have X' := X
  obtain ⟨o, of, nm, q, N, bs, hdct, sn, sub, ab, col, dd, k0, k1, k2, k3, k5, newId, mN, yv, hx, hc, _⟩ := X'
  unfold richCompare
  simp only [oneThing_ref]
  refine wpAny_holding ?_
  refine wpAny_bind (wpAny_cRoomFor (Nat.lt_of_succ_lt hu) ?_)
  rw [cmpInfo_NotEq]
  dsimp only
  refine wpAny_bind (wpAny_typeOf_ref hx ?_)
  rw [hc]
  refine wpAny_bind (wpAny_typeOf_ref hy ?_)
  rw [hyc]
  split
  · refine wpAny_bind (hsub.here ?_)
    simp only [Bool.false_eq_true, if_false]
    refine wpAny_bind (tryCompare_ne_ownEq FB X hu (wpAny_mono hcall (fun v s' hv => ?_) fun _ _ e => e))
    obtain ⟨b, rfl, hq⟩ := hv
    first | exact ⟨b, rfl, wpAny_pure hq⟩ | exact ⟨b, rfl, wpAny_pure (wpAny_pure hq)⟩
  · refine wpAny_bind (wpAny_pure ?_)
    simp only [Bool.false_eq_true, if_false]
    refine wpAny_bind (tryCompare_ne_ownEq FB X hu (wpAny_mono hcall (fun v s' hv => ?_) fun _ _ e => e))
    obtain ⟨b, rfl, hq⟩ := hv
    first | exact ⟨b, rfl, wpAny_pure hq⟩ | exact ⟨b, rfl, wpAny_pure (wpAny_pure hq)⟩
end
end PySem
namespace DL
open PySem PySem.Spec PyProof.Rows L2
def eEqJ (neg : Bool) (C C2 : Nat) (f : MF) (oa ob : Opd) : ME := fun st => opds [oa, ob] st fun gs st2 => match gs st2 with
  | some [x, y] => if insC x = some C ∧ insC y = some C2 then (match f [x, y] with
    | .ok (.bl k) _ => .ok (.bl (if neg then !k else k)) st2
    | _ => .fail) else .fail
  | _ => .fail
section
variable {ca : Nat → Addr} {K : PySem.W.Frag} {Hf H Hf1 H1 : Hp} {S P : Rg} {R R1 : Nat → Rg} {σ : L2.St} {st : Sl} {v : V} {d : D} {vs : List V} {ds : List D} {X : Cx} {L : List Nat}
def rEqJ (neg : Bool) (C C2 : Addr) (sp : Sp) (E : L2.St → XK) (σ : L2.St) : L2.R2 := fun x y H Q => ∃ a b dx dy fs gs, x = .ref a ∧ y = .ref b ∧ H a = some (.ins C dx fs) ∧ H b = some (.ins C2 dy gs) ∧
  sp [.ref a, .ref b] H (fun v H' => ∃ k, v = .bl k ∧ Q (.bl (if neg then !k else k)) H') (E σ)
theorem rc_eqJ {CX : CXT} {k : Nat} {f C C2 : Addr} {sp : Sp} {E : L2.St → XK} (F : FnG X.prog X.w X.K X.mg X.base CX k f sp) (c : OwnEqC X.K C f) (hsb : PySem.W.subIn X.K (.ref C2) (.ref C) = some false) (hr : RoomG (k + 1) X.A) (hx : ∀ σ, PassesAt CX X σ (E σ)) (neg : Bool)
    {pins : List (Addr × Obj)} {s : Shared} {x y : V} {u v : Value} {Q : VK} (I : Inv X pins σ H s) (rx : RelV x u) (ry : RelV y v) (h : rEqJ neg C C2 sp E σ x y H Q) :
    wpAny (model X.prog X.w) X.A (compareOp (if neg then .NotEq else .Eq) u v) (EP X pins σ Q) X.xe s := by
  obtain ⟨a, b, dx, dy, fs, gs, rfl, rfl, ha, hb', hs⟩ := h
  cases rx
  cases ry
  obtain ⟨mA, J, _⟩ := ins_get I.hok ha
  obtain ⟨mB, J', _⟩ := ins_get I.hok hb'
  cases neg with
  | false =>
    obtain ⟨od, J, _⟩ := J.look
    obtain ⟨od', J', _⟩ := J'.look
    obtain ⟨m, hF⟩ := I.fr
    show wpAny _ _ (richCompare .Eq _ _) _ _ _
    refine PySem.W.cmp_K (op := .Eq) (tb := .ref C2) hr.2.units0 hF I.ok.mod.kin J J'.type (notF_of hsb) c.eq c.fn ?_
    refine thn (eq_runG F (hr.mono (Nat.le_succ k)) rfl (hx σ) I hs) fun v s' ⟨vv, H', I', rv, kk, ev, q⟩ => ?_
    subst ev
    cases rv
    exact ⟨.bl kk, H', I', rfl, q⟩
  | true =>
    obtain ⟨of, nm, q, N, bs, hdct, sn, sub, ab, col, dd, k0, k1, k2, k3, k5, newId, hC, hN0, hN1, hN2, hf, hfc⟩ := c.ne
    obtain ⟨hp, g, dr, tk, os⟩ := s
    have hk : X.K.In hp := I.kIn
    have hNs : hp.Ns N (hp.nsMap N) := .of_isNs (PySem.W.isNs_of_in hk hN0)
    have fin := eq_runG F (hr.in1) (show X.A.in1.frames = X.A.frames from rfl) (hx σ) I hs
    show wpAny _ _ (richCompare .NotEq _ _) _ _ _
    refine richCompare_ne_mix PySem.F.cmp_object ⟨_, of, nm, q, N, bs, hdct, sn, sub, ab, col, dd, k0, k1, k2, k3, k5, newId, _, _, J.obj, rfl, hk _ _ hC, hNs, ns_some hk hNs hN1, hk _ _ hf, hfc, PySem.F.cmp_object.mro, PySem.F.cmp_object.eq.lookup, PySem.W.nsMap_none_of_in hk hN0 hN2⟩ J'.obj rfl (PySem.W.looks_subIn hk hsb) (Nat.lt_of_le_of_lt (Nat.le_add_right _ 0) ?_) ?_
    · have := hr.2.units
      omega
    · refine thn fin fun v s' ⟨vv, H', I', rv, kk, ev, q⟩ => ?_
      subst ev
      cases rv
      exact ⟨kk, rfl, .bl (!kk), H', I', rfl, q⟩
theorem rdl_insJ {x y : D} {C C2 : Nat} (hx : Ex Hf H) (rd : RdL ca X.K Hf H vs [x, y]) (c1 : insC x = some C) (c2 : insC y = some C2) : ∃ a b dx dy fs gs, vs = [.ref a, .ref b] ∧ H a = some (.ins (ca C) dx fs) ∧ H b = some (.ins (ca C2) dy gs) ∧ RepL ca X.K Hf H Em vs [x, y] := by
  obtain ⟨v, w, S, S', e1, r1, r2⟩ := rdl2 rd rfl
  subst e1
  cases x <;> try (cases c1; done)
  rename_i o1 C1' g1
  cases o1 <;> try (cases c1; done)
  cases y <;> try (cases c2; done)
  rename_i o2 C2' g2
  cases o2 <;> try (cases c2; done)
  cases c1
  cases c2
  have q1 := r1.cold (S' := Em) rfl
  have q2 := r2.cold (S' := Em) rfl
  obtain ⟨a, dx, fs, rfl, e1⟩ := rep_insA r1
  obtain ⟨b, dy, gs, rfl, e2⟩ := rep_insA r2
  exact ⟨a, b, dx, dy, fs, gs, rfl, hx _ _ e1, hx _ _ e2, .cons (S1 := Em) (S2 := Em) q1 (RepL.one q2) (fun _ q => q) (fun _ q => q) fun _ q _ => q⟩
theorem ce_eqJ {k C C2 : Nat} {f : Addr} {a b : Expr} {oa ob : Opd} {m : MF} {pos : Pos} {op : CmpOp} (neg : Bool) (hop : op = if neg then .NotEq else .Eq) (F : FnG X.prog X.w X.K X.mg X.base (L2.CX X.prog X.w) k f (spM ca X.K m)) (c : OwnEqC X.K (ca C) f) (hsb : PySem.W.subIn X.K (.ref (ca C2)) (.ref (ca C)) = some false) (hr : RoomG (k + 1) X.A)
    (ha : CO ca X a oa) (hbb : CO ca X b ob) : CE ca X (.Compare a [op] [b] pos) (eEqJ neg C C2 m oa ob) := fun Hf H R σ st Q p h => by
  have ho : ∀ (pins : List (Addr × Obj)) (s : Shared) (σ : L2.St) (H : Hp) (x y : V) (u v : Value) (Q : VK), Inv X pins σ H s → RelV x u → RelV y v → rEqJ neg (ca C) (ca C2) (spM ca X.K m) (fun σ cls dd H' => wX X cls dd σ H') σ x y H Q →
      wpAny (model X.prog X.w) X.A (compareOp (if neg then .NotEq else .Eq) u v) (EP X pins σ Q) X.xe s := fun pins s σ H x y u v Q I rx ry h => rc_eqJ F c hsb hr (fun σ => passAt (takes_wX X) σ) neg I rx ry h
  have hm : behindInMarks op b = false := nomark b (by rw [hop]; cases neg <;> decide) (by rw [hop]; cases neg <;> decide)
  have key : WL X [a, b] σ H fun vs H2 => rl2 (rEqJ neg (ca C) (ca C2) (spM ca X.K m) (fun σ cls dd H' => wX X cls dd σ H') σ) vs H2 Q := by
    refine ops_sound (.cons ha (.cons hbb .nil)) p h fun gs st2 Hf2 H2 R2 vs t2 p2 hr2 hk => ?_
    cases g : gs st2 with
    | none => rw [g] at hk; exact hk.elim
    | some ds =>
      rw [g] at hk
      match ds, hk with
      | [x, y], hk =>
        dsimp only at hk
        by_cases hc : insC x = some C ∧ insC y = some C2
        · rw [if_pos hc] at hk
          obtain ⟨a, b, dx, dy, fs, gs', rfl, e1, e2, rl⟩ := rdl_insJ (X := X) p2.w.ex (hr2 _ g) hc.1 hc.2
          refine ⟨a, b, dx, dy, fs, gs', rfl, rfl, e1, e2, Hf2, Em, [x, y], rl, p2.w.mono fun _ q => q.elim, ?_⟩
          refine postC_of (σ := σ) (st := st2) (R := R2) (p2.imp fun _ => rl) ?_
          cases em : m [x, y] with
          | fail => rw [em] at hk; exact hk
          | exc x0 ps => rw [em] at hk; exact hk.elim
          | ok d ps =>
            rw [em] at hk
            cases d with
            | bl kk =>
              intro Hf3 H3 P3 R3 v3 t3 p3
              exact ⟨kk, rep_bl p3.pend, hk Hf3 H3 Em R3 _ (less0 t3) (p3.drop.put .bl)⟩
            | _ => exact hk.elim
        · rw [if_neg hc] at hk; exact hk.elim
  refine ⟨fun pins s I => ?_⟩
  refine wpAny_Compare1 (binT (R := fun x y H => rEqJ neg (ca C) (ca C2) (spM ca X.K m) (fun σ cls dd H' => wX X cls dd σ H') σ x y H Q) (we_pe X a) (we_pe X b) I key fun v u s2 x y H2 I2 rx ry q => ?_) hm
  rw [hop]
  exact ho pins s2 σ H2 x y v u Q I2 rx ry q
end
theorem xEqJ {neg : Bool} {C C2 : Nat} {F : MF} {m1 m2 : ME} {st st1 st2 : Sl} {a b d : D} {p : Bool} {ps : Sl} (h1 : m1 st = .ok a st1) (h2 : m2 st1 = .ok b st2) (ha : insC a = some C) (hb : insC b = some C2) (hf : F [a, b] = .ok (.bl p) ps) (hd : D.bl (if neg then !p else p) = d) : eEqJ neg C C2 F (.v m1) (.v m2) st = .ok d st2 := by
  unfold eEqJ
  rw [opds, h1]
  dsimp only [Res.bind]
  rw [opds, h2]
  dsimp only [Res.bind]
  rw [opds]
  show (if insC a = some C ∧ insC b = some C2 then _ else _) = _
  rw [if_pos ⟨ha, hb⟩, hf]
  dsimp only
  rw [hd]
end DL

namespace Lw70
open PySem PySem.Spec PyProof.Rows L2 DL
/-! ### the text -/
def topS (i : Nat) : Stmt := PySem.Challenge.pw_nearswap_k70_bench_equality_and_copies.main.body.getD i (.Pass ⟨0, 0, 0, 0⟩)
abbrev s__law_source : Stmt := topS 23
theorem sc__law_source : FnScope ["_law_script", "_law_k", "_law_cell", "_law_size", "_law_mixed"] ["_law_script", "_law_k"] (defScope s__law_source) := ⟨rfl, rfl, rfl, by decide +kernel, rfl, by decide +kernel, by decide +kernel⟩
abbrev s__law_draw : Stmt := topS 24
theorem sc__law_draw : FnScope ["_law_source_here", "_law_many", "_law_result"] ["_law_source_here", "_law_many"] (defScope s__law_draw) := ⟨rfl, rfl, rfl, by decide +kernel, rfl, by decide +kernel, by decide +kernel⟩
abbrev s__law_steps : Stmt := topS 25
theorem sc__law_steps : FnScope ["_law_source_here", "_law_width", "_law_many", "_law_k"] ["_law_source_here", "_law_width", "_law_many"] (defScope s__law_steps) := ⟨rfl, rfl, rfl, by decide +kernel, rfl, by decide +kernel, by decide +kernel⟩
abbrev s__law_change : Stmt := topS 27
theorem sc__law_change : FnScope ["_law_source_here", "_law_width", "_law_steps_here", "_law_way"] ["_law_source_here", "_law_width", "_law_steps_here"] (defScope s__law_change) := ⟨rfl, rfl, rfl, by decide +kernel, rfl, by decide +kernel, by decide +kernel⟩
abbrev s__law_new_steps : Stmt := topS 26
theorem sc__law_new_steps : FnScope ["_law_width", "_law_steps_here", "_law_change_here", "_law_word"] ["_law_width", "_law_steps_here", "_law_change_here"] (defScope s__law_new_steps) := ⟨rfl, rfl, rfl, by decide +kernel, rfl, by decide +kernel, by decide +kernel⟩
abbrev s_is_integer : Stmt := topS 10
theorem sc_is_integer : FnScope ["value", "low", "high"] ["value", "low", "high"] (defScope s_is_integer) := ⟨rfl, rfl, rfl, by decide +kernel, rfl, by decide +kernel, by decide +kernel⟩
abbrev s_check_width : Stmt := topS 13
theorem sc_check_width : FnScope ["width"] ["width"] (defScope s_check_width) := ⟨rfl, rfl, rfl, by decide +kernel, rfl, by decide +kernel, by decide +kernel⟩
abbrev s_check_steps : Stmt := topS 14
theorem sc_check_steps : FnScope ["width", "steps", "index", "step"] ["width", "steps"] (defScope s_check_steps) := ⟨rfl, rfl, rfl, by decide +kernel, rfl, by decide +kernel, by decide +kernel⟩
abbrev s_Network___init__ : Stmt := inClass (topS 16) 2
theorem sc_Network___init__ : FnScope ["self", "width", "steps"] ["self", "width", "steps"] (defScope s_Network___init__) := ⟨rfl, rfl, rfl, by decide +kernel, rfl, by decide +kernel, by decide +kernel⟩
abbrev s_Network_empty : Stmt := inClass (topS 16) 5
theorem sc_Network_empty : FnScope ["cls", "width"] ["cls", "width"] (defScope s_Network_empty) := ⟨rfl, rfl, rfl, by decide +kernel, rfl, by decide +kernel, by decide +kernel⟩
abbrev s_Bench___init__ : Stmt := inClass (topS 21) 0
theorem sc_Bench___init__ : FnScope ["self", "width"] ["self", "width"] (defScope s_Bench___init__) := ⟨rfl, rfl, rfl, by decide +kernel, rfl, by decide +kernel, by decide +kernel⟩
abbrev s_Bench_keep : Stmt := inClass (topS 21) 3
theorem sc_Bench_keep : FnScope ["self", "word", "steps"] ["self", "word", "steps"] (defScope s_Bench_keep) := ⟨rfl, rfl, rfl, by decide +kernel, rfl, by decide +kernel, by decide +kernel⟩
abbrev s_Bench_drop : Stmt := inClass (topS 21) 8
theorem sc_Bench_drop : FnScope ["self", "index", "steps"] ["self", "index"] (defScope s_Bench_drop) := ⟨rfl, rfl, rfl, by decide +kernel, rfl, by decide +kernel, by decide +kernel⟩
abbrev s_Bench_check_step : Stmt := inClass (topS 21) 4
theorem sc_Bench_check_step : FnScope ["self", "step", "index"] ["self", "step", "index"] (defScope s_Bench_check_step) := ⟨rfl, rfl, rfl, by decide +kernel, rfl, by decide +kernel, by decide +kernel⟩
abbrev s_check_count : Stmt := topS 15
theorem sc_check_count : FnScope ["count"] ["count"] (defScope s_check_count) := ⟨rfl, rfl, rfl, by decide +kernel, rfl, by decide +kernel, by decide +kernel⟩
abbrev s_Bench_place : Stmt := inClass (topS 21) 7
theorem sc_Bench_place : FnScope ["self", "index", "step", "steps"] ["self", "index", "step"] (defScope s_Bench_place) := ⟨rfl, rfl, rfl, by decide +kernel, rfl, by decide +kernel, by decide +kernel⟩
abbrev s_Network___len__ : Stmt := inClass (topS 16) 14
theorem sc_Network___len__ : FnScope ["self"] ["self"] (defScope s_Network___len__) := ⟨rfl, rfl, rfl, by decide +kernel, rfl, by decide +kernel, by decide +kernel⟩
abbrev s_Bench_add_all : Stmt := inClass (topS 21) 6
theorem sc_Bench_add_all : FnScope ["self", "steps", "index", "step"] ["self", "steps"] (defScope s_Bench_add_all) := ⟨rfl, rfl, rfl, by decide +kernel, rfl, by decide +kernel, by decide +kernel⟩
abbrev s_Bench_add : Stmt := inClass (topS 21) 5
theorem sc_Bench_add : FnScope ["self", "steps"] ["self", "steps"] (defScope s_Bench_add) := ⟨rfl, rfl, rfl, by decide +kernel, rfl, by decide +kernel, by decide +kernel⟩
abbrev s__law_perform : Stmt := topS 28
theorem sc__law_perform : FnScope ["_law_bench", "_law_change_here"] ["_law_bench", "_law_change_here"] (defScope s__law_perform) := ⟨rfl, rfl, rfl, by decide +kernel, rfl, by decide +kernel, by decide +kernel⟩
abbrev s__law_made : Stmt := topS 31
theorem sc__law_made : FnScope ["_law_width", "_law_changes", "_law_bench", "_law_change_here"] ["_law_width", "_law_changes"] (defScope s__law_made) := ⟨rfl, rfl, rfl, by decide +kernel, rfl, by decide +kernel, by decide +kernel⟩
abbrev s_Bench_copy : Stmt := inClass (topS 21) 12
theorem sc_Bench_copy : FnScope ["self", "result"] ["self"] (defScope s_Bench_copy) := ⟨rfl, rfl, rfl, by decide +kernel, rfl, by decide +kernel, by decide +kernel⟩
abbrev s_Network___eq__ : Stmt := inClass (topS 16) 13
theorem sc_Network___eq__ : FnScope ["self", "other"] ["self", "other"] (defScope s_Network___eq__) := ⟨rfl, rfl, rfl, by decide +kernel, rfl, by decide +kernel, by decide +kernel⟩
abbrev s_Bench___eq__ : Stmt := inClass (topS 21) 13
theorem sc_Bench___eq__ : FnScope ["self", "other"] ["self", "other"] (defScope s_Bench___eq__) := ⟨rfl, rfl, rfl, by decide +kernel, rfl, by decide +kernel, by decide +kernel⟩
abbrev s_Bench___repr__ : Stmt := inClass (topS 21) 15
theorem sc_Bench___repr__ : FnScope ["self"] ["self"] (defScope s_Bench___repr__) := ⟨rfl, rfl, rfl, by decide +kernel, rfl, by decide +kernel, by decide +kernel⟩
abbrev s_Bench___len__ : Stmt := inClass (topS 21) 14
theorem sc_Bench___len__ : FnScope ["self"] ["self"] (defScope s_Bench___len__) := ⟨rfl, rfl, rfl, by decide +kernel, rfl, by decide +kernel, by decide +kernel⟩
abbrev s_Bench_changes : Stmt := inClass (topS 21) 2
theorem sc_Bench_changes : FnScope ["self", "word", "network"] ["self"] (defScope s_Bench_changes) := ⟨rfl, rfl, rfl, by decide +kernel, rfl, by decide +kernel, by decide +kernel⟩
abbrev s__law_state : Stmt := topS 29
theorem sc__law_state : FnScope ["_law_bench"] ["_law_bench"] (defScope s__law_state) := ⟨rfl, rfl, rfl, by decide +kernel, rfl, by decide +kernel, by decide +kernel⟩
abbrev s__law_unlike : Stmt := topS 32
theorem sc__law_unlike : FnScope ["_law_one", "_law_two"] ["_law_one", "_law_two"] (defScope s__law_unlike) := ⟨rfl, rfl, rfl, by decide +kernel, rfl, by decide +kernel, by decide +kernel⟩
abbrev s_is_any_integer : Stmt := topS 11
theorem sc_is_any_integer : FnScope ["value"] ["value"] (defScope s_is_any_integer) := ⟨rfl, rfl, rfl, by decide +kernel, rfl, by decide +kernel, by decide +kernel⟩
abbrev s_Bench_undo : Stmt := inClass (topS 21) 9
theorem sc_Bench_undo : FnScope ["self", "times", "result", "turn", "word"] ["self", "times"] (defScope s_Bench_undo) := ⟨rfl, rfl, rfl, by decide +kernel, rfl, by decide +kernel, by decide +kernel⟩
abbrev s__law_other_index_holds : Stmt := topS 33
theorem sc__law_other_index_holds : FnScope ["_law_one", "_law_two"] [] (defScope s__law_other_index_holds) := ⟨rfl, rfl, rfl, by decide +kernel, rfl, by decide +kernel, by decide +kernel⟩
abbrev s_law : Stmt := topS 34
theorem sc_law : FnScope ["_law_script", "_law_k", "_law_source_here", "_law_width", "_law_changes", "_law_steps_here", "_law_turn", "_law_change_here", "_law_one", "_law_two", "_law_twin", "_law_state_here", "_law_other"] ["_law_script"] (defScope s_law) := ⟨rfl, rfl, rfl, by decide +kernel, rfl, by decide +kernel, by decide +kernel⟩
abbrev s_Bench_network : Stmt := inClass (topS 21) 1
theorem sc_Bench_network : FnScope ["self"] ["self"] (defScope s_Bench_network) := ⟨rfl, rfl, rfl, by decide +kernel, rfl, by decide +kernel, by decide +kernel⟩
abbrev s_Network_steps : Stmt := inClass (topS 16) 4
theorem sc_Network_steps : FnScope ["self"] ["self"] (defScope s_Network_steps) := ⟨rfl, rfl, rfl, by decide +kernel, rfl, by decide +kernel, by decide +kernel⟩
abbrev s_Network_width : Stmt := inClass (topS 16) 3
theorem sc_Network_width : FnScope ["self"] ["self"] (defScope s_Network_width) := ⟨rfl, rfl, rfl, by decide +kernel, rfl, by decide +kernel, by decide +kernel⟩
/-! ### the meanings -/
def isi_Bench : Nat → Option Bool := fun n => if n = 1 then some true else if n = 0 then some false else none
def isi_Network : Nat → Option Bool := fun n => if n = 0 then some true else none
def b__law_source : MS := (sSeq (sAsg (eOp oAdd [.v (eOp oMul [.v (eC (.int 7)), .v (eOp oSum [.v (eOp oS01 [.s 0, .v (eC (.int 63))])])]), .s 1]) (gN 2)) (sSeq (sIf (tE (eOp (f2 pLt) [.s 1, .v (eOp oLen [.s 0])])) (sAsg (eOp oIx [.s 0, .s 1]) (gN 2)) sNext) (sSeq (sAsg (eOp oAbs [.s 2]) (gN 3)) (sSeq (sAsg (eOp oMod [.v (eOp oMul [.v (eOp oAdd [.v (eOp oAdd [.v (eOp oAdd [.v (eOp oMod [.s 3, .v (eC (.int 2147483629))]), .v (eOp oMul [.v (eOp oMul [.v (eC (.int 7919)), .s 1]), .s 1])]), .v (eOp oMul [.v (eC (.int 31)), .s 1])]), .v (eC (.int 17))]), .v (eC (.int 48271))]), .v (eC (.int 2147483647))]) (gN 4)) (sRet (eLst (aCons (eOp oMul [.s 3, .v (eOp oInt [.v (eOp (f2 pGe) [.s 3, .v (eOp oPow [.v (eC (.int 10)), .v (eC (.int 18))])])])]) (aCons (eOp oMod [.v (eOp oMul [.s 4, .s 4]), .v (eC (.int 2147483629))]) aNil))))))))
def m__law_source : MF := fn 2 5 [0, 1] b__law_source
def b__law_draw : MS := (sSeq (sIf (tE (eOp (f2 pGt) [.v (eOp oIx [.s 0, .v (eC (.int 0))]), .v (eC (.int 0))])) (sSeq (sAsg (eOp oMod [.v (eOp oIx [.s 0, .v (eC (.int 0))]), .s 1]) (gN 2)) (sSeq (sAsg (eOp oDiv [.v (eOp oIx [.s 0, .v (eC (.int 0))]), .s 1]) (gIx 0 (eC (.int 0)))) (sRet (eMv 2)))) sNext) (sSeq (sAsg (eOp oMod [.v (eOp oAdd [.v (eOp oMul [.v (eOp oIx [.s 0, .v (eC (.int 1))]), .v (eC (.int 48271))]), .v (eC (.int 11))]), .v (eC (.int 2147483647))]) (gIx 0 (eC (.int 1)))) (sRet (eOp oMod [.v (eOp oDiv [.v (eOp oMod [.v (eOp oMul [.v (eOp oIx [.s 0, .v (eC (.int 1))]), .v (eOp oIx [.s 0, .v (eC (.int 1))])]), .v (eC (.int 2147483629))]), .v (eC (.int 16))]), .s 1]))))
def m__law_draw : MF := fn 2 3 [0, 1] b__law_draw
def lg1__law_steps : MG := (gN 3)
def le1__law_steps : ME := (eOp oAdd [.v (eC (.int 1)), .v (eCallL m__law_draw aNil 0 (aCons (eOp oSub [.s 1, .v (eC (.int 1))]) aNil))])
def b__law_steps : MS := (sRet (eLc (iR1 (eOp oMul [.s 2, .v (eOp oInt [.v (eOp (f2 pGt) [.s 1, .v (eC (.int 1))])])])) lg1__law_steps tYesM le1__law_steps [3]))
def m__law_steps : MF := fn 3 4 [0, 1, 2] b__law_steps
def b__law_change : MS := (sSeq (sAsg (eCallL m__law_draw aNil 0 (aCons (eC (.int 4)) aNil)) (gN 3)) (sSeq (sIf (tAndM (tE (eOp (f2 pEq) [.s 3, .v (eC (.int 0))])) (tE (eOp (f2 pNe) [.s 2, .v (eLst aNil)]))) (sRet (eTup (aCons (eC (.str "drop")) (aCons (eCallL m__law_draw aNil 0 (aCons (eOp oLen [.s 2]) aNil)) aNil)))) sNext) (sSeq (sIf (tAndM (tE (eOp (f2 pEq) [.s 3, .v (eC (.int 1))])) (tE (eOp (f2 pGt) [.s 1, .v (eC (.int 1))]))) (sRet (eTup (aCons (eC (.str "place")) (aCons (eCallL m__law_draw aNil 0 (aCons (eOp oAdd [.v (eOp oLen [.s 2]), .v (eC (.int 1))]) aNil)) (aCons (eOp oAdd [.v (eC (.int 1)), .v (eCallL m__law_draw aNil 0 (aCons (eOp oSub [.s 1, .v (eC (.int 1))]) aNil))]) aNil))))) sNext) (sRet (eTup (aCons (eC (.str "add")) (aCons (eCallL m__law_steps aNil 0 (aCons (eN 1) (aCons (eCallL m__law_draw aNil 0 (aCons (eC (.int 3)) aNil)) aNil))) aNil)))))))
def m__law_change : MF := fn 3 4 [0, 1, 2] b__law_change
def b__law_new_steps : MS := (sSeq (sAsg (eOp oIx [.s 2, .v (eC (.int 0))]) (gN 3)) (sSeq (sIf (tE (eOp (f2 pEq) [.s 3, .v (eC (.str "add"))])) (sRet (eOp oAdd [.s 1, .v (eOp oList [.v (eOp oIx [.s 2, .v (eC (.int 1))])])])) sNext) (sSeq (sIf (tE (eOp (f2 pEq) [.s 3, .v (eC (.str "place"))])) (sRet (eOp oAdd [.v (eOp oAdd [.v (eOp oS01 [.s 1, .v (eOp oIx [.s 2, .v (eC (.int 1))])]), .v (eLst (aCons (eOp oIx [.s 2, .v (eC (.int 2))]) aNil))]), .v (eOp oS10 [.s 1, .v (eOp oIx [.s 2, .v (eC (.int 1))])])])) sNext) (sRet (eOp oAdd [.v (eOp oS01 [.s 1, .v (eOp oIx [.s 2, .v (eC (.int 1))])]), .v (eOp oS10 [.s 1, .v (eOp oAdd [.v (eOp oIx [.s 2, .v (eC (.int 1))]), .v (eC (.int 1))])])])))))
def m__law_new_steps : MF := fn 3 4 [0, 1, 2] b__law_new_steps
def b_is_integer : MS := (sRet (eAnd (eOp (oIsiB "int") [.s 0, .v (eC (.ty "int"))]) (eAnd (eNot (eOp (oIsiB "bool") [.s 0, .v (eC (.ty "bool"))])) (eChain pLe pLe (eN 1) (eN 0) (eN 2)))))
def m_is_integer : MF := fn 3 3 [0, 1, 2] b_is_integer
def b_check_width : MS := (sIf (tNotM (tE (eCall m_is_integer (aCons (eN 0) (aCons (eC (.int 1)) (aCons (eC (.int 40)) aNil)))))) sFail sNext)
def m_check_width : MF := fn 1 1 [0] b_check_width
def fg1_check_steps : MG := (gT [(gN 2), (gN 3)])
def fb1_check_steps : MS := (sIf (tNotM (tE (eCall m_is_integer (aCons (eN 3) (aCons (eC (.int 1)) (aCons (eOp oSub [.s 0, .v (eC (.int 1))]) aNil)))))) sFail sNext)
def b_check_steps : MS := (sSeq (sIf (tOrM (tNotM (tE (eOp (oIsi2 "list" "tuple") [.s 1, .v (eTup (aCons (eC (.ty "list")) (aCons (eC (.ty "tuple")) aNil)))]))) (tE (eOp (f2 pGt) [.v (eOp oLen [.s 1]), .v (eC (.int 1000))]))) sFail sNext) (sFor (iEnA (eN 1)) fg1_check_steps fb1_check_steps))
def m_check_steps : MF := fn 2 4 [0, 1] b_check_steps
def b_Network___init__ : MS := (sSeq (sExpr (eCall m_check_width (aCons (eN 1) aNil))) (sSeq (sExpr (eCall m_check_steps (aCons (eN 1) (aCons (eN 2) aNil)))) (sSeq (sFldM 0 0 "own_width" (eN 1)) (sFldM 0 0 "own_steps" (eOp oTuple [.s 2])))))
def m_Network___init__ : MF := fn 3 3 [0, 1, 2] b_Network___init__
def b_Network_empty : MS := (sRet (eMakeV 0 0 m_Network___init__ (aCons (eN 1) (aCons (eLst aNil) aNil))))
def m_Network_empty : MF := fn 2 2 [0, 1] b_Network_empty
def b_Bench___init__ : MS := (sSeq (sFldO 1 0 "own_network" (eFz (eCall m_Network_empty (aCons (eC (.cls 0)) (aCons (eN 1) aNil))))) (sFldO 1 0 "own_history" (eLst aNil)))
def m_Bench___init__ : MF := fn 2 2 [0, 1] b_Bench___init__
def b_Bench_keep : MS := (sSeq (sExpr (eFApT 1 0 "own_history" "own_network" 1)) (sSeq (sFldO 1 0 "own_network" (eFz (eMake 0 m_Network___init__ (aCons (eOp (oFld 0 "own_width") [.v (eOp (oFld 1 "own_network") [.s 0])]) (aCons (eN 2) aNil))))) (sRet (eOp oLen [.s 2]))))
def m_Bench_keep : MF := fn 3 3 [0, 1, 2] b_Bench_keep
def b_Bench_drop : MS := (sSeq (sAsg (eOp oList [.v (eOp (oFld 0 "own_steps") [.v (eOp (oFld 1 "own_network") [.s 0])])]) (gN 2)) (sSeq (sIf (tNotM (tE (eCall m_is_integer (aCons (eN 1) (aCons (eC (.int 0)) (aCons (eOp oSub [.v (eOp oLen [.s 2]), .v (eC (.int 1))]) aNil)))))) sFail sNext) (sSeq (sExpr (eMthL 1 "keep" m_Bench_keep 0 (aCons (eC (.str "drop")) (aCons (eOp oAdd [.v (eOp oS01 [.s 2, .s 1]), .v (eOp oS10 [.s 2, .v (eOp oAdd [.s 1, .v (eC (.int 1))])])]) aNil)))) (sRet (eOp oIx [.s 2, .s 1])))))
def m_Bench_drop : MF := fn 2 3 [0, 1] b_Bench_drop
def b_Bench_check_step : MS := (sIf (tNotM (tE (eCall m_is_integer (aCons (eN 1) (aCons (eC (.int 1)) (aCons (eOp oSub [.v (eOp (oFld 0 "own_width") [.v (eOp (oFld 1 "own_network") [.s 0])]), .v (eC (.int 1))]) aNil)))))) sFail sNext)
def m_Bench_check_step : MF := fn 3 3 [0, 1, 2] b_Bench_check_step
def b_check_count : MS := (sIf (tE (eOp (f2 pGt) [.s 0, .v (eC (.int 1000))])) sFail sNext)
def m_check_count : MF := fn 1 1 [0] b_check_count
def b_Bench_place : MS := (sSeq (sAsg (eOp oList [.v (eOp (oFld 0 "own_steps") [.v (eOp (oFld 1 "own_network") [.s 0])])]) (gN 3)) (sSeq (sIf (tNotM (tE (eCall m_is_integer (aCons (eN 1) (aCons (eC (.int 0)) (aCons (eOp oLen [.s 3]) aNil)))))) sFail sNext) (sSeq (sExpr (eMthL 1 "check_step" m_Bench_check_step 0 (aCons (eN 2) (aCons (eC .non) aNil)))) (sSeq (sExpr (eCall m_check_count (aCons (eOp oAdd [.v (eOp oLen [.s 3]), .v (eC (.int 1))]) aNil))) (sRet (eMthL 1 "keep" m_Bench_keep 0 (aCons (eC (.str "place")) (aCons (eOp oAdd [.v (eOp oAdd [.v (eOp oS01 [.s 3, .s 1]), .v (eLst (aCons (eN 2) aNil))]), .v (eOp oS10 [.s 3, .s 1])]) aNil))))))))
def m_Bench_place : MF := fn 3 4 [0, 1, 2] b_Bench_place
def b_Network___len__ : MS := (sRet (eOp oLen [.v (eOp (oFld 0 "own_steps") [.s 0])]))
def m_Network___len__ : MF := fn 1 1 [0] b_Network___len__
def fg1_Bench_add_all : MG := (gT [(gN 2), (gN 3)])
def fb1_Bench_add_all : MS := (sExpr (eMthL 1 "check_step" m_Bench_check_step 0 (aCons (eN 3) (aCons (eN 2) aNil))))
def b_Bench_add_all : MS := (sSeq (sFor (iEnA (eN 1)) fg1_Bench_add_all fb1_Bench_add_all) (sSeq (sExpr (eCall m_check_count (aCons (eOp oAdd [.v (eLenI 0 m_Network___len__ (.v (eFz (eOp (oFld 1 "own_network") [.s 0])))), .v (eOp oLen [.s 1])]) aNil))) (sRet (eMthL 1 "keep" m_Bench_keep 0 (aCons (eC (.str "add")) (aCons (eLst (aStar (eOp (oFld 0 "own_steps") [.v (eOp (oFld 1 "own_network") [.s 0])]) (aStar (eN 1) aNil))) aNil))))))
def m_Bench_add_all : MF := fn 2 4 [0, 1] b_Bench_add_all
def b_Bench_add : MS := (sRet (eMthL 1 "add_all" m_Bench_add_all 0 (aCons (eN 1) aNil)))
def m_Bench_add : MF := mStar 1 (fn 2 2 [0, 1] b_Bench_add)
def b__law_perform : MS := (sSeq (sIf (tE (eOp (f2 pEq) [.v (eOp oIx [.s 1, .v (eC (.int 0))]), .v (eC (.str "drop"))])) (sRet (eMthL 1 "drop" m_Bench_drop 0 (aCons (eOp oIx [.s 1, .v (eC (.int 1))]) aNil))) sNext) (sSeq (sIf (tE (eOp (f2 pEq) [.v (eOp oIx [.s 1, .v (eC (.int 0))]), .v (eC (.str "place"))])) (sRet (eMthL 1 "place" m_Bench_place 0 (aCons (eOp oIx [.s 1, .v (eC (.int 1))]) (aCons (eOp oIx [.s 1, .v (eC (.int 2))]) aNil)))) sNext) (sSeq (sIf (tE (eOp (f2 pEq) [.v (eOp oLen [.v (eOp oIx [.s 1, .v (eC (.int 1))])]), .v (eC (.int 0))])) (sRet (eMthL 1 "add" m_Bench_add 0 aNil)) sNext) (sRet (eIf (tE (eOp (f2 pEq) [.v (eOp oLen [.v (eOp oIx [.s 1, .v (eC (.int 1))])]), .v (eC (.int 1))])) (eMthL 1 "add" m_Bench_add 0 (aCons (eOp oIx [.v (eOp oIx [.s 1, .v (eC (.int 1))]), .v (eC (.int 0))]) aNil)) (eMthL 1 "add" m_Bench_add 0 (aCons (eOp oIx [.v (eOp oIx [.s 1, .v (eC (.int 1))]), .v (eC (.int 0))]) (aCons (eOp oIx [.v (eOp oIx [.s 1, .v (eC (.int 1))]), .v (eC (.int 1))]) aNil))))))))
def m__law_perform : MF := fn 2 2 [0, 1] b__law_perform
def fg1__law_made : MG := (gN 3)
def fb1__law_made : MS := (sExpr (eCallL m__law_perform aNil 2 (aCons (eN 3) aNil)))
def b__law_made : MS := (sSeq (sAsg (eMake 1 m_Bench___init__ (aCons (eN 0) aNil)) (gN 2)) (sSeq (sFor (iE (eN 1) lstItems) fg1__law_made fb1__law_made) (sRet (eMv 2))))
def m__law_made : MF := fn 2 4 [0, 1] b__law_made
def b_Bench_copy : MS := (sSeq (sAsg (eMake 1 m_Bench___init__ (aCons (eOp (oFld 0 "own_width") [.v (eOp (oFld 1 "own_network") [.s 0])]) aNil)) (gN 1)) (sSeq (sFldO 1 1 "own_network" (eOp (oFld 1 "own_network") [.s 0])) (sSeq (sFldO 1 1 "own_history" (eFOp 1 0 "own_history" oList)) (sRet (eMv 1)))))
def m_Bench_copy : MF := fn 1 2 [0] b_Bench_copy
def b_Network___eq__ : MS := (sRet (eAnd (eOp (oIsiC 0 isi_Network) [.s 1, .v (eC (.cls 0))]) (eAnd (eOp (f2 pEq) [.v (eOp (oFld 0 "own_width") [.s 0]), .v (eOp (oFld 0 "own_width") [.s 1])]) (eOp (f2 pEq) [.v (eOp (oFld 0 "own_steps") [.s 0]), .v (eOp (oFld 0 "own_steps") [.s 1])]))))
def m_Network___eq__ : MF := fn 2 2 [0, 1] b_Network___eq__
def b_Bench___eq__ : MS := (sSeq (sIf (tNotM (tE (eOp (oIsiC 1 isi_Bench) [.s 1, .v (eC (.cls 1))]))) (sRet (eC (.bl false))) sNext) (sRet (eAnd (eEqI false 0 m_Network___eq__ (.v (eFz (eOp (oFld 1 "own_network") [.s 0]))) (.v (eFz (eOp (oFld 1 "own_network") [.s 1])))) (eEqD false 0 m_Network___eq__ 1 (.v (eFz (eOp (oFld 1 "own_history") [.s 0]))) (.v (eFz (eOp (oFld 1 "own_history") [.s 1])))))))
def m_Bench___eq__ : MF := fn 2 2 [0, 1] b_Bench___eq__
def b_Bench___repr__ : MS := (sRet (eJ [(eC (.str "Bench(")), (eOp oFmt [.v (eOp (oFld 0 "own_width") [.v (eOp (oFld 1 "own_network") [.s 0])])]), (eC (.str ", ")), (eOp oFmt [.v (eLenI 0 m_Network___len__ (.v (eFz (eOp (oFld 1 "own_network") [.s 0]))))]), (eC (.str " steps)"))]))
def m_Bench___repr__ : MF := fn 1 1 [0] b_Bench___repr__
def b_Bench___len__ : MS := (sRet (eLenI 0 m_Network___len__ (.v (eFz (eOp (oFld 1 "own_network") [.s 0])))))
def m_Bench___len__ : MF := fn 1 1 [0] b_Bench___len__
def lg1_Bench_changes : MG := (gT [(gN 1), (gN 2)])
def le1_Bench_changes : ME := (eN 1)
def b_Bench_changes : MS := (sRet (eThaw 0 (eLc (iE (eOp (oFld 1 "own_history") [.s 0]) lstItems) lg1_Bench_changes tYesM le1_Bench_changes [1, 2])))
def m_Bench_changes : MF := fn 1 3 [0] b_Bench_changes
def b__law_state : MS := (sRet (eLst (aCons (eOp (oFld 1 "own_network") [.s 0]) (aCons (ePropG 1 "changes" m_Bench_changes 0) (aCons (eThaw 0 (eLenI 1 m_Bench___len__ (.v (eFz (eN 0))))) (aCons (eThaw 0 (eReprI 1 m_Bench___repr__ (.v (eFz (eN 0))))) aNil))))))
def m__law_state : MF := fn 1 1 [0] b__law_state
def b__law_unlike : MS := (sRet (eAnd (eEqI true 1 m_Bench___eq__ (.v (eFz (eN 0))) (.v (eFz (eN 1)))) (eAnd (eNot (eEqI false 1 m_Bench___eq__ (.v (eFz (eN 0))) (.v (eFz (eN 1))))) (eEqI true 1 m_Bench___eq__ (.v (eFz (eN 1))) (.v (eFz (eN 0)))))))
def m__law_unlike : MF := fn 2 2 [0, 1] b__law_unlike
def b_is_any_integer : MS := (sRet (eAnd (eOp (oIsiB "int") [.s 0, .v (eC (.ty "int"))]) (eNot (eOp (oIsiB "bool") [.s 0, .v (eC (.ty "bool"))]))))
def m_is_any_integer : MF := fn 1 1 [0] b_is_any_integer
def fg1_Bench_undo : MG := (gN 3)
def fb1_Bench_undo : MS := (sSeq (sAsg (eFM0 1 0 "own_history" fPop) (gT [(gN 4), (gFldM 1 0 "own_network")])) (sExpr (eApp 2 (eN 4))))
def b_Bench_undo : MS := (sSeq (sIf (tOrM (tNotM (tE (eCall m_is_any_integer (aCons (eN 1) aNil)))) (tE (eOp (f2 pLt) [.s 1, .v (eC (.int 0))]))) sFail sNext) (sSeq (sIf (tE (eOp (f2 pGt) [.s 1, .v (eFOp 1 0 "own_history" oLen)])) sFail sNext) (sSeq (sAsg (eLst aNil) (gN 2)) (sSeq (sFor (iR1 (eN 1)) fg1_Bench_undo fb1_Bench_undo) (sRet (eMv 2))))))
def m_Bench_undo : MF := mDef 1 (.int 1) (fn 2 5 [0, 1] b_Bench_undo)
def st1__law_other_index_holds : MS := (sPar 0 1 (aCons (eMake 1 m_Bench___init__ (aCons (eC (.int 2)) aNil)) (aCons (eMake 1 m_Bench___init__ (aCons (eC (.int 2)) aNil)) aNil)))
def st2__law_other_index_holds : MS := (sExpr (eMthL 1 "add" m_Bench_add 0 (aCons (eC (.int 1)) (aCons (eC (.int 1)) aNil))))
def st3__law_other_index_holds : MS := (sExpr (eMthL 1 "add" m_Bench_add 1 (aCons (eC (.int 1)) (aCons (eC (.int 1)) aNil))))
def st4__law_other_index_holds : MS := (sRet (eC (.bl false)))
def st5__law_other_index_holds : MS := (sIf (tOrM (tE (eOp (f2 pNe) [.v (eMthL 1 "drop" m_Bench_drop 0 (aCons (eC (.int 0)) aNil)), .v (eC (.int 1))])) (tOrM (tE (eOp (f2 pNe) [.v (eMthL 1 "drop" m_Bench_drop 1 (aCons (eC (.int 1)) aNil)), .v (eC (.int 1))])) (tNotM (tE (eRo (eEqI false 1 m_Bench___eq__ (.v (eFz (eN 0))) (.v (eFz (eN 1))))))))) st4__law_other_index_holds sNext)
def st6__law_other_index_holds : MS := (sRet (eC (.bl false)))
def st7__law_other_index_holds : MS := (sIf (tOrM (tE (eNeI 0 m_Network___eq__ (.v (eFz (eMthL 1 "undo" m_Bench_undo 0 (aCons (eC (.int 2)) aNil)))) (.v (eFz (eMthL 1 "undo" m_Bench_undo 1 (aCons (eC (.int 2)) aNil)))))) (tE (eRo (eEqI true 1 m_Bench___eq__ (.v (eFz (eN 0))) (.v (eFz (eN 1))))))) st6__law_other_index_holds sNext)
def st8__law_other_index_holds : MS := (sExpr (eMthL 1 "add" m_Bench_add 0 (aCons (eC (.int 1)) aNil)))
def st9__law_other_index_holds : MS := (sExpr (eMthL 1 "add" m_Bench_add 0 (aCons (eC (.int 1)) (aCons (eC (.int 1)) aNil))))
def st10__law_other_index_holds : MS := (sExpr (eMthL 1 "add" m_Bench_add 1 (aCons (eC (.int 1)) (aCons (eC (.int 1)) aNil))))
def st11__law_other_index_holds : MS := (sExpr (eMthL 1 "add" m_Bench_add 1 (aCons (eC (.int 1)) aNil)))
def st12__law_other_index_holds : MS := (sRet (eC (.bl false)))
def st13__law_other_index_holds : MS := (sIf (tOrM (tE (eEqI true 0 m_Network___eq__ (.v (eFz (eOp (oFld 1 "own_network") [.s 0]))) (.v (eFz (eOp (oFld 1 "own_network") [.s 1]))))) (tOrM (tE (eNeI 0 m_Network___eq__ (.v (eFz (ePropG 1 "changes" m_Bench_changes 0))) (.v (eFz (ePropG 1 "changes" m_Bench_changes 1))))) (tNotM (tE (eRo (eCall m__law_unlike (aCons (eN 0) (aCons (eN 1) aNil)))))))) st12__law_other_index_holds sNext)
def st14__law_other_index_holds : MS := (sExpr (eMthL 1 "undo" m_Bench_undo 0 aNil))
def st15__law_other_index_holds : MS := (sExpr (eMthL 1 "undo" m_Bench_undo 1 aNil))
def st16__law_other_index_holds : MS := (sRet (eC (.bl false)))
def st17__law_other_index_holds : MS := (sIf (tNotM (tE (eRo (eCall m__law_unlike (aCons (eN 0) (aCons (eN 1) aNil)))))) st16__law_other_index_holds sNext)
def st18__law_other_index_holds : MS := (sRet (eAnd (eEqD false 0 m_Network___eq__ 0 (.v (eFz (eMthL 1 "undo" m_Bench_undo 0 aNil))) (.v (eFz (eMthL 1 "undo" m_Bench_undo 1 aNil)))) (eRo (eEqI false 1 m_Bench___eq__ (.v (eFz (eN 0))) (.v (eFz (eN 1)))))))
def b__law_other_index_holds : MS := (sSeq st1__law_other_index_holds (sSeq st2__law_other_index_holds (sSeq st3__law_other_index_holds (sSeq st5__law_other_index_holds (sSeq st7__law_other_index_holds (sSeq st8__law_other_index_holds (sSeq st9__law_other_index_holds (sSeq st10__law_other_index_holds (sSeq st11__law_other_index_holds (sSeq st13__law_other_index_holds (sSeq st14__law_other_index_holds (sSeq st15__law_other_index_holds (sSeq st17__law_other_index_holds st18__law_other_index_holds)))))))))))))
def m__law_other_index_holds : MF := fn 0 2 [] b__law_other_index_holds
def st1_law : MS := (sAsg (eCall m__law_source (aCons (eN 0) (aCons (eN 1) aNil))) (gN 2))
def st2_law : MS := (sAsg (eOp oAdd [.v (eC (.int 2)), .v (eCallL m__law_draw aNil 2 (aCons (eC (.int 8)) aNil))]) (gN 3))
def st3_law : MS := (sPar 4 5 (aCons (eLst aNil) (aCons (eLst aNil) aNil)))
def st4_law : MS := (sAsg (eCallL m__law_change aNil 2 (aCons (eN 3) (aCons (eN 5) aNil))) (gN 7))
def st5_law : MS := (sPar 4 5 (aCons (eOp oAdd [.s 4, .v (eLst (aCons (eN 7) aNil))]) (aCons (eCall m__law_new_steps (aCons (eN 3) (aCons (eN 5) (aCons (eN 7) aNil)))) aNil)))
def fg6_law : MG := (gN 6)
def fb6_law : MS := (sSeq st4_law st5_law)
def st8_law : MS := (sPar 8 9 (aCons (eCall m__law_made (aCons (eN 3) (aCons (eN 4) aNil))) (aCons (eCall m__law_made (aCons (eN 3) (aCons (eN 4) aNil))) aNil)))
def st9_law : MS := (sAsg (eMthL 1 "copy" m_Bench_copy 8 aNil) (gN 10))
def st10_law : MS := (sRet (eC (.bl false)))
def st11_law : MS := (sIf (tOrM (tNotM (tE (eRo (eEqI false 1 m_Bench___eq__ (.v (eFz (eN 8))) (.v (eFz (eN 9))))))) (tOrM (tE (eRo (eEqI true 1 m_Bench___eq__ (.v (eFz (eN 8))) (.v (eFz (eN 10)))))) (tOrM (tE (eRo (eEqJ false 1 0 m_Bench___eq__ (.v (eFz (eN 8))) (.v (eFz (eOp (oFld 1 "own_network") [.s 8])))))) (tE (eRo (eEqX 1 m_Bench___eq__ (.v (eFz (eN 8))) (.v (eFz (eReprI 1 m_Bench___repr__ (.v (eFz (eN 8)))))))))))) st10_law sNext)
def st12_law : MS := (sAsg (eCallL m__law_state aNil 8 aNil) (gN 11))
def st13_law : MS := (sExpr (eMthL 1 "add" m_Bench_add 10 (aCons (eC (.int 1)) aNil)))
def st14_law : MS := (sRet (eC (.bl false)))
def st15_law : MS := (sIf (tOrM (tNotM (tE (eRo (eCall m__law_unlike (aCons (eN 8) (aCons (eN 10) aNil)))))) (tE (eNeI 0 m_Network___eq__ (.v (eFz (eCallL m__law_state aNil 8 aNil))) (.v (eFz (eN 11)))))) st14_law sNext)
def st16_law : MS := (sRet (eC (.bl false)))
def st17_law : MS := (sIf (tOrM (tE (eNeI 0 m_Network___eq__ (.v (eFz (eMthL 1 "undo" m_Bench_undo 10 aNil))) (.v (eFz (eLst (aCons (eC (.str "add")) aNil)))))) (tNotM (tE (eRo (eEqI false 1 m_Bench___eq__ (.v (eFz (eN 8))) (.v (eFz (eN 10)))))))) st16_law sNext)
def st18_law : MS := (sExpr (eMthL 1 "add" m_Bench_add 8 (aCons (eC (.int 1)) (aCons (eC (.int 1)) aNil))))
def st19_law : MS := (sExpr (eMthL 1 "add" m_Bench_add 9 (aCons (eC (.int 1)) aNil)))
def st20_law : MS := (sRet (eC (.bl false)))
def st21_law : MS := (sIf (tOrM (tE (eNeI 0 m_Network___eq__ (.v (eFz (eCallL m__law_state aNil 10 aNil))) (.v (eFz (eN 11))))) (tOrM (tNotM (tE (eRo (eCall m__law_unlike (aCons (eN 8) (aCons (eN 9) aNil)))))) (tNotM (tE (eRo (eCall m__law_unlike (aCons (eN 8) (aCons (eN 10) aNil)))))))) st20_law sNext)
def st22_law : MS := (sExpr (eMthL 1 "place" m_Bench_place 9 (aCons (eC (.int 0)) (aCons (eC (.int 1)) aNil))))
def st23_law : MS := (sExpr (eMthL 1 "undo" m_Bench_undo 8 aNil))
def st24_law : MS := (sExpr (eMthL 1 "place" m_Bench_place 8 (aCons (eC (.int 0)) (aCons (eC (.int 1)) aNil))))
def st25_law : MS := (sExpr (eMthL 1 "add" m_Bench_add 8 (aCons (eC (.int 1)) aNil)))
def st26_law : MS := (sRet (eC (.bl false)))
def st27_law : MS := (sIf (tAndM (tE (eEqI false 0 m_Network___eq__ (.v (eFz (eOp (oFld 1 "own_network") [.s 8]))) (.v (eFz (eOp (oFld 1 "own_network") [.s 9]))))) (tNotM (tE (eRo (eCall m__law_unlike (aCons (eN 8) (aCons (eN 9) aNil))))))) st26_law sNext)
def st28_law : MS := (sAsg (eCall m__law_made (aCons (eN 3) (aCons (eN 4) aNil))) (gN 12))
def st29_law : MS := (sExpr (eMthL 1 "add" m_Bench_add 12 aNil))
def st30_law : MS := (sRet (eC (.bl false)))
def st31_law : MS := (sIf (tOrM (tNotM (tE (eRo (eCall m__law_unlike (aCons (eN 12) (aCons (eN 10) aNil)))))) (tOrM (tE (eNeI 0 m_Network___eq__ (.v (eFz (eMthL 1 "undo" m_Bench_undo 12 aNil))) (.v (eFz (eLst (aCons (eC (.str "add")) aNil)))))) (tNotM (tE (eRo (eEqI false 1 m_Bench___eq__ (.v (eFz (eN 12))) (.v (eFz (eN 10))))))))) st30_law sNext)
def fg32_law : MG := (gN 1)
def fb32_law : MS := (sSeq st1_law (sSeq st2_law (sSeq st3_law (sSeq (sFor (iR1 (eCallL m__law_draw aNil 2 (aCons (eC (.int 8)) aNil))) fg6_law fb6_law) (sSeq st8_law (sSeq st9_law (sSeq st11_law (sSeq st12_law (sSeq st13_law (sSeq st15_law (sSeq st17_law (sSeq st18_law (sSeq st19_law (sSeq st21_law (sSeq st22_law (sSeq st23_law (sSeq st24_law (sSeq st25_law (sSeq st27_law (sSeq st28_law (sSeq st29_law st31_law)))))))))))))))))))))
def st34_law : MS := (sRet (eC (.bl false)))
def st35_law : MS := (sIf (tNotM (tE (eCall m__law_other_index_holds aNil))) st34_law sNext)
def st36_law : MS := (sRet (eAnd (eEqI false 1 m_Bench___eq__ (.v (eFz (eMake 1 m_Bench___init__ (aCons (eC (.int 3)) aNil)))) (.v (eFz (eMake 1 m_Bench___init__ (aCons (eC (.int 3)) aNil))))) (eAnd (eCall m__law_unlike (aCons (eMake 1 m_Bench___init__ (aCons (eC (.int 3)) aNil)) (aCons (eMake 1 m_Bench___init__ (aCons (eC (.int 4)) aNil)) aNil))) (eEqJ true 1 0 m_Bench___eq__ (.v (eFz (eMake 1 m_Bench___init__ (aCons (eC (.int 3)) aNil)))) (.v (eFz (eMake 0 m_Network___init__ (aCons (eC (.int 3)) (aCons (eLst aNil) aNil)))))))))
def b_law : MS := (sSeq (sFor (iR1 (eOp oMax2 [.v (eC (.int 1)), .v (eOp oMin2 [.v (eOp oLen [.s 0]), .v (eC (.int 6))])])) fg32_law fb32_law) (sSeq st35_law st36_law))
def m_law : MF := fn 1 13 [0] b_law
end Lw70

set_option maxHeartbeats 0
namespace Lw70
open PySem PySem.Spec PyProof.Rows L2 DL
theorem bt_abs : bootBuiltins "abs" = some (.builtin "abs") := by decide +kernel
theorem bt_bool : bootBuiltins "bool" = some (.type "bool") := by decide +kernel
theorem bt_int : bootBuiltins "int" = some (.type "int") := by decide +kernel
theorem bt_isinstance : bootBuiltins "isinstance" = some (.builtin "isinstance") := by decide +kernel
theorem bt_len : bootBuiltins "len" = some (.builtin "len") := by decide +kernel
theorem bt_list : bootBuiltins "list" = some (.type "list") := by decide +kernel
theorem bt_max : bootBuiltins "max" = some (.builtin "max") := by decide +kernel
theorem bt_min : bootBuiltins "min" = some (.builtin "min") := by decide +kernel
theorem bt_repr : bootBuiltins "repr" = some (.builtin "repr") := by decide +kernel
theorem bt_sum : bootBuiltins "sum" = some (.builtin "sum") := by decide +kernel
theorem bt_tuple : bootBuiltins "tuple" = some (.type "tuple") := by decide +kernel
/-! ### what the written part says -/
structure Tx (K : PySem.W.Frag) (mg : Str → Option Value) where
  f__law_source : Addr
  d__law_source : FuncData
  F__law_source : Fun K "_law_source" "_law_source" s__law_source f__law_source d__law_source
  B__law_source : Binds K d__law_source ["_law_script", "_law_k"] []
  g__law_source : mg "_law_source" = some (.ref f__law_source)
  f__law_draw : Addr
  d__law_draw : FuncData
  F__law_draw : Fun K "_law_draw" "_law_draw" s__law_draw f__law_draw d__law_draw
  B__law_draw : Binds K d__law_draw ["_law_source_here", "_law_many"] []
  g__law_draw : mg "_law_draw" = some (.ref f__law_draw)
  f__law_steps : Addr
  d__law_steps : FuncData
  F__law_steps : Fun K "_law_steps" "_law_steps" s__law_steps f__law_steps d__law_steps
  B__law_steps : Binds K d__law_steps ["_law_source_here", "_law_width", "_law_many"] []
  g__law_steps : mg "_law_steps" = some (.ref f__law_steps)
  f__law_change : Addr
  d__law_change : FuncData
  F__law_change : Fun K "_law_change" "_law_change" s__law_change f__law_change d__law_change
  B__law_change : Binds K d__law_change ["_law_source_here", "_law_width", "_law_steps_here"] []
  g__law_change : mg "_law_change" = some (.ref f__law_change)
  f__law_new_steps : Addr
  d__law_new_steps : FuncData
  F__law_new_steps : Fun K "_law_new_steps" "_law_new_steps" s__law_new_steps f__law_new_steps d__law_new_steps
  B__law_new_steps : Binds K d__law_new_steps ["_law_width", "_law_steps_here", "_law_change_here"] []
  g__law_new_steps : mg "_law_new_steps" = some (.ref f__law_new_steps)
  f_is_integer : Addr
  d_is_integer : FuncData
  F_is_integer : Fun K "is_integer" "is_integer" s_is_integer f_is_integer d_is_integer
  B_is_integer : Binds K d_is_integer ["value", "low", "high"] []
  g_is_integer : mg "is_integer" = some (.ref f_is_integer)
  f_check_width : Addr
  d_check_width : FuncData
  F_check_width : Fun K "check_width" "check_width" s_check_width f_check_width d_check_width
  B_check_width : Binds K d_check_width ["width"] []
  g_check_width : mg "check_width" = some (.ref f_check_width)
  f_check_steps : Addr
  d_check_steps : FuncData
  F_check_steps : Fun K "check_steps" "check_steps" s_check_steps f_check_steps d_check_steps
  B_check_steps : Binds K d_check_steps ["width", "steps"] []
  g_check_steps : mg "check_steps" = some (.ref f_check_steps)
  f_Network___init__ : Addr
  d_Network___init__ : FuncData
  F_Network___init__ : Fun K "__init__" "Network.__init__" s_Network___init__ f_Network___init__ d_Network___init__
  B_Network___init__ : Binds K d_Network___init__ ["self", "width", "steps"] []
  f_Network_empty : Addr
  d_Network_empty : FuncData
  F_Network_empty : Fun K "empty" "Network.empty" s_Network_empty f_Network_empty d_Network_empty
  B_Network_empty : Binds K d_Network_empty ["cls", "width"] []
  f_Bench___init__ : Addr
  d_Bench___init__ : FuncData
  F_Bench___init__ : Fun K "__init__" "Bench.__init__" s_Bench___init__ f_Bench___init__ d_Bench___init__
  B_Bench___init__ : Binds K d_Bench___init__ ["self", "width"] []
  f_Bench_keep : Addr
  d_Bench_keep : FuncData
  F_Bench_keep : Fun K "keep" "Bench.keep" s_Bench_keep f_Bench_keep d_Bench_keep
  B_Bench_keep : Binds K d_Bench_keep ["self", "word", "steps"] []
  f_Bench_drop : Addr
  d_Bench_drop : FuncData
  F_Bench_drop : Fun K "drop" "Bench.drop" s_Bench_drop f_Bench_drop d_Bench_drop
  B_Bench_drop : Binds K d_Bench_drop ["self", "index"] []
  f_Bench_check_step : Addr
  d_Bench_check_step : FuncData
  F_Bench_check_step : Fun K "check_step" "Bench.check_step" s_Bench_check_step f_Bench_check_step d_Bench_check_step
  B_Bench_check_step : Binds K d_Bench_check_step ["self", "step", "index"] []
  f_check_count : Addr
  d_check_count : FuncData
  F_check_count : Fun K "check_count" "check_count" s_check_count f_check_count d_check_count
  B_check_count : Binds K d_check_count ["count"] []
  g_check_count : mg "check_count" = some (.ref f_check_count)
  f_Bench_place : Addr
  d_Bench_place : FuncData
  F_Bench_place : Fun K "place" "Bench.place" s_Bench_place f_Bench_place d_Bench_place
  B_Bench_place : Binds K d_Bench_place ["self", "index", "step"] []
  f_Network___len__ : Addr
  d_Network___len__ : FuncData
  F_Network___len__ : Fun K "__len__" "Network.__len__" s_Network___len__ f_Network___len__ d_Network___len__
  B_Network___len__ : Binds K d_Network___len__ ["self"] []
  f_Bench_add_all : Addr
  d_Bench_add_all : FuncData
  F_Bench_add_all : Fun K "add_all" "Bench.add_all" s_Bench_add_all f_Bench_add_all d_Bench_add_all
  B_Bench_add_all : Binds K d_Bench_add_all ["self", "steps"] []
  f_Bench_add : Addr
  d_Bench_add : FuncData
  F_Bench_add : Fun K "add" "Bench.add" s_Bench_add f_Bench_add d_Bench_add
  S_Bench_add : StarB d_Bench_add ["self"] "steps"
  f__law_perform : Addr
  d__law_perform : FuncData
  F__law_perform : Fun K "_law_perform" "_law_perform" s__law_perform f__law_perform d__law_perform
  B__law_perform : Binds K d__law_perform ["_law_bench", "_law_change_here"] []
  g__law_perform : mg "_law_perform" = some (.ref f__law_perform)
  f__law_made : Addr
  d__law_made : FuncData
  F__law_made : Fun K "_law_made" "_law_made" s__law_made f__law_made d__law_made
  B__law_made : Binds K d__law_made ["_law_width", "_law_changes"] []
  g__law_made : mg "_law_made" = some (.ref f__law_made)
  f_Bench_copy : Addr
  d_Bench_copy : FuncData
  F_Bench_copy : Fun K "copy" "Bench.copy" s_Bench_copy f_Bench_copy d_Bench_copy
  B_Bench_copy : Binds K d_Bench_copy ["self"] []
  f_Network___eq__ : Addr
  d_Network___eq__ : FuncData
  F_Network___eq__ : Fun K "__eq__" "Network.__eq__" s_Network___eq__ f_Network___eq__ d_Network___eq__
  B_Network___eq__ : Binds K d_Network___eq__ ["self", "other"] []
  f_Bench___eq__ : Addr
  d_Bench___eq__ : FuncData
  F_Bench___eq__ : Fun K "__eq__" "Bench.__eq__" s_Bench___eq__ f_Bench___eq__ d_Bench___eq__
  B_Bench___eq__ : Binds K d_Bench___eq__ ["self", "other"] []
  f_Bench___repr__ : Addr
  d_Bench___repr__ : FuncData
  F_Bench___repr__ : Fun K "__repr__" "Bench.__repr__" s_Bench___repr__ f_Bench___repr__ d_Bench___repr__
  B_Bench___repr__ : Binds K d_Bench___repr__ ["self"] []
  f_Bench___len__ : Addr
  d_Bench___len__ : FuncData
  F_Bench___len__ : Fun K "__len__" "Bench.__len__" s_Bench___len__ f_Bench___len__ d_Bench___len__
  B_Bench___len__ : Binds K d_Bench___len__ ["self"] []
  f_Bench_changes : Addr
  d_Bench_changes : FuncData
  F_Bench_changes : Fun K "changes" "Bench.changes" s_Bench_changes f_Bench_changes d_Bench_changes
  B_Bench_changes : Binds K d_Bench_changes ["self"] []
  f__law_state : Addr
  d__law_state : FuncData
  F__law_state : Fun K "_law_state" "_law_state" s__law_state f__law_state d__law_state
  B__law_state : Binds K d__law_state ["_law_bench"] []
  g__law_state : mg "_law_state" = some (.ref f__law_state)
  f__law_unlike : Addr
  d__law_unlike : FuncData
  F__law_unlike : Fun K "_law_unlike" "_law_unlike" s__law_unlike f__law_unlike d__law_unlike
  B__law_unlike : Binds K d__law_unlike ["_law_one", "_law_two"] []
  g__law_unlike : mg "_law_unlike" = some (.ref f__law_unlike)
  f_is_any_integer : Addr
  d_is_any_integer : FuncData
  F_is_any_integer : Fun K "is_any_integer" "is_any_integer" s_is_any_integer f_is_any_integer d_is_any_integer
  B_is_any_integer : Binds K d_is_any_integer ["value"] []
  g_is_any_integer : mg "is_any_integer" = some (.ref f_is_any_integer)
  f_Bench_undo : Addr
  d_Bench_undo : FuncData
  F_Bench_undo : FunD K "undo" "Bench.undo" (defArgs s_Bench_undo) (defBody s_Bench_undo) (defScope s_Bench_undo) [.int 1] [] f_Bench_undo d_Bench_undo
  D_Bench_undo : DefB K d_Bench_undo ["self", "times"] (.int 1)
  f__law_other_index_holds : Addr
  d__law_other_index_holds : FuncData
  F__law_other_index_holds : Fun K "_law_other_index_holds" "_law_other_index_holds" s__law_other_index_holds f__law_other_index_holds d__law_other_index_holds
  B__law_other_index_holds : Binds K d__law_other_index_holds [] []
  g__law_other_index_holds : mg "_law_other_index_holds" = some (.ref f__law_other_index_holds)
  f_law : Addr
  d_law : FuncData
  F_law : Fun K "law" "law" s_law f_law d_law
  B_law : Binds K d_law ["_law_script"] []
  g_law : mg "law" = some (.ref f_law)
  c_Network : Addr
  c_Bench : Addr
  g_Network : mg "Network" = some (.ref c_Network)
  cl_Network : Cls K c_Network
  mk_Network : Mk K c_Network f_Network___init__
  oe_Network : OwnEqC K c_Network f_Network___eq__
  nfi_Network : ∀ d n, tyName d = some n → PySem.W.notFirst K c_Network (.type n) = true
  ol_Network : OwnSpC K c_Network f_Network___len__ "__len__"
  g_Bench : mg "Bench" = some (.ref c_Bench)
  cl_Bench : Cls K c_Bench
  mk_Bench : Mk K c_Bench f_Bench___init__
  oe_Bench : OwnEqC K c_Bench f_Bench___eq__
  nfi_Bench : ∀ d n, tyName d = some n → PySem.W.notFirst K c_Bench (.type n) = true
  ol_Bench : OwnSpC K c_Bench f_Bench___len__ "__len__"
  me_Bench___repr__ : Meth K c_Bench "__repr__" f_Bench___repr__
  me_Bench_add : Meth K c_Bench "add" f_Bench_add
  me_Bench_add_all : Meth K c_Bench "add_all" f_Bench_add_all
  me_Bench_check_step : Meth K c_Bench "check_step" f_Bench_check_step
  me_Bench_copy : Meth K c_Bench "copy" f_Bench_copy
  me_Bench_drop : Meth K c_Bench "drop" f_Bench_drop
  me_Bench_keep : Meth K c_Bench "keep" f_Bench_keep
  me_Bench_place : Meth K c_Bench "place" f_Bench_place
  me_Bench_undo : Meth K c_Bench "undo" f_Bench_undo
  p_Bench_changes : Addr
  pr_Bench_changes : PropOf K c_Bench "changes" p_Bench_changes f_Bench_changes
  p_Bench_network : Addr
  f_Bench_network : Addr
  d_Bench_network : FuncData
  F_Bench_network : Fun K "network" "Bench.network" s_Bench_network f_Bench_network d_Bench_network
  B_Bench_network : Binds K d_Bench_network ["self"] []
  pr_Bench_network : PropOf K c_Bench "network" p_Bench_network f_Bench_network
  p_Network_steps : Addr
  f_Network_steps : Addr
  d_Network_steps : FuncData
  F_Network_steps : Fun K "steps" "Network.steps" s_Network_steps f_Network_steps d_Network_steps
  B_Network_steps : Binds K d_Network_steps ["self"] []
  pr_Network_steps : PropOf K c_Network "steps" p_Network_steps f_Network_steps
  p_Network_width : Addr
  f_Network_width : Addr
  d_Network_width : FuncData
  F_Network_width : Fun K "width" "Network.width" s_Network_width f_Network_width d_Network_width
  B_Network_width : Binds K d_Network_width ["self"] []
  pr_Network_width : PropOf K c_Network "width" p_Network_width f_Network_width
  na_Bench_own_history : NoAttr K c_Bench "own_history"
  na_Bench_own_network : NoAttr K c_Bench "own_network"
  na_Network_own_steps : NoAttr K c_Network "own_steps"
  na_Network_own_width : NoAttr K c_Network "own_width"
  mc_Network : Value
  rd_Network : ClX.CRead K c_Network mc_Network
  p_Network_empty : Addr
  cm_Network_empty : ClX.CMet K c_Network mc_Network "empty" p_Network_empty f_Network_empty
  v_Network_MAX_STEPS : Value
  cv_Network_MAX_STEPS : ClX.CVal K c_Network mc_Network "MAX_STEPS" (.int 1000) v_Network_MAX_STEPS
  v_Network_MAX_WIDTH : Value
  cv_Network_MAX_WIDTH : ClX.CVal K c_Network mc_Network "MAX_WIDTH" (.int 40) v_Network_MAX_WIDTH
  it_Bench : InsTy K c_Bench ∧ PySem.W.kitOne K (.ref c_Bench) (.ref c_Bench) = some true
  ib0_Bench : ∀ d n, tyName d = some n → PySem.W.kitOne K (.type n) (.ref c_Bench) = some false
  kx_Network_Bench : PySem.W.kitOne K (.ref c_Network) (.ref c_Bench) = some false
  it_Network : InsTy K c_Network ∧ PySem.W.kitOne K (.ref c_Network) (.ref c_Network) = some true
  ib0_Network : ∀ d n, tyName d = some n → PySem.W.kitOne K (.type n) (.ref c_Network) = some false
  sb_Network_Bench : PySem.W.subIn K (.ref c_Network) (.ref c_Bench) = some false
  u_ADD : Value
  gc_ADD : mg "ADD" = some u_ADD
  rc_ADD : RelV (.str "add") u_ADD
  u_DROP : Value
  gc_DROP : mg "DROP" = some u_DROP
  rc_DROP : RelV (.str "drop") u_DROP
  u_PLACE : Value
  gc_PLACE : mg "PLACE" = some u_PLACE
  rc_PLACE : RelV (.str "place") u_PLACE
  z_abs : mg "abs" = none
  z_bool : mg "bool" = none
  z_enumerate : mg "enumerate" = none
  z_int : mg "int" = none
  z_isinstance : mg "isinstance" = none
  z_len : mg "len" = none
  z_list : mg "list" = none
  z_max : mg "max" = none
  z_min : mg "min" = none
  z_range : mg "range" = none
  z_repr : mg "repr" = none
  z_sum : mg "sum" = none
  z_tuple : mg "tuple" = none
section
variable {w : World} {P : Program} {base : Heap} {mg : Str → Option Value} {K : PySem.W.Frag}
def Tx.ca (T : Tx K mg) : Nat → Addr
  | 0 => T.c_Network | 1 => T.c_Bench
  | _ => 0
theorem Tx.ii_Bench (T : Tx K mg) : ∀ C' b, isi_Bench C' = some b → InsTy K (T.ca C') ∧ PySem.W.kitOne K (.ref (T.ca C')) (.ref (T.ca 1)) = some b := fun C' b h => by
  unfold isi_Bench at h
  split at h
  · rename_i e
    cases h
    subst e
    exact T.it_Bench
  split at h
  · rename_i e
    cases h
    subst e
    exact ⟨T.it_Network.1, T.kx_Network_Bench⟩
  cases h
theorem Tx.ib_Bench (T : Tx K mg) : ∀ d n, tyName d = some n → PySem.W.kitOne K (.type n) (.ref (T.ca 1)) = some false := T.ib0_Bench
theorem Tx.ii_Network (T : Tx K mg) : ∀ C' b, isi_Network C' = some b → InsTy K (T.ca C') ∧ PySem.W.kitOne K (.ref (T.ca C')) (.ref (T.ca 0)) = some b := fun C' b h => by
  unfold isi_Network at h
  split at h
  · rename_i e
    cases h
    subst e
    exact T.it_Network
  cases h
theorem Tx.ib_Network (T : Tx K mg) : ∀ d n, tyName d = some n → PySem.W.kitOne K (.type n) (.ref (T.ca 0)) = some false := T.ib0_Network
theorem ok_Bench_network (T : Tx K mg) : FnOk P w K mg base (L2.CX P w) 1 T.f_Bench_network T.d_Bench_network ["self"] (getSp (T.ca 1) "own_network") := getter_ok T.F_Bench_network sc_Bench_network rfl rfl T.cl_Bench T.na_Bench_own_network
theorem ok_Network_steps (T : Tx K mg) : FnOk P w K mg base (L2.CX P w) 1 T.f_Network_steps T.d_Network_steps ["self"] (getSp (T.ca 0) "own_steps") := getter_ok T.F_Network_steps sc_Network_steps rfl rfl T.cl_Network T.na_Network_own_steps
theorem ok_Network_width (T : Tx K mg) : FnOk P w K mg base (L2.CX P w) 1 T.f_Network_width T.d_Network_width ["self"] (getSp (T.ca 0) "own_width") := getter_ok T.F_Network_width sc_Network_width rfl rfl T.cl_Network T.na_Network_own_width
theorem ok__law_source (T : Tx K mg) : FnG P w K mg base (L2.CX P w) 1 T.f__law_source (spM T.ca K m__law_source) := fn_okG (N := ["_law_script", "_law_k", "_law_cell", "_law_size", "_law_mixed"]) (n := 2) (L := [0, 1]) (mb := b__law_source) T.F__law_source T.B__law_source sc__law_source rfl fun cdv A outer s H E hr =>
  show CSs _ _ _ _ b__law_source from (css_cons (cs_set 2 sc__law_source.nd (ce_bin op_addA os_add (co_v (ce_bin op_mulA os_mul (co_v ce_int) (co_v (ce_callB (cr_sum rfl) (by rfl) T.z_sum bt_sum os_sum (.cons (co_v (ce_s01 (es 0) (co_v ce_int))) .nil) (hst := ⟨fun _ => rfl, trivial⟩))))) (es 1)))
    (css_cons (cs_if (ct_cmp (ce_cmp op_lt os_lt (es 1) (co_v (ce_callB call_len_seq (by rfl) T.z_len bt_len os_len (.cons (es 0) .nil) (hst := ⟨fun _ => rfl, trivial⟩))) (nomark _))) (css_one (cs_set 2 sc__law_source.nd (ce_ix ix_A os_ix (es 0) (es 1) (fun _ _ => rfl)))) css_nil)
    (css_cons (cs_set 3 sc__law_source.nd (ce_callB call_abs (by rfl) T.z_abs bt_abs os_abs (.cons (es 2) .nil) (hst := ⟨fun _ => rfl, trivial⟩)))
    (css_cons (cs_set 4 sc__law_source.nd (ce_bin op_mod os_mod (co_v (ce_bin op_mulA os_mul (co_v (ce_bin op_addA os_add (co_v (ce_bin op_addA os_add (co_v (ce_bin op_addA os_add (co_v (ce_bin op_mod os_mod (es 3) (co_v ce_int))) (co_v (ce_bin op_mulA os_mul (co_v (ce_bin op_mulA os_mul (co_v ce_int) (es 1))) (es 1))))) (co_v (ce_bin op_mulA os_mul (co_v ce_int) (es 1))))) (co_v ce_int))) (co_v ce_int))) (co_v ce_int)))
    (css_one (cs_ret (ce_lst (cl_cons (ce_bin op_mulA os_mul (es 3) (co_v (ce_callTy call_int1 (by rfl) T.z_int bt_int os_int (.cons (co_v (ce_cmp op_ge os_ge (es 3) (co_v (ce_bin op_pow os_pow (co_v ce_int) (co_v ce_int))) (nomark _))) .nil) (hst := ⟨fun _ => rfl, trivial⟩)))) (cl_cons (ce_bin op_mod os_mod (co_v (ce_bin op_mulA os_mul (es 4) (es 4))) (co_v ce_int)) cl_nil)) ⟨fun _ => rfl, ⟨fun _ => rfl, trivial⟩⟩)))))))
theorem ok__law_draw (T : Tx K mg) : FnG P w K mg base (L2.CX P w) 1 T.f__law_draw (spM T.ca K m__law_draw) := fn_okG (N := ["_law_source_here", "_law_many", "_law_result"]) (n := 2) (L := [0, 1]) (mb := b__law_draw) T.F__law_draw T.B__law_draw sc__law_draw rfl fun cdv A outer s H E hr =>
  show CSs _ _ _ _ b__law_draw from (css_cons (cs_if (ct_cmp (ce_cmp op_gt os_gt (co_v (ce_ix ix_A os_ix (es 0) (co_v ce_int) (fun _ _ => rfl))) (co_v ce_int) (nomark _))) (css_cons (cs_set 2 sc__law_draw.nd (ce_bin op_mod os_mod (co_v (ce_ix ix_A os_ix (es 0) (co_v ce_int) (fun _ _ => rfl))) (es 1)))
    (css_cons (cs_asgT (ce_bin op_fdivW os_div (co_v (ce_ix ix_A os_ix (es 0) (co_v ce_int) (fun _ _ => rfl))) (es 1)) (cg_ix (pv 0) ce_int (fun _ => rfl)))
    (css_one (cs_ret (emv 2))))) css_nil)
    (css_cons (cs_asgT (ce_bin op_mod os_mod (co_v (ce_bin op_addA os_add (co_v (ce_bin op_mulA os_mul (co_v (ce_ix ix_A os_ix (es 0) (co_v ce_int) (fun _ _ => rfl))) (co_v ce_int))) (co_v ce_int))) (co_v ce_int)) (cg_ix (pv 0) ce_int (fun _ => rfl)))
    (css_one (cs_ret (ce_bin op_mod os_mod (co_v (ce_bin op_fdivW os_div (co_v (ce_bin op_mod os_mod (co_v (ce_bin op_mulA os_mul (co_v (ce_ix ix_A os_ix (es 0) (co_v ce_int) (fun _ _ => rfl))) (co_v (ce_ix ix_A os_ix (es 0) (co_v ce_int) (fun _ _ => rfl))))) (co_v ce_int))) (co_v ce_int))) (es 1))))))
theorem ok__law_steps (T : Tx K mg) : FnG P w K mg base (L2.CX P w) 2 T.f__law_steps (spM T.ca K m__law_steps) := fn_okG (N := ["_law_source_here", "_law_width", "_law_many", "_law_k"]) (n := 3) (L := [0, 1, 2]) (mb := b__law_steps) T.F__law_steps T.B__law_steps sc__law_steps rfl fun cdv A outer s H E hr =>
  show CSs _ _ _ _ b__law_steps from (css_one (cs_ret (ce_lc (own := [("_law_k", 3)]) rfl sc__law_steps.nd (ci_range1 (by rfl) T.z_range (ce_bin op_mulA os_mul (es 2) (co_v (ce_callTy call_int1 (by rfl) T.z_int bt_int os_int (.cons (co_v (ce_cmp op_gt os_gt (es 1) (co_v ce_int) (nomark _))) .nil) (hst := ⟨fun _ => rfl, trivial⟩))))) (blk_of rfl (by kernel_rfl)) (fun _ _ _ _ _ _ => (gb 3 sc__law_steps.nd)) (fun _ _ _ _ _ => (ce_bin op_addA os_add (co_v ce_int) (co_v (ce_callLG _ _ _ (ok__law_draw T) (hr.mono (by decide)) (by rfl) T.g__law_draw T.F__law_draw.kp cl_nil (pv 0) (cl_cons (ce_bin op_sub os_sub (es 1) (co_v ce_int)) cl_nil) rfl ⟨fun _ => rfl, ⟨fun _ => rfl, trivial⟩⟩)))))))
theorem ok__law_change (T : Tx K mg) : FnG P w K mg base (L2.CX P w) 3 T.f__law_change (spM T.ca K m__law_change) := fn_okG (N := ["_law_source_here", "_law_width", "_law_steps_here", "_law_way"]) (n := 3) (L := [0, 1, 2]) (mb := b__law_change) T.F__law_change T.B__law_change sc__law_change rfl fun cdv A outer s H E hr =>
  show CSs _ _ _ _ b__law_change from (css_cons (cs_set 3 sc__law_change.nd (ce_callLG _ _ _ (ok__law_draw T) (hr.mono (by decide)) (by rfl) T.g__law_draw T.F__law_draw.kp cl_nil (pv 0) (cl_cons ce_int cl_nil) rfl ⟨fun _ => rfl, ⟨fun _ => rfl, trivial⟩⟩))
    (css_cons (cs_if (ct_w (cw_and (ct_cmp (ce_cmp (op_eqD hr.2.units) os_eq (es 3) (co_v ce_int) (nomark _))) (cw_and1 (ct_cmp (ce_cmp (op_neD hr.2.units) os_ne (es 2) (co_v (ce_lst cl_nil trivial)) (nomark _)))))) (css_one (cs_ret (ce_tup (cl_cons ce_str (cl_cons (ce_callLG _ _ _ (ok__law_draw T) (hr.mono (by decide)) (by rfl) T.g__law_draw T.F__law_draw.kp cl_nil (pv 0) (cl_cons (ce_callB call_len_seq (by rfl) T.z_len bt_len os_len (.cons (es 2) .nil) (hst := ⟨fun _ => rfl, trivial⟩)) cl_nil) rfl ⟨fun _ => rfl, ⟨fun _ => rfl, trivial⟩⟩) cl_nil)) ⟨fun _ => rfl, ⟨fun _ => rfl, trivial⟩⟩))) css_nil)
    (css_cons (cs_if (ct_w (cw_and (ct_cmp (ce_cmp (op_eqD hr.2.units) os_eq (es 3) (co_v ce_int) (nomark _))) (cw_and1 (ct_cmp (ce_cmp op_gt os_gt (es 1) (co_v ce_int) (nomark _)))))) (css_one (cs_ret (ce_tup (cl_cons ce_str (cl_cons (ce_callLG _ _ _ (ok__law_draw T) (hr.mono (by decide)) (by rfl) T.g__law_draw T.F__law_draw.kp cl_nil (pv 0) (cl_cons (ce_bin op_addA os_add (co_v (ce_callB call_len_seq (by rfl) T.z_len bt_len os_len (.cons (es 2) .nil) (hst := ⟨fun _ => rfl, trivial⟩))) (co_v ce_int)) cl_nil) rfl ⟨fun _ => rfl, ⟨fun _ => rfl, trivial⟩⟩) (cl_cons (ce_bin op_addA os_add (co_v ce_int) (co_v (ce_callLG _ _ _ (ok__law_draw T) (hr.mono (by decide)) (by rfl) T.g__law_draw T.F__law_draw.kp cl_nil (pv 0) (cl_cons (ce_bin op_sub os_sub (es 1) (co_v ce_int)) cl_nil) rfl ⟨fun _ => rfl, ⟨fun _ => rfl, trivial⟩⟩))) cl_nil))) ⟨fun _ => rfl, ⟨fun _ => rfl, ⟨fun _ => rfl, trivial⟩⟩⟩))) css_nil)
    (css_one (cs_ret (ce_tup (cl_cons ce_str (cl_cons (ce_callLG _ _ _ (ok__law_steps T) (hr.mono (by decide)) (by rfl) T.g__law_steps T.F__law_steps.kp cl_nil (pv 0) (cl_cons (en 1) (cl_cons (ce_callLG _ _ _ (ok__law_draw T) (hr.mono (by decide)) (by rfl) T.g__law_draw T.F__law_draw.kp cl_nil (pv 0) (cl_cons ce_int cl_nil) rfl ⟨fun _ => rfl, ⟨fun _ => rfl, trivial⟩⟩) cl_nil)) rfl ⟨fun _ => rfl, ⟨fun _ => rfl, ⟨fun _ => rfl, trivial⟩⟩⟩) cl_nil)) ⟨fun _ => rfl, ⟨fun _ => rfl, trivial⟩⟩))))))
theorem ok__law_new_steps (T : Tx K mg) : FnG P w K mg base (L2.CX P w) 1 T.f__law_new_steps (spM T.ca K m__law_new_steps) := fn_okG (N := ["_law_width", "_law_steps_here", "_law_change_here", "_law_word"]) (n := 3) (L := [0, 1, 2]) (mb := b__law_new_steps) T.F__law_new_steps T.B__law_new_steps sc__law_new_steps rfl fun cdv A outer s H E hr =>
  show CSs _ _ _ _ b__law_new_steps from (css_cons (cs_set 3 sc__law_new_steps.nd (ce_ix ix_A os_ix (es 2) (co_v ce_int) (fun _ _ => rfl)))
    (css_cons (cs_if (ct_cmp (ce_cmp (op_eqD hr.2.units) os_eq (es 3) (co_v ce_str) (nomark _))) (css_one (cs_ret (ce_bin op_addA os_add (es 1) (co_v (ce_callTy call_list_of (by rfl) T.z_list bt_list os_list (.cons (co_v (ce_ix ix_A os_ix (es 2) (co_v ce_int) (fun _ _ => rfl))) .nil) (hst := ⟨fun _ => rfl, trivial⟩)))))) css_nil)
    (css_cons (cs_if (ct_cmp (ce_cmp (op_eqD hr.2.units) os_eq (es 3) (co_v ce_str) (nomark _))) (css_one (cs_ret (ce_bin op_addA os_add (co_v (ce_bin op_addA os_add (co_v (ce_s01 (es 1) (co_v (ce_ix ix_A os_ix (es 2) (co_v ce_int) (fun _ _ => rfl))))) (co_v (ce_lst (cl_cons (ce_ix ix_A os_ix (es 2) (co_v ce_int) (fun _ _ => rfl)) cl_nil) ⟨fun _ => rfl, trivial⟩)))) (co_v (ce_s10 (es 1) (co_v (ce_ix ix_A os_ix (es 2) (co_v ce_int) (fun _ _ => rfl)))))))) css_nil)
    (css_one (cs_ret (ce_bin op_addA os_add (co_v (ce_s01 (es 1) (co_v (ce_ix ix_A os_ix (es 2) (co_v ce_int) (fun _ _ => rfl))))) (co_v (ce_s10 (es 1) (co_v (ce_bin op_addA os_add (co_v (ce_ix ix_A os_ix (es 2) (co_v ce_int) (fun _ _ => rfl))) (co_v ce_int)))))))))))
theorem ok_is_integer (T : Tx K mg) : FnG P w K mg base (L2.CX P w) 1 T.f_is_integer (spM T.ca K m_is_integer) := fn_okG (N := ["value", "low", "high"]) (n := 3) (L := [0, 1, 2]) (mb := b_is_integer) T.F_is_integer T.B_is_integer sc_is_integer rfl fun cdv A outer s H E hr =>
  show CSs _ _ _ _ b_is_integer from (css_one (cs_ret (ce_and' (ce_callB call_isi (by rfl) T.z_isinstance bt_isinstance (os_isiB (T := "int")) (.cons (es 0) (.cons (co_v (ce_ty (by rfl) T.z_int bt_int)) .nil)) (hst := ⟨fun _ => rfl, ⟨fun _ => rfl, trivial⟩⟩)) (ce_and (ce_not (ce_callB call_isi (by rfl) T.z_isinstance bt_isinstance (os_isiB (T := "bool")) (.cons (es 0) (.cons (co_v (ce_ty (by rfl) T.z_bool bt_bool)) .nil)) (hst := ⟨fun _ => rfl, ⟨fun _ => rfl, trivial⟩⟩))) (ce_chain op_le op_le os_le os_le (en 1) (en 0) (en 2))))))
theorem ok_check_width (T : Tx K mg) : FnG P w K mg base (L2.CX P w) 2 T.f_check_width (spM T.ca K m_check_width) := fn_okG (N := ["width"]) (n := 1) (L := [0]) (mb := b_check_width) T.F_check_width T.B_check_width sc_check_width rfl fun cdv A outer s H E hr =>
  show CSs _ _ _ _ b_check_width from (css_one (cs_if (ct_not (ct_val (ce_callR (ok_is_integer T) (hr.mono (by decide)) (by rfl) T.g_is_integer T.F_is_integer.kp (cl_cons (en 0) (cl_cons ce_int (cl_cons (ce_cval (by rfl) T.g_Network T.rd_Network T.cv_Network_MAX_WIDTH fun _ _ => .int) cl_nil))) ⟨fun _ => rfl, ⟨fun _ => rfl, ⟨fun _ => rfl, trivial⟩⟩⟩))) css_fail css_nil))
theorem ok_check_steps (T : Tx K mg) : FnG P w K mg base (L2.CX P w) 2 T.f_check_steps (spM T.ca K m_check_steps) := fn_okG (N := ["width", "steps", "index", "step"]) (n := 2) (L := [0, 1]) (mb := b_check_steps) T.F_check_steps T.B_check_steps sc_check_steps rfl fun cdv A outer s H E hr =>
  show CSs _ _ _ _ b_check_steps from (css_cons (cs_if (ct_w (cw_or (ct_not (ct_val (ce_callB call_isiT (by rfl) T.z_isinstance bt_isinstance os_isi2 (.cons (es 1) (.cons (co_v (ce_tup (cl_cons (ce_ty (by rfl) T.z_list bt_list) (cl_cons (ce_ty (by rfl) T.z_tuple bt_tuple) cl_nil)) ⟨fun _ => rfl, ⟨fun _ => rfl, trivial⟩⟩)) .nil)) (hst := ⟨fun _ => rfl, ⟨fun _ => rfl, trivial⟩⟩)))) (cw_or1 (ct_cmp (ce_cmp op_gt os_gt (co_v (ce_callB call_len_seq (by rfl) T.z_len bt_len os_len (.cons (es 1) .nil) (hst := ⟨fun _ => rfl, trivial⟩))) (co_v (ce_cval (by rfl) T.g_Network T.rd_Network T.cv_Network_MAX_STEPS fun _ _ => .int)) (nomark _)))))) css_fail css_nil)
    (css_one (cs_for (ci_or (ci_enum (by rfl) T.z_enumerate (en 1)) (ci_enumT (by rfl) T.z_enumerate (en 1)) (iEnA_or _)) (cg_tup rfl (cgs_cons (gn 2 sc_check_steps.nd) (cgs_cons (gn 3 sc_check_steps.nd) cgs_nil (by rfl)) (by rfl)) rfl) (css_one (cs_if (ct_not (ct_val (ce_callR (ok_is_integer T) (hr.mono (by decide)) (by rfl) T.g_is_integer T.F_is_integer.kp (cl_cons (en 3) (cl_cons ce_int (cl_cons (ce_bin op_sub os_sub (es 0) (co_v ce_int)) cl_nil))) ⟨fun _ => rfl, ⟨fun _ => rfl, ⟨fun _ => rfl, trivial⟩⟩⟩))) css_fail css_nil)) (passes_of rfl) rfl)))
theorem ok_Network___init__ (T : Tx K mg) : FnG P w K mg base (L2.CX P w) 3 T.f_Network___init__ (spM T.ca K m_Network___init__) := fn_okG (N := ["self", "width", "steps"]) (n := 3) (L := [0, 1, 2]) (mb := b_Network___init__) T.F_Network___init__ T.B_Network___init__ sc_Network___init__ rfl fun cdv A outer s H E hr =>
  show CSs _ _ _ _ b_Network___init__ from (css_cons (cs_expr (ce_callR (ok_check_width T) (hr.mono (by decide)) (by rfl) T.g_check_width T.F_check_width.kp (cl_cons (en 1) cl_nil) ⟨fun _ => rfl, trivial⟩))
    (css_cons (cs_expr (ce_callR (ok_check_steps T) (hr.mono (by decide)) (by rfl) T.g_check_steps T.F_check_steps.kp (cl_cons (en 1) (cl_cons (en 2) cl_nil)) ⟨fun _ => rfl, ⟨fun _ => rfl, trivial⟩⟩))
    (css_cons (cs_fld (C := 0) T.cl_Network T.na_Network_own_width (pv 0) (en 1))
    (css_one (cs_fld (C := 0) T.cl_Network T.na_Network_own_steps (pv 0) (ce_callTy call_tuple_of (by rfl) T.z_tuple bt_tuple os_tuple (.cons (es 2) .nil) (hst := ⟨fun _ => rfl, trivial⟩)))))))
theorem ok_Network_empty (T : Tx K mg) : FnG P w K mg base (L2.CX P w) 5 T.f_Network_empty (spM T.ca K m_Network_empty) := fn_okG (N := ["cls", "width"]) (n := 2) (L := [0, 1]) (mb := b_Network_empty) T.F_Network_empty T.B_Network_empty sc_Network_empty rfl fun cdv A outer s H E hr =>
  show CSs _ _ _ _ b_Network_empty from (css_one (cs_ret (ce_makeV (C := 0) T.mk_Network (ok_Network___init__ T) (hr.mono (by decide)) rfl (.inl rfl) (cl_cons (en 1) (cl_cons (ce_lst cl_nil trivial) cl_nil)) ⟨fun _ => rfl, ⟨fun _ => rfl, trivial⟩⟩)))
theorem ok_Bench___init__ (T : Tx K mg) : FnG P w K mg base (L2.CX P w) 6 T.f_Bench___init__ (spM T.ca K m_Bench___init__) := fn_okG (N := ["self", "width"]) (n := 2) (L := [0, 1]) (mb := b_Bench___init__) T.F_Bench___init__ T.B_Bench___init__ sc_Bench___init__ rfl fun cdv A outer s H E hr =>
  show CSs _ _ _ _ b_Bench___init__ from (css_cons (cs_fldO (C := 1) T.cl_Bench T.na_Bench_own_network (pv 0) (ce_fz (ce_cmth (C := 0) (pl := _) (by rfl) T.g_Network T.rd_Network T.cm_Network_empty (ok_Network_empty T) (hr.mono (by decide)) (cl_cons (en 1) cl_nil) ⟨fun _ => rfl, trivial⟩)))
    (css_one (cs_fldO (C := 1) T.cl_Bench T.na_Bench_own_history (pv 0) (ce_lst cl_nil trivial))))
theorem ok_Bench_keep (T : Tx K mg) : FnG P w K mg base (L2.CX P w) 5 T.f_Bench_keep (spM T.ca K m_Bench_keep) := fn_okG (N := ["self", "word", "steps"]) (n := 3) (L := [0, 1, 2]) (mb := b_Bench_keep) T.F_Bench_keep T.B_Bench_keep sc_Bench_keep rfl fun cdv A outer s H E hr =>
  show CSs _ _ _ _ b_Bench_keep from (css_cons (cs_expr (ce_fAppT (C := 1) T.cl_Bench T.na_Bench_own_history T.na_Bench_own_network (pv 0) (pv 0) (pv 1)))
    (css_cons (cs_fldO (C := 1) T.cl_Bench T.na_Bench_own_network (pv 0) (ce_fz (ce_makeG (C := 0) T.mk_Network (ok_Network___init__ T) (hr.mono (by decide)) (by rfl) T.g_Network (cl_cons (ce_prop (C := 0) T.cl_Network T.pr_Network_width (ok_Network_width T) (hr.2.mono (by decide)) T.B_Network_width (co_v (ce_fld (C := 1) T.cl_Bench T.na_Bench_own_network (es 0)))) (cl_cons (en 2) cl_nil)) ⟨fun _ => rfl, ⟨fun _ => rfl, trivial⟩⟩)))
    (css_one (cs_ret (ce_callB call_len_seq (by rfl) T.z_len bt_len os_len (.cons (es 2) .nil) (hst := ⟨fun _ => rfl, trivial⟩))))))
theorem ok_Bench_drop (T : Tx K mg) : FnG P w K mg base (L2.CX P w) 6 T.f_Bench_drop (spM T.ca K m_Bench_drop) := fn_okG (N := ["self", "index", "steps"]) (n := 2) (L := [0, 1]) (mb := b_Bench_drop) T.F_Bench_drop T.B_Bench_drop sc_Bench_drop rfl fun cdv A outer s H E hr =>
  show CSs _ _ _ _ b_Bench_drop from (css_cons (cs_set 2 sc_Bench_drop.nd (ce_callTy call_list_of (by rfl) T.z_list bt_list os_list (.cons (co_v (ce_prop (C := 0) T.cl_Network T.pr_Network_steps (ok_Network_steps T) (hr.2.mono (by decide)) T.B_Network_steps (co_v (ce_fld (C := 1) T.cl_Bench T.na_Bench_own_network (es 0))))) .nil) (hst := ⟨fun _ => rfl, trivial⟩)))
    (css_cons (cs_if (ct_not (ct_val (ce_callR (ok_is_integer T) (hr.mono (by decide)) (by rfl) T.g_is_integer T.F_is_integer.kp (cl_cons (en 1) (cl_cons ce_int (cl_cons (ce_bin op_sub os_sub (co_v (ce_callB call_len_seq (by rfl) T.z_len bt_len os_len (.cons (es 2) .nil) (hst := ⟨fun _ => rfl, trivial⟩))) (co_v ce_int)) cl_nil))) ⟨fun _ => rfl, ⟨fun _ => rfl, ⟨fun _ => rfl, trivial⟩⟩⟩))) css_fail css_nil)
    (css_cons (cs_expr (ce_mthL (C := 1) (pl := _) T.cl_Bench T.me_Bench_keep (ok_Bench_keep T) (hr.mono (by decide)) (pv 0) (cl_cons (ce_glob (v := .str "drop") (by rfl) T.gc_DROP T.rc_DROP fun _ _ => .str) (cl_cons (ce_bin op_addA os_add (co_v (ce_s01 (es 2) (es 1))) (co_v (ce_s10 (es 2) (co_v (ce_bin op_addA os_add (es 1) (co_v ce_int)))))) cl_nil)) ⟨fun _ => rfl, ⟨fun _ => rfl, trivial⟩⟩))
    (css_one (cs_ret (ce_ix ix_A os_ix (es 2) (es 1) (fun _ _ => rfl)))))))
theorem ok_Bench_check_step (T : Tx K mg) : FnG P w K mg base (L2.CX P w) 3 T.f_Bench_check_step (spM T.ca K m_Bench_check_step) := fn_okG (N := ["self", "step", "index"]) (n := 3) (L := [0, 1, 2]) (mb := b_Bench_check_step) T.F_Bench_check_step T.B_Bench_check_step sc_Bench_check_step rfl fun cdv A outer s H E hr =>
  show CSs _ _ _ _ b_Bench_check_step from (css_one (cs_if (ct_not (ct_val (ce_callR (ok_is_integer T) (hr.mono (by decide)) (by rfl) T.g_is_integer T.F_is_integer.kp (cl_cons (en 1) (cl_cons ce_int (cl_cons (ce_bin op_sub os_sub (co_v (ce_prop (C := 0) T.cl_Network T.pr_Network_width (ok_Network_width T) (hr.2.mono (by decide)) T.B_Network_width (co_v (ce_fld (C := 1) T.cl_Bench T.na_Bench_own_network (es 0))))) (co_v ce_int)) cl_nil))) ⟨fun _ => rfl, ⟨fun _ => rfl, ⟨fun _ => rfl, trivial⟩⟩⟩))) css_fail css_nil))
theorem ok_check_count (T : Tx K mg) : FnG P w K mg base (L2.CX P w) 1 T.f_check_count (spM T.ca K m_check_count) := fn_okG (N := ["count"]) (n := 1) (L := [0]) (mb := b_check_count) T.F_check_count T.B_check_count sc_check_count rfl fun cdv A outer s H E hr =>
  show CSs _ _ _ _ b_check_count from (css_one (cs_if (ct_cmp (ce_cmp op_gt os_gt (es 0) (co_v (ce_cval (by rfl) T.g_Network T.rd_Network T.cv_Network_MAX_STEPS fun _ _ => .int)) (nomark _))) css_fail css_nil))
theorem ok_Bench_place (T : Tx K mg) : FnG P w K mg base (L2.CX P w) 6 T.f_Bench_place (spM T.ca K m_Bench_place) := fn_okG (N := ["self", "index", "step", "steps"]) (n := 3) (L := [0, 1, 2]) (mb := b_Bench_place) T.F_Bench_place T.B_Bench_place sc_Bench_place rfl fun cdv A outer s H E hr =>
  show CSs _ _ _ _ b_Bench_place from (css_cons (cs_set 3 sc_Bench_place.nd (ce_callTy call_list_of (by rfl) T.z_list bt_list os_list (.cons (co_v (ce_prop (C := 0) T.cl_Network T.pr_Network_steps (ok_Network_steps T) (hr.2.mono (by decide)) T.B_Network_steps (co_v (ce_fld (C := 1) T.cl_Bench T.na_Bench_own_network (es 0))))) .nil) (hst := ⟨fun _ => rfl, trivial⟩)))
    (css_cons (cs_if (ct_not (ct_val (ce_callR (ok_is_integer T) (hr.mono (by decide)) (by rfl) T.g_is_integer T.F_is_integer.kp (cl_cons (en 1) (cl_cons ce_int (cl_cons (ce_callB call_len_seq (by rfl) T.z_len bt_len os_len (.cons (es 3) .nil) (hst := ⟨fun _ => rfl, trivial⟩)) cl_nil))) ⟨fun _ => rfl, ⟨fun _ => rfl, ⟨fun _ => rfl, trivial⟩⟩⟩))) css_fail css_nil)
    (css_cons (cs_expr (ce_mthL (C := 1) (pl := _) T.cl_Bench T.me_Bench_check_step (ok_Bench_check_step T) (hr.mono (by decide)) (pv 0) (cl_cons (en 2) (cl_cons ce_non cl_nil)) ⟨fun _ => rfl, ⟨fun _ => rfl, trivial⟩⟩))
    (css_cons (cs_expr (ce_callR (ok_check_count T) (hr.mono (by decide)) (by rfl) T.g_check_count T.F_check_count.kp (cl_cons (ce_bin op_addA os_add (co_v (ce_callB call_len_seq (by rfl) T.z_len bt_len os_len (.cons (es 3) .nil) (hst := ⟨fun _ => rfl, trivial⟩))) (co_v ce_int)) cl_nil) ⟨fun _ => rfl, trivial⟩))
    (css_one (cs_ret (ce_mthL (C := 1) (pl := _) T.cl_Bench T.me_Bench_keep (ok_Bench_keep T) (hr.mono (by decide)) (pv 0) (cl_cons (ce_glob (v := .str "place") (by rfl) T.gc_PLACE T.rc_PLACE fun _ _ => .str) (cl_cons (ce_bin op_addA os_add (co_v (ce_bin op_addA os_add (co_v (ce_s01 (es 3) (es 1))) (co_v (ce_lst (cl_cons (en 2) cl_nil) ⟨fun _ => rfl, trivial⟩)))) (co_v (ce_s10 (es 3) (es 1)))) cl_nil)) ⟨fun _ => rfl, ⟨fun _ => rfl, trivial⟩⟩)))))))
theorem ok_Network___len__ (T : Tx K mg) : FnG P w K mg base (L2.CX P w) 1 T.f_Network___len__ (spM T.ca K m_Network___len__) := fn_okG (N := ["self"]) (n := 1) (L := [0]) (mb := b_Network___len__) T.F_Network___len__ T.B_Network___len__ sc_Network___len__ rfl fun cdv A outer s H E hr =>
  show CSs _ _ _ _ b_Network___len__ from (css_one (cs_ret (ce_callB call_len_seq (by rfl) T.z_len bt_len os_len (.cons (co_v (ce_fld (C := 0) T.cl_Network T.na_Network_own_steps (es 0))) .nil) (hst := ⟨fun _ => rfl, trivial⟩))))
theorem ok_Bench_add_all (T : Tx K mg) : FnG P w K mg base (L2.CX P w) 6 T.f_Bench_add_all (spM T.ca K m_Bench_add_all) := fn_okG (N := ["self", "steps", "index", "step"]) (n := 2) (L := [0, 1]) (mb := b_Bench_add_all) T.F_Bench_add_all T.B_Bench_add_all sc_Bench_add_all rfl fun cdv A outer s H E hr =>
  show CSs _ _ _ _ b_Bench_add_all from (css_cons (cs_for (ci_or (ci_enum (by rfl) T.z_enumerate (en 1)) (ci_enumT (by rfl) T.z_enumerate (en 1)) (iEnA_or _)) (cg_tup rfl (cgs_cons (gn 2 sc_Bench_add_all.nd) (cgs_cons (gn 3 sc_Bench_add_all.nd) cgs_nil (by rfl)) (by rfl)) rfl) (css_one (cs_expr (ce_mthL (C := 1) (pl := _) T.cl_Bench T.me_Bench_check_step (ok_Bench_check_step T) (hr.mono (by decide)) (pv 0) (cl_cons (en 3) (cl_cons (en 2) cl_nil)) ⟨fun _ => rfl, ⟨fun _ => rfl, trivial⟩⟩))) (passes_of rfl) rfl)
    (css_cons (cs_expr (ce_callR (ok_check_count T) (hr.mono (by decide)) (by rfl) T.g_check_count T.F_check_count.kp (cl_cons (ce_bin op_addA os_add (co_v (ce_lenIG (ok_Network___len__ T) T.ol_Network (hr.mono (by decide)) (by rfl) T.z_len (co_v (ce_fz (ce_fld (C := 1) T.cl_Bench T.na_Bench_own_network (es 0)))))) (co_v (ce_callB call_len_seq (by rfl) T.z_len bt_len os_len (.cons (es 1) .nil) (hst := ⟨fun _ => rfl, trivial⟩)))) cl_nil) ⟨fun _ => rfl, trivial⟩))
    (css_one (cs_ret (ce_mthL (C := 1) (pl := _) T.cl_Bench T.me_Bench_keep (ok_Bench_keep T) (hr.mono (by decide)) (pv 0) (cl_cons (ce_glob (v := .str "add") (by rfl) T.gc_ADD T.rc_ADD fun _ _ => .str) (cl_cons (ce_lstA (ca_star (ce_prop (C := 0) T.cl_Network T.pr_Network_steps (ok_Network_steps T) (hr.2.mono (by decide)) T.B_Network_steps (co_v (ce_fld (C := 1) T.cl_Bench T.na_Bench_own_network (es 0)))) (ca_star (en 1) ca_nil))) cl_nil)) ⟨fun _ => rfl, ⟨fun _ => rfl, trivial⟩⟩)))))
theorem ok_Bench_add (T : Tx K mg) : FnG P w K mg base (L2.CX P w) 7 T.f_Bench_add (spM T.ca K m_Bench_add) := star_ok (ps := ["self"]) (pv := "steps") T.F_Bench_add T.S_Bench_add sc_Bench_add rfl fun cdv A outer s H E hr =>
  show CSs _ _ _ _ b_Bench_add from (css_one (cs_ret (ce_mthL (C := 1) (pl := _) T.cl_Bench T.me_Bench_add_all (ok_Bench_add_all T) (hr.mono (by decide)) (pv 0) (cl_cons (en 1) cl_nil) ⟨fun _ => rfl, trivial⟩)))
theorem ok__law_perform (T : Tx K mg) : FnG P w K mg base (L2.CX P w) 8 T.f__law_perform (spM T.ca K m__law_perform) := fn_okG (N := ["_law_bench", "_law_change_here"]) (n := 2) (L := [0, 1]) (mb := b__law_perform) T.F__law_perform T.B__law_perform sc__law_perform rfl fun cdv A outer s H E hr =>
  show CSs _ _ _ _ b__law_perform from (css_cons (cs_if (ct_cmp (ce_cmp (op_eqD hr.2.units) os_eq (co_v (ce_ix ix_A os_ix (es 1) (co_v ce_int) (fun _ _ => rfl))) (co_v ce_str) (nomark _))) (css_one (cs_ret (ce_mthL (C := 1) (pl := _) T.cl_Bench T.me_Bench_drop (ok_Bench_drop T) (hr.mono (by decide)) (pv 0) (cl_cons (ce_ix ix_A os_ix (es 1) (co_v ce_int) (fun _ _ => rfl)) cl_nil) ⟨fun _ => rfl, trivial⟩))) css_nil)
    (css_cons (cs_if (ct_cmp (ce_cmp (op_eqD hr.2.units) os_eq (co_v (ce_ix ix_A os_ix (es 1) (co_v ce_int) (fun _ _ => rfl))) (co_v ce_str) (nomark _))) (css_one (cs_ret (ce_mthL (C := 1) (pl := _) T.cl_Bench T.me_Bench_place (ok_Bench_place T) (hr.mono (by decide)) (pv 0) (cl_cons (ce_ix ix_A os_ix (es 1) (co_v ce_int) (fun _ _ => rfl)) (cl_cons (ce_ix ix_A os_ix (es 1) (co_v ce_int) (fun _ _ => rfl)) cl_nil)) ⟨fun _ => rfl, ⟨fun _ => rfl, trivial⟩⟩))) css_nil)
    (css_cons (cs_if (ct_cmp (ce_cmp (op_eqD hr.2.units) os_eq (co_v (ce_callB call_len_seq (by rfl) T.z_len bt_len os_len (.cons (co_v (ce_ix ix_A os_ix (es 1) (co_v ce_int) (fun _ _ => rfl))) .nil) (hst := ⟨fun _ => rfl, trivial⟩))) (co_v ce_int) (nomark _))) (css_one (cs_ret (ce_mthL (C := 1) (pl := _) T.cl_Bench T.me_Bench_add (ok_Bench_add T) (hr.mono (by decide)) (pv 0) cl_nil trivial (hpl := fun e r h => by cases h)))) css_nil)
    (css_one (cs_ret (ce_if (ct_cmp (ce_cmp (op_eqD hr.2.units) os_eq (co_v (ce_callB call_len_seq (by rfl) T.z_len bt_len os_len (.cons (co_v (ce_ix ix_A os_ix (es 1) (co_v ce_int) (fun _ _ => rfl))) .nil) (hst := ⟨fun _ => rfl, trivial⟩))) (co_v ce_int) (nomark _))) (ce_mthL (C := 1) (pl := _) T.cl_Bench T.me_Bench_add (ok_Bench_add T) (hr.mono (by decide)) (pv 0) (cl_cons (ce_ix ix_A os_ix (co_v (ce_ix ix_A os_ix (es 1) (co_v ce_int) (fun _ _ => rfl))) (co_v ce_int) (fun _ _ => rfl)) cl_nil) ⟨fun _ => rfl, trivial⟩) (ce_mthL (C := 1) (pl := _) T.cl_Bench T.me_Bench_add (ok_Bench_add T) (hr.mono (by decide)) (pv 0) (cl_cons (ce_ix ix_A os_ix (co_v (ce_ix ix_A os_ix (es 1) (co_v ce_int) (fun _ _ => rfl))) (co_v ce_int) (fun _ _ => rfl)) (cl_cons (ce_ix ix_A os_ix (co_v (ce_ix ix_A os_ix (es 1) (co_v ce_int) (fun _ _ => rfl))) (co_v ce_int) (fun _ _ => rfl)) cl_nil)) ⟨fun _ => rfl, ⟨fun _ => rfl, trivial⟩⟩)))))))
theorem ok__law_made (T : Tx K mg) : FnG P w K mg base (L2.CX P w) 9 T.f__law_made (spM T.ca K m__law_made) := fn_okG (N := ["_law_width", "_law_changes", "_law_bench", "_law_change_here"]) (n := 2) (L := [0, 1]) (mb := b__law_made) T.F__law_made T.B__law_made sc__law_made rfl fun cdv A outer s H E hr =>
  show CSs _ _ _ _ b__law_made from (css_cons (cs_set 2 sc__law_made.nd (ce_makeG (C := 1) T.mk_Bench (ok_Bench___init__ T) (hr.mono (by decide)) (by rfl) T.g_Bench (cl_cons (en 0) cl_nil) ⟨fun _ => rfl, trivial⟩))
    (css_cons (cs_for (ci_list (pi_list (we_pe _ _)) (en 1)) (gn 3 sc__law_made.nd) (css_one (cs_expr (ce_callLG _ _ _ (ok__law_perform T) (hr.mono (by decide)) (by rfl) T.g__law_perform T.F__law_perform.kp cl_nil (pv 2) (cl_cons (en 3) cl_nil) rfl ⟨fun _ => rfl, ⟨fun _ => rfl, trivial⟩⟩))) (passes_of rfl) rfl)
    (css_one (cs_ret (emv 2)))))
theorem ok_Bench_copy (T : Tx K mg) : FnG P w K mg base (L2.CX P w) 8 T.f_Bench_copy (spM T.ca K m_Bench_copy) := fn_okG (N := ["self", "result"]) (n := 1) (L := [0]) (mb := b_Bench_copy) T.F_Bench_copy T.B_Bench_copy sc_Bench_copy rfl fun cdv A outer s H E hr =>
  show CSs _ _ _ _ b_Bench_copy from (css_cons (cs_set 1 sc_Bench_copy.nd (ce_makeG (C := 1) T.mk_Bench (ok_Bench___init__ T) (hr.mono (by decide)) (by rfl) T.g_Bench (cl_cons (ce_prop (C := 0) T.cl_Network T.pr_Network_width (ok_Network_width T) (hr.2.mono (by decide)) T.B_Network_width (co_v (ce_fld (C := 1) T.cl_Bench T.na_Bench_own_network (es 0)))) cl_nil) ⟨fun _ => rfl, trivial⟩))
    (css_cons (cs_fldO (C := 1) T.cl_Bench T.na_Bench_own_network (pv 1) (ce_fld (C := 1) T.cl_Bench T.na_Bench_own_network (es 0)))
    (css_cons (cs_fldO (C := 1) T.cl_Bench T.na_Bench_own_history (pv 1) (ce_callTyF (C := 1) call_list_of (by rfl) T.z_list bt_list os_list T.cl_Bench T.na_Bench_own_history (pv 0)))
    (css_one (cs_ret (emv 1))))))
theorem ok_Network___eq__ (T : Tx K mg) : FnG P w K mg base (L2.CX P w) 3 T.f_Network___eq__ (spM T.ca K m_Network___eq__) := fn_okG (N := ["self", "other"]) (n := 2) (L := [0, 1]) (mb := b_Network___eq__) T.F_Network___eq__ T.B_Network___eq__ sc_Network___eq__ rfl fun cdv A outer s H E hr =>
  show CSs _ _ _ _ b_Network___eq__ from (css_one (cs_ret (ce_and' (ce_callB call_isi (by rfl) T.z_isinstance bt_isinstance (os_isiC (C := 0) (T := isi_Network) T.ii_Network T.ib_Network) (.cons (es 1) (.cons (co_v (ce_cls (C := 0) (by rfl) T.g_Network)) .nil)) (hst := ⟨fun _ => rfl, ⟨fun _ => rfl, trivial⟩⟩)) (ce_and (ce_cmp (op_eqD hr.2.units) os_eq (co_v (ce_prop (C := 0) T.cl_Network T.pr_Network_width (ok_Network_width T) (hr.2.mono (by decide)) T.B_Network_width (es 0))) (co_v (ce_prop (C := 0) T.cl_Network T.pr_Network_width (ok_Network_width T) (hr.2.mono (by decide)) T.B_Network_width (es 1))) (nomark _)) (ce_cmp (op_eqD hr.2.units) os_eq (co_v (ce_prop (C := 0) T.cl_Network T.pr_Network_steps (ok_Network_steps T) (hr.2.mono (by decide)) T.B_Network_steps (es 0))) (co_v (ce_prop (C := 0) T.cl_Network T.pr_Network_steps (ok_Network_steps T) (hr.2.mono (by decide)) T.B_Network_steps (es 1))) (nomark _))))))
theorem ok_Bench___eq__ (T : Tx K mg) : FnG P w K mg base (L2.CX P w) 6 T.f_Bench___eq__ (spM T.ca K m_Bench___eq__) := fn_okG (N := ["self", "other"]) (n := 2) (L := [0, 1]) (mb := b_Bench___eq__) T.F_Bench___eq__ T.B_Bench___eq__ sc_Bench___eq__ rfl fun cdv A outer s H E hr =>
  show CSs _ _ _ _ b_Bench___eq__ from (css_cons (cs_if (ct_not (ct_val (ce_callB call_isi (by rfl) T.z_isinstance bt_isinstance (os_isiC (C := 1) (T := isi_Bench) T.ii_Bench T.ib_Bench) (.cons (es 1) (.cons (co_v (ce_cls (C := 1) (by rfl) T.g_Bench)) .nil)) (hst := ⟨fun _ => rfl, ⟨fun _ => rfl, trivial⟩⟩)))) (css_one (cs_ret ce_bl)) css_nil)
    (css_one (cs_ret (ce_and (ce_eqIG false rfl (ok_Network___eq__ T) T.oe_Network (hr.mono (by decide)) (co_v (ce_fz (ce_fld (C := 1) T.cl_Bench T.na_Bench_own_network (es 0)))) (co_v (ce_fz (ce_fld (C := 1) T.cl_Bench T.na_Bench_own_network (es 1))))) (ce_eqD (n := 1) false rfl (ok_Network___eq__ T) T.oe_Network (hr.mono (by decide)) (co_v (ce_fz (ce_fld (C := 1) T.cl_Bench T.na_Bench_own_history (es 0)))) (co_v (ce_fz (ce_fld (C := 1) T.cl_Bench T.na_Bench_own_history (es 1)))))))))
theorem ok_Bench___repr__ (T : Tx K mg) : FnG P w K mg base (L2.CX P w) 3 T.f_Bench___repr__ (spM T.ca K m_Bench___repr__) := fn_okG (N := ["self"]) (n := 1) (L := [0]) (mb := b_Bench___repr__) T.F_Bench___repr__ T.B_Bench___repr__ sc_Bench___repr__ rfl fun cdv A outer s H E hr =>
  show CSs _ _ _ _ b_Bench___repr__ from (css_one (cs_ret (ce_j (.cons ce_str (.cons (ce_fmt hr (co_v (ce_prop (C := 0) T.cl_Network T.pr_Network_width (ok_Network_width T) (hr.2.mono (by decide)) T.B_Network_width (co_v (ce_fld (C := 1) T.cl_Bench T.na_Bench_own_network (es 0)))))) (.cons ce_str (.cons (ce_fmt hr (co_v (ce_lenIG (ok_Network___len__ T) T.ol_Network (hr.mono (by decide)) (by rfl) T.z_len (co_v (ce_fz (ce_fld (C := 1) T.cl_Bench T.na_Bench_own_network (es 0))))))) (.cons ce_str .nil))))))))
theorem ok_Bench___len__ (T : Tx K mg) : FnG P w K mg base (L2.CX P w) 3 T.f_Bench___len__ (spM T.ca K m_Bench___len__) := fn_okG (N := ["self"]) (n := 1) (L := [0]) (mb := b_Bench___len__) T.F_Bench___len__ T.B_Bench___len__ sc_Bench___len__ rfl fun cdv A outer s H E hr =>
  show CSs _ _ _ _ b_Bench___len__ from (css_one (cs_ret (ce_lenIG (ok_Network___len__ T) T.ol_Network (hr.mono (by decide)) (by rfl) T.z_len (co_v (ce_fz (ce_fld (C := 1) T.cl_Bench T.na_Bench_own_network (es 0)))))))
theorem ok_Bench_changes (T : Tx K mg) : FnG P w K mg base (L2.CX P w) 1 T.f_Bench_changes (spM T.ca K m_Bench_changes) := fn_okG (N := ["self", "word", "network"]) (n := 1) (L := [0]) (mb := b_Bench_changes) T.F_Bench_changes T.B_Bench_changes sc_Bench_changes rfl fun cdv A outer s H E hr =>
  show CSs _ _ _ _ b_Bench_changes from (css_one (cs_ret (ce_thaw (i := 0) (ce_lc (own := [("word", 1), ("network", 2)]) rfl sc_Bench_changes.nd (ci_list (pi_list (we_pe _ _)) (ce_fld (C := 1) T.cl_Bench T.na_Bench_own_history (es 0))) (blk_of rfl (by kernel_rfl)) (fun _ _ _ _ _ _ => (cg_tupB rfl (cgs_cons (gb 1 sc_Bench_changes.nd) (cgs_cons (gb 2 sc_Bench_changes.nd) cgs_nil (by rfl)) (by rfl)) rfl)) (fun _ _ _ _ _ => (en 1))))))
theorem ok__law_state (T : Tx K mg) : FnG P w K mg base (L2.CX P w) 5 T.f__law_state (spM T.ca K m__law_state) := fn_okG (N := ["_law_bench"]) (n := 1) (L := [0]) (mb := b__law_state) T.F__law_state T.B__law_state sc__law_state rfl fun cdv A outer s H E hr =>
  show CSs _ _ _ _ b__law_state from (css_one (cs_ret (ce_lst (cl_cons (ce_prop (C := 1) T.cl_Bench T.pr_Bench_network (ok_Bench_network T) (hr.2.mono (by decide)) T.B_Bench_network (es 0)) (cl_cons (ce_propL (C := 1) T.cl_Bench T.pr_Bench_changes (ok_Bench_changes T) (hr.mono (by decide)) (pv 0)) (cl_cons (ce_thaw (i := 0) (ce_lenIG (ok_Bench___len__ T) T.ol_Bench (hr.mono (by decide)) (by rfl) T.z_len (co_v (ce_fz (en 0))))) (cl_cons (ce_thaw (i := 0) (ce_reprI (ok_Bench___repr__ T) T.me_Bench___repr__ (hr.mono (by decide)) hr (by rfl) T.z_repr bt_repr (co_v (ce_fz (en 0))))) cl_nil)))) ⟨fun _ => rfl, ⟨fun _ => rfl, ⟨fun _ => rfl, ⟨fun _ => rfl, trivial⟩⟩⟩⟩)))
theorem ok__law_unlike (T : Tx K mg) : FnG P w K mg base (L2.CX P w) 8 T.f__law_unlike (spM T.ca K m__law_unlike) := fn_okG (N := ["_law_one", "_law_two"]) (n := 2) (L := [0, 1]) (mb := b__law_unlike) T.F__law_unlike T.B__law_unlike sc__law_unlike rfl fun cdv A outer s H E hr =>
  show CSs _ _ _ _ b__law_unlike from (css_one (cs_ret (ce_and' (ce_eqIG true rfl (ok_Bench___eq__ T) T.oe_Bench (hr.mono (by decide)) (co_v (ce_fz (en 0))) (co_v (ce_fz (en 1)))) (ce_and (ce_not (ce_eqIG false rfl (ok_Bench___eq__ T) T.oe_Bench (hr.mono (by decide)) (co_v (ce_fz (en 0))) (co_v (ce_fz (en 1))))) (ce_eqIG true rfl (ok_Bench___eq__ T) T.oe_Bench (hr.mono (by decide)) (co_v (ce_fz (en 1))) (co_v (ce_fz (en 0))))))))
theorem ok_is_any_integer (T : Tx K mg) : FnG P w K mg base (L2.CX P w) 1 T.f_is_any_integer (spM T.ca K m_is_any_integer) := fn_okG (N := ["value"]) (n := 1) (L := [0]) (mb := b_is_any_integer) T.F_is_any_integer T.B_is_any_integer sc_is_any_integer rfl fun cdv A outer s H E hr =>
  show CSs _ _ _ _ b_is_any_integer from (css_one (cs_ret (ce_and (ce_callB call_isi (by rfl) T.z_isinstance bt_isinstance (os_isiB (T := "int")) (.cons (es 0) (.cons (co_v (ce_ty (by rfl) T.z_int bt_int)) .nil)) (hst := ⟨fun _ => rfl, ⟨fun _ => rfl, trivial⟩⟩)) (ce_not (ce_callB call_isi (by rfl) T.z_isinstance bt_isinstance (os_isiB (T := "bool")) (.cons (es 0) (.cons (co_v (ce_ty (by rfl) T.z_bool bt_bool)) .nil)) (hst := ⟨fun _ => rfl, ⟨fun _ => rfl, trivial⟩⟩))))))
theorem ok_Bench_undo (T : Tx K mg) : FnG P w K mg base (L2.CX P w) 2 T.f_Bench_undo (spM T.ca K m_Bench_undo) := def_ok (n := 1) T.F_Bench_undo T.D_Bench_undo sc_Bench_undo rfl (fun _ _ _ => .int) fun cdv A outer s H E hr =>
  show CSs _ _ _ _ b_Bench_undo from (css_cons (cs_if (ct_w (cw_or (ct_not (ct_val (ce_callR (ok_is_any_integer T) (hr.mono (by decide)) (by rfl) T.g_is_any_integer T.F_is_any_integer.kp (cl_cons (en 1) cl_nil) ⟨fun _ => rfl, trivial⟩))) (cw_or1 (ct_cmp (ce_cmp op_lt os_lt (es 1) (co_v ce_int) (nomark _)))))) css_fail css_nil)
    (css_cons (cs_if (ct_cmp (ce_cmp op_gt os_gt (es 1) (co_v (ce_callBF (C := 1) call_len_seq (by rfl) T.z_len bt_len os_len T.cl_Bench T.na_Bench_own_history (pv 0))) (nomark _))) css_fail css_nil)
    (css_cons (cs_set 2 sc_Bench_undo.nd (ce_lst cl_nil trivial))
    (css_cons (cs_for (ci_range1 (by rfl) T.z_range (en 1)) (gn 3 sc_Bench_undo.nd) (css_cons (cs_asgT (ce_fM0 (C := 1) PySem.F.slot_list_pop PySem.F.type_list_pop mt_pop m0_pop T.cl_Bench T.na_Bench_own_history (pv 0)) (cg_tup rfl (cgs_cons (gn 4 sc_Bench_undo.nd) (cgs_cons (cg_fldO (C := 1) T.cl_Bench T.na_Bench_own_network (pv 0)) cgs_nil (by rfl)) (by rfl)) rfl))
    (css_one (cs_expr (ce_app (pv 2) (en 4))))) (passes_of rfl) rfl)
    (css_one (cs_ret (emv 2)))))))
theorem os1__law_other_index_holds (T : Tx K mg) {cdv : Value} {A : Around} {outer : List Env} {s : Shared} {H : Hp} {E : XK} (hr : RoomG 8 (A.deeper (envOfC "_law_other_index_holds" (defScope s__law_other_index_holds) s.heap.objs.size T.f__law_other_index_holds cdv))) : CS T.ca (cxOf (L2.CX P w) P w K mg base ["_law_one", "_law_two"] "_law_other_index_holds" (defScope s__law_other_index_holds) T.f__law_other_index_holds cdv A outer s H E) [] (nthS (defBody s__law_other_index_holds) 0) st1__law_other_index_holds :=
  (cs_par (i := 0) (j := 1) rfl sc__law_other_index_holds.nd rfl rfl (by decide) rfl rfl (by decide) (by decide) (cl_cons (ce_makeG (C := 1) T.mk_Bench (ok_Bench___init__ T) (hr.mono (by decide)) (by rfl) T.g_Bench (cl_cons ce_int cl_nil) ⟨fun _ => rfl, trivial⟩) (cl_cons (ce_makeG (C := 1) T.mk_Bench (ok_Bench___init__ T) (hr.mono (by decide)) (by rfl) T.g_Bench (cl_cons ce_int cl_nil) ⟨fun _ => rfl, trivial⟩) cl_nil)) ⟨fun _ => rfl, ⟨fun _ => rfl, trivial⟩⟩ (by rfl))
theorem os2__law_other_index_holds (T : Tx K mg) {cdv : Value} {A : Around} {outer : List Env} {s : Shared} {H : Hp} {E : XK} (hr : RoomG 8 (A.deeper (envOfC "_law_other_index_holds" (defScope s__law_other_index_holds) s.heap.objs.size T.f__law_other_index_holds cdv))) : CS T.ca (cxOf (L2.CX P w) P w K mg base ["_law_one", "_law_two"] "_law_other_index_holds" (defScope s__law_other_index_holds) T.f__law_other_index_holds cdv A outer s H E) [] (nthS (defBody s__law_other_index_holds) 1) st2__law_other_index_holds :=
  (cs_expr (ce_mthL (C := 1) (pl := _) T.cl_Bench T.me_Bench_add (ok_Bench_add T) (hr.mono (by decide)) (pv 0) (cl_cons ce_int (cl_cons ce_int cl_nil)) ⟨fun _ => rfl, ⟨fun _ => rfl, trivial⟩⟩))
theorem os3__law_other_index_holds (T : Tx K mg) {cdv : Value} {A : Around} {outer : List Env} {s : Shared} {H : Hp} {E : XK} (hr : RoomG 8 (A.deeper (envOfC "_law_other_index_holds" (defScope s__law_other_index_holds) s.heap.objs.size T.f__law_other_index_holds cdv))) : CS T.ca (cxOf (L2.CX P w) P w K mg base ["_law_one", "_law_two"] "_law_other_index_holds" (defScope s__law_other_index_holds) T.f__law_other_index_holds cdv A outer s H E) [] (nthS (defBody s__law_other_index_holds) 2) st3__law_other_index_holds :=
  (cs_expr (ce_mthL (C := 1) (pl := _) T.cl_Bench T.me_Bench_add (ok_Bench_add T) (hr.mono (by decide)) (pv 1) (cl_cons ce_int (cl_cons ce_int cl_nil)) ⟨fun _ => rfl, ⟨fun _ => rfl, trivial⟩⟩))
theorem os4__law_other_index_holds (T : Tx K mg) {cdv : Value} {A : Around} {outer : List Env} {s : Shared} {H : Hp} {E : XK} (hr : RoomG 8 (A.deeper (envOfC "_law_other_index_holds" (defScope s__law_other_index_holds) s.heap.objs.size T.f__law_other_index_holds cdv))) : CS T.ca (cxOf (L2.CX P w) P w K mg base ["_law_one", "_law_two"] "_law_other_index_holds" (defScope s__law_other_index_holds) T.f__law_other_index_holds cdv A outer s H E) [] (nthS (ifB (nthS (defBody s__law_other_index_holds) 3)) 0) st4__law_other_index_holds :=
  (cs_ret ce_bl)
theorem os5__law_other_index_holds (T : Tx K mg) {cdv : Value} {A : Around} {outer : List Env} {s : Shared} {H : Hp} {E : XK} (hr : RoomG 8 (A.deeper (envOfC "_law_other_index_holds" (defScope s__law_other_index_holds) s.heap.objs.size T.f__law_other_index_holds cdv))) : CS T.ca (cxOf (L2.CX P w) P w K mg base ["_law_one", "_law_two"] "_law_other_index_holds" (defScope s__law_other_index_holds) T.f__law_other_index_holds cdv A outer s H E) [] (nthS (defBody s__law_other_index_holds) 3) st5__law_other_index_holds :=
  (cs_if (ct_w (cw_or (ct_cmp (ce_cmp (op_neD hr.2.units) os_ne (co_v (ce_mthL (C := 1) (pl := _) T.cl_Bench T.me_Bench_drop (ok_Bench_drop T) (hr.mono (by decide)) (pv 0) (cl_cons ce_int cl_nil) ⟨fun _ => rfl, trivial⟩)) (co_v ce_int) (nomark _))) (cw_or (ct_cmp (ce_cmp (op_neD hr.2.units) os_ne (co_v (ce_mthL (C := 1) (pl := _) T.cl_Bench T.me_Bench_drop (ok_Bench_drop T) (hr.mono (by decide)) (pv 1) (cl_cons ce_int cl_nil) ⟨fun _ => rfl, trivial⟩)) (co_v ce_int) (nomark _))) (cw_or1 (ct_not (ct_cmp (ce_ro (ce_eqIG false rfl (ok_Bench___eq__ T) T.oe_Bench (hr.mono (by decide)) (co_v (ce_fz (en 0))) (co_v (ce_fz (en 1))))))))))) (css_one (os4__law_other_index_holds T hr)) css_nil)
theorem os6__law_other_index_holds (T : Tx K mg) {cdv : Value} {A : Around} {outer : List Env} {s : Shared} {H : Hp} {E : XK} (hr : RoomG 8 (A.deeper (envOfC "_law_other_index_holds" (defScope s__law_other_index_holds) s.heap.objs.size T.f__law_other_index_holds cdv))) : CS T.ca (cxOf (L2.CX P w) P w K mg base ["_law_one", "_law_two"] "_law_other_index_holds" (defScope s__law_other_index_holds) T.f__law_other_index_holds cdv A outer s H E) [] (nthS (ifB (nthS (defBody s__law_other_index_holds) 4)) 0) st6__law_other_index_holds :=
  (cs_ret ce_bl)
theorem os7__law_other_index_holds (T : Tx K mg) {cdv : Value} {A : Around} {outer : List Env} {s : Shared} {H : Hp} {E : XK} (hr : RoomG 8 (A.deeper (envOfC "_law_other_index_holds" (defScope s__law_other_index_holds) s.heap.objs.size T.f__law_other_index_holds cdv))) : CS T.ca (cxOf (L2.CX P w) P w K mg base ["_law_one", "_law_two"] "_law_other_index_holds" (defScope s__law_other_index_holds) T.f__law_other_index_holds cdv A outer s H E) [] (nthS (defBody s__law_other_index_holds) 4) st7__law_other_index_holds :=
  (cs_if (ct_w (cw_or (ct_cmp (ce_neI (ok_Network___eq__ T) T.oe_Network (hr.mono (by decide)) (co_v (ce_fz (ce_mthL (C := 1) (pl := _) T.cl_Bench T.me_Bench_undo (ok_Bench_undo T) (hr.mono (by decide)) (pv 0) (cl_cons ce_int cl_nil) ⟨fun _ => rfl, trivial⟩))) (co_v (ce_fz (ce_mthL (C := 1) (pl := _) T.cl_Bench T.me_Bench_undo (ok_Bench_undo T) (hr.mono (by decide)) (pv 1) (cl_cons ce_int cl_nil) ⟨fun _ => rfl, trivial⟩))))) (cw_or1 (ct_cmp (ce_ro (ce_eqIG true rfl (ok_Bench___eq__ T) T.oe_Bench (hr.mono (by decide)) (co_v (ce_fz (en 0))) (co_v (ce_fz (en 1))))))))) (css_one (os6__law_other_index_holds T hr)) css_nil)
theorem os8__law_other_index_holds (T : Tx K mg) {cdv : Value} {A : Around} {outer : List Env} {s : Shared} {H : Hp} {E : XK} (hr : RoomG 8 (A.deeper (envOfC "_law_other_index_holds" (defScope s__law_other_index_holds) s.heap.objs.size T.f__law_other_index_holds cdv))) : CS T.ca (cxOf (L2.CX P w) P w K mg base ["_law_one", "_law_two"] "_law_other_index_holds" (defScope s__law_other_index_holds) T.f__law_other_index_holds cdv A outer s H E) [] (nthS (defBody s__law_other_index_holds) 5) st8__law_other_index_holds :=
  (cs_expr (ce_mthL (C := 1) (pl := _) T.cl_Bench T.me_Bench_add (ok_Bench_add T) (hr.mono (by decide)) (pv 0) (cl_cons ce_int cl_nil) ⟨fun _ => rfl, trivial⟩))
theorem os9__law_other_index_holds (T : Tx K mg) {cdv : Value} {A : Around} {outer : List Env} {s : Shared} {H : Hp} {E : XK} (hr : RoomG 8 (A.deeper (envOfC "_law_other_index_holds" (defScope s__law_other_index_holds) s.heap.objs.size T.f__law_other_index_holds cdv))) : CS T.ca (cxOf (L2.CX P w) P w K mg base ["_law_one", "_law_two"] "_law_other_index_holds" (defScope s__law_other_index_holds) T.f__law_other_index_holds cdv A outer s H E) [] (nthS (defBody s__law_other_index_holds) 6) st9__law_other_index_holds :=
  (cs_expr (ce_mthL (C := 1) (pl := _) T.cl_Bench T.me_Bench_add (ok_Bench_add T) (hr.mono (by decide)) (pv 0) (cl_cons ce_int (cl_cons ce_int cl_nil)) ⟨fun _ => rfl, ⟨fun _ => rfl, trivial⟩⟩))
theorem os10__law_other_index_holds (T : Tx K mg) {cdv : Value} {A : Around} {outer : List Env} {s : Shared} {H : Hp} {E : XK} (hr : RoomG 8 (A.deeper (envOfC "_law_other_index_holds" (defScope s__law_other_index_holds) s.heap.objs.size T.f__law_other_index_holds cdv))) : CS T.ca (cxOf (L2.CX P w) P w K mg base ["_law_one", "_law_two"] "_law_other_index_holds" (defScope s__law_other_index_holds) T.f__law_other_index_holds cdv A outer s H E) [] (nthS (defBody s__law_other_index_holds) 7) st10__law_other_index_holds :=
  (cs_expr (ce_mthL (C := 1) (pl := _) T.cl_Bench T.me_Bench_add (ok_Bench_add T) (hr.mono (by decide)) (pv 1) (cl_cons ce_int (cl_cons ce_int cl_nil)) ⟨fun _ => rfl, ⟨fun _ => rfl, trivial⟩⟩))
theorem os11__law_other_index_holds (T : Tx K mg) {cdv : Value} {A : Around} {outer : List Env} {s : Shared} {H : Hp} {E : XK} (hr : RoomG 8 (A.deeper (envOfC "_law_other_index_holds" (defScope s__law_other_index_holds) s.heap.objs.size T.f__law_other_index_holds cdv))) : CS T.ca (cxOf (L2.CX P w) P w K mg base ["_law_one", "_law_two"] "_law_other_index_holds" (defScope s__law_other_index_holds) T.f__law_other_index_holds cdv A outer s H E) [] (nthS (defBody s__law_other_index_holds) 8) st11__law_other_index_holds :=
  (cs_expr (ce_mthL (C := 1) (pl := _) T.cl_Bench T.me_Bench_add (ok_Bench_add T) (hr.mono (by decide)) (pv 1) (cl_cons ce_int cl_nil) ⟨fun _ => rfl, trivial⟩))
theorem os12__law_other_index_holds (T : Tx K mg) {cdv : Value} {A : Around} {outer : List Env} {s : Shared} {H : Hp} {E : XK} (hr : RoomG 8 (A.deeper (envOfC "_law_other_index_holds" (defScope s__law_other_index_holds) s.heap.objs.size T.f__law_other_index_holds cdv))) : CS T.ca (cxOf (L2.CX P w) P w K mg base ["_law_one", "_law_two"] "_law_other_index_holds" (defScope s__law_other_index_holds) T.f__law_other_index_holds cdv A outer s H E) [] (nthS (ifB (nthS (defBody s__law_other_index_holds) 9)) 0) st12__law_other_index_holds :=
  (cs_ret ce_bl)
theorem os13__law_other_index_holds (T : Tx K mg) {cdv : Value} {A : Around} {outer : List Env} {s : Shared} {H : Hp} {E : XK} (hr : RoomG 8 (A.deeper (envOfC "_law_other_index_holds" (defScope s__law_other_index_holds) s.heap.objs.size T.f__law_other_index_holds cdv))) : CS T.ca (cxOf (L2.CX P w) P w K mg base ["_law_one", "_law_two"] "_law_other_index_holds" (defScope s__law_other_index_holds) T.f__law_other_index_holds cdv A outer s H E) [] (nthS (defBody s__law_other_index_holds) 9) st13__law_other_index_holds :=
  (cs_if (ct_w (cw_or (ct_cmp (ce_eqIG true rfl (ok_Network___eq__ T) T.oe_Network (hr.mono (by decide)) (co_v (ce_fz (ce_prop (C := 1) T.cl_Bench T.pr_Bench_network (ok_Bench_network T) (hr.2.mono (by decide)) T.B_Bench_network (es 0)))) (co_v (ce_fz (ce_prop (C := 1) T.cl_Bench T.pr_Bench_network (ok_Bench_network T) (hr.2.mono (by decide)) T.B_Bench_network (es 1)))))) (cw_or (ct_cmp (ce_neI (ok_Network___eq__ T) T.oe_Network (hr.mono (by decide)) (co_v (ce_fz (ce_propL (C := 1) T.cl_Bench T.pr_Bench_changes (ok_Bench_changes T) (hr.mono (by decide)) (pv 0)))) (co_v (ce_fz (ce_propL (C := 1) T.cl_Bench T.pr_Bench_changes (ok_Bench_changes T) (hr.mono (by decide)) (pv 1)))))) (cw_or1 (ct_not (ct_val (ce_ro (ce_callR (ok__law_unlike T) (hr.mono (by decide)) (by rfl) T.g__law_unlike T.F__law_unlike.kp (cl_cons (en 0) (cl_cons (en 1) cl_nil)) ⟨fun _ => rfl, ⟨fun _ => rfl, trivial⟩⟩)))))))) (css_one (os12__law_other_index_holds T hr)) css_nil)
theorem os14__law_other_index_holds (T : Tx K mg) {cdv : Value} {A : Around} {outer : List Env} {s : Shared} {H : Hp} {E : XK} (hr : RoomG 8 (A.deeper (envOfC "_law_other_index_holds" (defScope s__law_other_index_holds) s.heap.objs.size T.f__law_other_index_holds cdv))) : CS T.ca (cxOf (L2.CX P w) P w K mg base ["_law_one", "_law_two"] "_law_other_index_holds" (defScope s__law_other_index_holds) T.f__law_other_index_holds cdv A outer s H E) [] (nthS (defBody s__law_other_index_holds) 10) st14__law_other_index_holds :=
  (cs_expr (ce_mthL (C := 1) (pl := _) T.cl_Bench T.me_Bench_undo (ok_Bench_undo T) (hr.mono (by decide)) (pv 0) cl_nil trivial (hpl := fun e r h => by cases h)))
theorem os15__law_other_index_holds (T : Tx K mg) {cdv : Value} {A : Around} {outer : List Env} {s : Shared} {H : Hp} {E : XK} (hr : RoomG 8 (A.deeper (envOfC "_law_other_index_holds" (defScope s__law_other_index_holds) s.heap.objs.size T.f__law_other_index_holds cdv))) : CS T.ca (cxOf (L2.CX P w) P w K mg base ["_law_one", "_law_two"] "_law_other_index_holds" (defScope s__law_other_index_holds) T.f__law_other_index_holds cdv A outer s H E) [] (nthS (defBody s__law_other_index_holds) 11) st15__law_other_index_holds :=
  (cs_expr (ce_mthL (C := 1) (pl := _) T.cl_Bench T.me_Bench_undo (ok_Bench_undo T) (hr.mono (by decide)) (pv 1) cl_nil trivial (hpl := fun e r h => by cases h)))
theorem os16__law_other_index_holds (T : Tx K mg) {cdv : Value} {A : Around} {outer : List Env} {s : Shared} {H : Hp} {E : XK} (hr : RoomG 8 (A.deeper (envOfC "_law_other_index_holds" (defScope s__law_other_index_holds) s.heap.objs.size T.f__law_other_index_holds cdv))) : CS T.ca (cxOf (L2.CX P w) P w K mg base ["_law_one", "_law_two"] "_law_other_index_holds" (defScope s__law_other_index_holds) T.f__law_other_index_holds cdv A outer s H E) [] (nthS (ifB (nthS (defBody s__law_other_index_holds) 12)) 0) st16__law_other_index_holds :=
  (cs_ret ce_bl)
theorem os17__law_other_index_holds (T : Tx K mg) {cdv : Value} {A : Around} {outer : List Env} {s : Shared} {H : Hp} {E : XK} (hr : RoomG 8 (A.deeper (envOfC "_law_other_index_holds" (defScope s__law_other_index_holds) s.heap.objs.size T.f__law_other_index_holds cdv))) : CS T.ca (cxOf (L2.CX P w) P w K mg base ["_law_one", "_law_two"] "_law_other_index_holds" (defScope s__law_other_index_holds) T.f__law_other_index_holds cdv A outer s H E) [] (nthS (defBody s__law_other_index_holds) 12) st17__law_other_index_holds :=
  (cs_if (ct_not (ct_val (ce_ro (ce_callR (ok__law_unlike T) (hr.mono (by decide)) (by rfl) T.g__law_unlike T.F__law_unlike.kp (cl_cons (en 0) (cl_cons (en 1) cl_nil)) ⟨fun _ => rfl, ⟨fun _ => rfl, trivial⟩⟩)))) (css_one (os16__law_other_index_holds T hr)) css_nil)
theorem os18__law_other_index_holds (T : Tx K mg) {cdv : Value} {A : Around} {outer : List Env} {s : Shared} {H : Hp} {E : XK} (hr : RoomG 8 (A.deeper (envOfC "_law_other_index_holds" (defScope s__law_other_index_holds) s.heap.objs.size T.f__law_other_index_holds cdv))) : CS T.ca (cxOf (L2.CX P w) P w K mg base ["_law_one", "_law_two"] "_law_other_index_holds" (defScope s__law_other_index_holds) T.f__law_other_index_holds cdv A outer s H E) [] (nthS (defBody s__law_other_index_holds) 13) st18__law_other_index_holds :=
  (cs_ret (ce_and (ce_eqD (n := 0) false rfl (ok_Network___eq__ T) T.oe_Network (hr.mono (by decide)) (co_v (ce_fz (ce_mthL (C := 1) (pl := _) T.cl_Bench T.me_Bench_undo (ok_Bench_undo T) (hr.mono (by decide)) (pv 0) cl_nil trivial (hpl := fun e r h => by cases h)))) (co_v (ce_fz (ce_mthL (C := 1) (pl := _) T.cl_Bench T.me_Bench_undo (ok_Bench_undo T) (hr.mono (by decide)) (pv 1) cl_nil trivial (hpl := fun e r h => by cases h))))) (ce_ro (ce_eqIG false rfl (ok_Bench___eq__ T) T.oe_Bench (hr.mono (by decide)) (co_v (ce_fz (en 0))) (co_v (ce_fz (en 1)))))))
theorem ok__law_other_index_holds (T : Tx K mg) : FnG P w K mg base (L2.CX P w) 9 T.f__law_other_index_holds (spM T.ca K m__law_other_index_holds) := fn_okG (N := ["_law_one", "_law_two"]) (n := 0) (L := []) (mb := b__law_other_index_holds) T.F__law_other_index_holds T.B__law_other_index_holds sc__law_other_index_holds rfl fun cdv A outer s H E hr =>
  show CSs _ _ _ _ b__law_other_index_holds from (css_cons (os1__law_other_index_holds T hr)
    (css_cons (os2__law_other_index_holds T hr)
    (css_cons (os3__law_other_index_holds T hr)
    (css_cons (os5__law_other_index_holds T hr)
    (css_cons (os7__law_other_index_holds T hr)
    (css_cons (os8__law_other_index_holds T hr)
    (css_cons (os9__law_other_index_holds T hr)
    (css_cons (os10__law_other_index_holds T hr)
    (css_cons (os11__law_other_index_holds T hr)
    (css_cons (os13__law_other_index_holds T hr)
    (css_cons (os14__law_other_index_holds T hr)
    (css_cons (os15__law_other_index_holds T hr)
    (css_cons (os17__law_other_index_holds T hr)
    (css_one (os18__law_other_index_holds T hr)))))))))))))))
theorem os1_law (T : Tx K mg) {cdv : Value} {A : Around} {outer : List Env} {s : Shared} {H : Hp} {E : XK} (hr : RoomG 9 (A.deeper (envOfC "law" (defScope s_law) s.heap.objs.size T.f_law cdv))) : CS T.ca (cxOf (L2.CX P w) P w K mg base ["_law_script", "_law_k", "_law_source_here", "_law_width", "_law_changes", "_law_steps_here", "_law_turn", "_law_change_here", "_law_one", "_law_two", "_law_twin", "_law_state_here", "_law_other"] "law" (defScope s_law) T.f_law cdv A outer s H E) [0] (nthS (forB (nthS (defBody s_law) 0)) 0) st1_law :=
  (cs_set 2 sc_law.nd (ce_callR (ok__law_source T) (hr.mono (by decide)) (by rfl) T.g__law_source T.F__law_source.kp (cl_cons (en 0) (cl_cons (en 1) cl_nil)) ⟨fun _ => rfl, ⟨fun _ => rfl, trivial⟩⟩))
theorem os2_law (T : Tx K mg) {cdv : Value} {A : Around} {outer : List Env} {s : Shared} {H : Hp} {E : XK} (hr : RoomG 9 (A.deeper (envOfC "law" (defScope s_law) s.heap.objs.size T.f_law cdv))) : CS T.ca (cxOf (L2.CX P w) P w K mg base ["_law_script", "_law_k", "_law_source_here", "_law_width", "_law_changes", "_law_steps_here", "_law_turn", "_law_change_here", "_law_one", "_law_two", "_law_twin", "_law_state_here", "_law_other"] "law" (defScope s_law) T.f_law cdv A outer s H E) [0] (nthS (forB (nthS (defBody s_law) 0)) 1) st2_law :=
  (cs_set 3 sc_law.nd (ce_bin op_addA os_add (co_v ce_int) (co_v (ce_callLG _ _ _ (ok__law_draw T) (hr.mono (by decide)) (by rfl) T.g__law_draw T.F__law_draw.kp cl_nil (pv 2) (cl_cons ce_int cl_nil) rfl ⟨fun _ => rfl, ⟨fun _ => rfl, trivial⟩⟩))))
theorem os3_law (T : Tx K mg) {cdv : Value} {A : Around} {outer : List Env} {s : Shared} {H : Hp} {E : XK} (hr : RoomG 9 (A.deeper (envOfC "law" (defScope s_law) s.heap.objs.size T.f_law cdv))) : CS T.ca (cxOf (L2.CX P w) P w K mg base ["_law_script", "_law_k", "_law_source_here", "_law_width", "_law_changes", "_law_steps_here", "_law_turn", "_law_change_here", "_law_one", "_law_two", "_law_twin", "_law_state_here", "_law_other"] "law" (defScope s_law) T.f_law cdv A outer s H E) [0] (nthS (forB (nthS (defBody s_law) 0)) 2) st3_law :=
  (cs_par (i := 4) (j := 5) rfl sc_law.nd rfl rfl (by decide) rfl rfl (by decide) (by decide) (cl_cons (ce_lst cl_nil trivial) (cl_cons (ce_lst cl_nil trivial) cl_nil)) ⟨fun _ => rfl, ⟨fun _ => rfl, trivial⟩⟩ (by rfl))
theorem os4_law (T : Tx K mg) {cdv : Value} {A : Around} {outer : List Env} {s : Shared} {H : Hp} {E : XK} (hr : RoomG 9 (A.deeper (envOfC "law" (defScope s_law) s.heap.objs.size T.f_law cdv))) : CS T.ca (cxOf (L2.CX P w) P w K mg base ["_law_script", "_law_k", "_law_source_here", "_law_width", "_law_changes", "_law_steps_here", "_law_turn", "_law_change_here", "_law_one", "_law_two", "_law_twin", "_law_state_here", "_law_other"] "law" (defScope s_law) T.f_law cdv A outer s H E) [0] (nthS (forB (nthS (forB (nthS (defBody s_law) 0)) 3)) 0) st4_law :=
  (cs_set 7 sc_law.nd (ce_callLG _ _ _ (ok__law_change T) (hr.mono (by decide)) (by rfl) T.g__law_change T.F__law_change.kp cl_nil (pv 2) (cl_cons (en 3) (cl_cons (en 5) cl_nil)) rfl ⟨fun _ => rfl, ⟨fun _ => rfl, ⟨fun _ => rfl, trivial⟩⟩⟩))
theorem os5_law (T : Tx K mg) {cdv : Value} {A : Around} {outer : List Env} {s : Shared} {H : Hp} {E : XK} (hr : RoomG 9 (A.deeper (envOfC "law" (defScope s_law) s.heap.objs.size T.f_law cdv))) : CS T.ca (cxOf (L2.CX P w) P w K mg base ["_law_script", "_law_k", "_law_source_here", "_law_width", "_law_changes", "_law_steps_here", "_law_turn", "_law_change_here", "_law_one", "_law_two", "_law_twin", "_law_state_here", "_law_other"] "law" (defScope s_law) T.f_law cdv A outer s H E) [0] (nthS (forB (nthS (forB (nthS (defBody s_law) 0)) 3)) 1) st5_law :=
  (cs_par (i := 4) (j := 5) rfl sc_law.nd rfl rfl (by decide) rfl rfl (by decide) (by decide) (cl_cons (ce_bin op_addA os_add (es 4) (co_v (ce_lst (cl_cons (en 7) cl_nil) ⟨fun _ => rfl, trivial⟩))) (cl_cons (ce_callR (ok__law_new_steps T) (hr.mono (by decide)) (by rfl) T.g__law_new_steps T.F__law_new_steps.kp (cl_cons (en 3) (cl_cons (en 5) (cl_cons (en 7) cl_nil))) ⟨fun _ => rfl, ⟨fun _ => rfl, ⟨fun _ => rfl, trivial⟩⟩⟩) cl_nil)) ⟨fun _ => rfl, ⟨fun _ => rfl, trivial⟩⟩ (by rfl))
theorem os7_law (T : Tx K mg) {cdv : Value} {A : Around} {outer : List Env} {s : Shared} {H : Hp} {E : XK} (hr : RoomG 9 (A.deeper (envOfC "law" (defScope s_law) s.heap.objs.size T.f_law cdv))) : CS T.ca (cxOf (L2.CX P w) P w K mg base ["_law_script", "_law_k", "_law_source_here", "_law_width", "_law_changes", "_law_steps_here", "_law_turn", "_law_change_here", "_law_one", "_law_two", "_law_twin", "_law_state_here", "_law_other"] "law" (defScope s_law) T.f_law cdv A outer s H E) [0] (nthS (forB (nthS (defBody s_law) 0)) 3) (sFor (iR1 (eCallL m__law_draw aNil 2 (aCons (eC (.int 8)) aNil))) fg6_law fb6_law) :=
  (cs_for (ci_range1 (by rfl) T.z_range (ce_callLG _ _ _ (ok__law_draw T) (hr.mono (by decide)) (by rfl) T.g__law_draw T.F__law_draw.kp cl_nil (pv 2) (cl_cons ce_int cl_nil) rfl ⟨fun _ => rfl, ⟨fun _ => rfl, trivial⟩⟩)) (gn 6 sc_law.nd) (css_cons (os4_law T hr)
    (css_one (os5_law T hr))) (passes_of rfl) rfl)
theorem os8_law (T : Tx K mg) {cdv : Value} {A : Around} {outer : List Env} {s : Shared} {H : Hp} {E : XK} (hr : RoomG 9 (A.deeper (envOfC "law" (defScope s_law) s.heap.objs.size T.f_law cdv))) : CS T.ca (cxOf (L2.CX P w) P w K mg base ["_law_script", "_law_k", "_law_source_here", "_law_width", "_law_changes", "_law_steps_here", "_law_turn", "_law_change_here", "_law_one", "_law_two", "_law_twin", "_law_state_here", "_law_other"] "law" (defScope s_law) T.f_law cdv A outer s H E) [0] (nthS (forB (nthS (defBody s_law) 0)) 4) st8_law :=
  (cs_par (i := 8) (j := 9) rfl sc_law.nd rfl rfl (by decide) rfl rfl (by decide) (by decide) (cl_cons (ce_callR (ok__law_made T) (hr.mono (by decide)) (by rfl) T.g__law_made T.F__law_made.kp (cl_cons (en 3) (cl_cons (en 4) cl_nil)) ⟨fun _ => rfl, ⟨fun _ => rfl, trivial⟩⟩) (cl_cons (ce_callR (ok__law_made T) (hr.mono (by decide)) (by rfl) T.g__law_made T.F__law_made.kp (cl_cons (en 3) (cl_cons (en 4) cl_nil)) ⟨fun _ => rfl, ⟨fun _ => rfl, trivial⟩⟩) cl_nil)) ⟨fun _ => rfl, ⟨fun _ => rfl, trivial⟩⟩ (by rfl))
theorem os9_law (T : Tx K mg) {cdv : Value} {A : Around} {outer : List Env} {s : Shared} {H : Hp} {E : XK} (hr : RoomG 9 (A.deeper (envOfC "law" (defScope s_law) s.heap.objs.size T.f_law cdv))) : CS T.ca (cxOf (L2.CX P w) P w K mg base ["_law_script", "_law_k", "_law_source_here", "_law_width", "_law_changes", "_law_steps_here", "_law_turn", "_law_change_here", "_law_one", "_law_two", "_law_twin", "_law_state_here", "_law_other"] "law" (defScope s_law) T.f_law cdv A outer s H E) [0] (nthS (forB (nthS (defBody s_law) 0)) 5) st9_law :=
  (cs_set 10 sc_law.nd (ce_mthL (C := 1) (pl := _) T.cl_Bench T.me_Bench_copy (ok_Bench_copy T) (hr.mono (by decide)) (pv 8) cl_nil trivial (hpl := fun e r h => by cases h)))
theorem os10_law (T : Tx K mg) {cdv : Value} {A : Around} {outer : List Env} {s : Shared} {H : Hp} {E : XK} (hr : RoomG 9 (A.deeper (envOfC "law" (defScope s_law) s.heap.objs.size T.f_law cdv))) : CS T.ca (cxOf (L2.CX P w) P w K mg base ["_law_script", "_law_k", "_law_source_here", "_law_width", "_law_changes", "_law_steps_here", "_law_turn", "_law_change_here", "_law_one", "_law_two", "_law_twin", "_law_state_here", "_law_other"] "law" (defScope s_law) T.f_law cdv A outer s H E) [0] (nthS (ifB (nthS (forB (nthS (defBody s_law) 0)) 6)) 0) st10_law :=
  (cs_ret ce_bl)
theorem os11_law (T : Tx K mg) {cdv : Value} {A : Around} {outer : List Env} {s : Shared} {H : Hp} {E : XK} (hr : RoomG 9 (A.deeper (envOfC "law" (defScope s_law) s.heap.objs.size T.f_law cdv))) : CS T.ca (cxOf (L2.CX P w) P w K mg base ["_law_script", "_law_k", "_law_source_here", "_law_width", "_law_changes", "_law_steps_here", "_law_turn", "_law_change_here", "_law_one", "_law_two", "_law_twin", "_law_state_here", "_law_other"] "law" (defScope s_law) T.f_law cdv A outer s H E) [0] (nthS (forB (nthS (defBody s_law) 0)) 6) st11_law :=
  (cs_if (ct_w (cw_or (ct_not (ct_cmp (ce_ro (ce_eqIG false rfl (ok_Bench___eq__ T) T.oe_Bench (hr.mono (by decide)) (co_v (ce_fz (en 8))) (co_v (ce_fz (en 9))))))) (cw_or (ct_cmp (ce_ro (ce_eqIG true rfl (ok_Bench___eq__ T) T.oe_Bench (hr.mono (by decide)) (co_v (ce_fz (en 8))) (co_v (ce_fz (en 10)))))) (cw_or (ct_cmp (ce_ro (ce_eqJ (C := 1) (C2 := 0) false rfl (ok_Bench___eq__ T) T.oe_Bench T.sb_Network_Bench (hr.mono (by decide)) (co_v (ce_fz (en 8))) (co_v (ce_fz (ce_prop (C := 1) T.cl_Bench T.pr_Bench_network (ok_Bench_network T) (hr.2.mono (by decide)) T.B_Bench_network (es 8))))))) (cw_or1 (ct_cmp (ce_ro (ce_eqX (ok_Bench___eq__ T) T.oe_Bench (hr.mono (by decide)) T.nfi_Bench (co_v (ce_fz (en 8))) (co_v (ce_fz (ce_reprI (ok_Bench___repr__ T) T.me_Bench___repr__ (hr.mono (by decide)) hr (by rfl) T.z_repr bt_repr (co_v (ce_fz (en 8)))))))))))))) (css_one (os10_law T hr)) css_nil)
theorem os12_law (T : Tx K mg) {cdv : Value} {A : Around} {outer : List Env} {s : Shared} {H : Hp} {E : XK} (hr : RoomG 9 (A.deeper (envOfC "law" (defScope s_law) s.heap.objs.size T.f_law cdv))) : CS T.ca (cxOf (L2.CX P w) P w K mg base ["_law_script", "_law_k", "_law_source_here", "_law_width", "_law_changes", "_law_steps_here", "_law_turn", "_law_change_here", "_law_one", "_law_two", "_law_twin", "_law_state_here", "_law_other"] "law" (defScope s_law) T.f_law cdv A outer s H E) [0] (nthS (forB (nthS (defBody s_law) 0)) 7) st12_law :=
  (cs_set 11 sc_law.nd (ce_callLG _ _ _ (ok__law_state T) (hr.mono (by decide)) (by rfl) T.g__law_state T.F__law_state.kp cl_nil (pv 8) cl_nil rfl ⟨fun _ => rfl, trivial⟩))
theorem os13_law (T : Tx K mg) {cdv : Value} {A : Around} {outer : List Env} {s : Shared} {H : Hp} {E : XK} (hr : RoomG 9 (A.deeper (envOfC "law" (defScope s_law) s.heap.objs.size T.f_law cdv))) : CS T.ca (cxOf (L2.CX P w) P w K mg base ["_law_script", "_law_k", "_law_source_here", "_law_width", "_law_changes", "_law_steps_here", "_law_turn", "_law_change_here", "_law_one", "_law_two", "_law_twin", "_law_state_here", "_law_other"] "law" (defScope s_law) T.f_law cdv A outer s H E) [0] (nthS (forB (nthS (defBody s_law) 0)) 8) st13_law :=
  (cs_expr (ce_mthL (C := 1) (pl := _) T.cl_Bench T.me_Bench_add (ok_Bench_add T) (hr.mono (by decide)) (pv 10) (cl_cons ce_int cl_nil) ⟨fun _ => rfl, trivial⟩))
theorem os14_law (T : Tx K mg) {cdv : Value} {A : Around} {outer : List Env} {s : Shared} {H : Hp} {E : XK} (hr : RoomG 9 (A.deeper (envOfC "law" (defScope s_law) s.heap.objs.size T.f_law cdv))) : CS T.ca (cxOf (L2.CX P w) P w K mg base ["_law_script", "_law_k", "_law_source_here", "_law_width", "_law_changes", "_law_steps_here", "_law_turn", "_law_change_here", "_law_one", "_law_two", "_law_twin", "_law_state_here", "_law_other"] "law" (defScope s_law) T.f_law cdv A outer s H E) [0] (nthS (ifB (nthS (forB (nthS (defBody s_law) 0)) 9)) 0) st14_law :=
  (cs_ret ce_bl)
theorem os15_law (T : Tx K mg) {cdv : Value} {A : Around} {outer : List Env} {s : Shared} {H : Hp} {E : XK} (hr : RoomG 9 (A.deeper (envOfC "law" (defScope s_law) s.heap.objs.size T.f_law cdv))) : CS T.ca (cxOf (L2.CX P w) P w K mg base ["_law_script", "_law_k", "_law_source_here", "_law_width", "_law_changes", "_law_steps_here", "_law_turn", "_law_change_here", "_law_one", "_law_two", "_law_twin", "_law_state_here", "_law_other"] "law" (defScope s_law) T.f_law cdv A outer s H E) [0] (nthS (forB (nthS (defBody s_law) 0)) 9) st15_law :=
  (cs_if (ct_w (cw_or (ct_not (ct_val (ce_ro (ce_callR (ok__law_unlike T) (hr.mono (by decide)) (by rfl) T.g__law_unlike T.F__law_unlike.kp (cl_cons (en 8) (cl_cons (en 10) cl_nil)) ⟨fun _ => rfl, ⟨fun _ => rfl, trivial⟩⟩)))) (cw_or1 (ct_cmp (ce_neI (ok_Network___eq__ T) T.oe_Network (hr.mono (by decide)) (co_v (ce_fz (ce_callLG _ _ _ (ok__law_state T) (hr.mono (by decide)) (by rfl) T.g__law_state T.F__law_state.kp cl_nil (pv 8) cl_nil rfl ⟨fun _ => rfl, trivial⟩))) (co_v (ce_fz (en 11)))))))) (css_one (os14_law T hr)) css_nil)
theorem os16_law (T : Tx K mg) {cdv : Value} {A : Around} {outer : List Env} {s : Shared} {H : Hp} {E : XK} (hr : RoomG 9 (A.deeper (envOfC "law" (defScope s_law) s.heap.objs.size T.f_law cdv))) : CS T.ca (cxOf (L2.CX P w) P w K mg base ["_law_script", "_law_k", "_law_source_here", "_law_width", "_law_changes", "_law_steps_here", "_law_turn", "_law_change_here", "_law_one", "_law_two", "_law_twin", "_law_state_here", "_law_other"] "law" (defScope s_law) T.f_law cdv A outer s H E) [0] (nthS (ifB (nthS (forB (nthS (defBody s_law) 0)) 10)) 0) st16_law :=
  (cs_ret ce_bl)
theorem os17_law (T : Tx K mg) {cdv : Value} {A : Around} {outer : List Env} {s : Shared} {H : Hp} {E : XK} (hr : RoomG 9 (A.deeper (envOfC "law" (defScope s_law) s.heap.objs.size T.f_law cdv))) : CS T.ca (cxOf (L2.CX P w) P w K mg base ["_law_script", "_law_k", "_law_source_here", "_law_width", "_law_changes", "_law_steps_here", "_law_turn", "_law_change_here", "_law_one", "_law_two", "_law_twin", "_law_state_here", "_law_other"] "law" (defScope s_law) T.f_law cdv A outer s H E) [0] (nthS (forB (nthS (defBody s_law) 0)) 10) st17_law :=
  (cs_if (ct_w (cw_or (ct_cmp (ce_neI (ok_Network___eq__ T) T.oe_Network (hr.mono (by decide)) (co_v (ce_fz (ce_mthL (C := 1) (pl := _) T.cl_Bench T.me_Bench_undo (ok_Bench_undo T) (hr.mono (by decide)) (pv 10) cl_nil trivial (hpl := fun e r h => by cases h)))) (co_v (ce_fz (ce_lst (cl_cons ce_str cl_nil) ⟨fun _ => rfl, trivial⟩))))) (cw_or1 (ct_not (ct_cmp (ce_ro (ce_eqIG false rfl (ok_Bench___eq__ T) T.oe_Bench (hr.mono (by decide)) (co_v (ce_fz (en 8))) (co_v (ce_fz (en 10)))))))))) (css_one (os16_law T hr)) css_nil)
theorem os18_law (T : Tx K mg) {cdv : Value} {A : Around} {outer : List Env} {s : Shared} {H : Hp} {E : XK} (hr : RoomG 9 (A.deeper (envOfC "law" (defScope s_law) s.heap.objs.size T.f_law cdv))) : CS T.ca (cxOf (L2.CX P w) P w K mg base ["_law_script", "_law_k", "_law_source_here", "_law_width", "_law_changes", "_law_steps_here", "_law_turn", "_law_change_here", "_law_one", "_law_two", "_law_twin", "_law_state_here", "_law_other"] "law" (defScope s_law) T.f_law cdv A outer s H E) [0] (nthS (forB (nthS (defBody s_law) 0)) 11) st18_law :=
  (cs_expr (ce_mthL (C := 1) (pl := _) T.cl_Bench T.me_Bench_add (ok_Bench_add T) (hr.mono (by decide)) (pv 8) (cl_cons ce_int (cl_cons ce_int cl_nil)) ⟨fun _ => rfl, ⟨fun _ => rfl, trivial⟩⟩))
theorem os19_law (T : Tx K mg) {cdv : Value} {A : Around} {outer : List Env} {s : Shared} {H : Hp} {E : XK} (hr : RoomG 9 (A.deeper (envOfC "law" (defScope s_law) s.heap.objs.size T.f_law cdv))) : CS T.ca (cxOf (L2.CX P w) P w K mg base ["_law_script", "_law_k", "_law_source_here", "_law_width", "_law_changes", "_law_steps_here", "_law_turn", "_law_change_here", "_law_one", "_law_two", "_law_twin", "_law_state_here", "_law_other"] "law" (defScope s_law) T.f_law cdv A outer s H E) [0] (nthS (forB (nthS (defBody s_law) 0)) 12) st19_law :=
  (cs_expr (ce_mthL (C := 1) (pl := _) T.cl_Bench T.me_Bench_add (ok_Bench_add T) (hr.mono (by decide)) (pv 9) (cl_cons ce_int cl_nil) ⟨fun _ => rfl, trivial⟩))
theorem os20_law (T : Tx K mg) {cdv : Value} {A : Around} {outer : List Env} {s : Shared} {H : Hp} {E : XK} (hr : RoomG 9 (A.deeper (envOfC "law" (defScope s_law) s.heap.objs.size T.f_law cdv))) : CS T.ca (cxOf (L2.CX P w) P w K mg base ["_law_script", "_law_k", "_law_source_here", "_law_width", "_law_changes", "_law_steps_here", "_law_turn", "_law_change_here", "_law_one", "_law_two", "_law_twin", "_law_state_here", "_law_other"] "law" (defScope s_law) T.f_law cdv A outer s H E) [0] (nthS (ifB (nthS (forB (nthS (defBody s_law) 0)) 13)) 0) st20_law :=
  (cs_ret ce_bl)
theorem os21_law (T : Tx K mg) {cdv : Value} {A : Around} {outer : List Env} {s : Shared} {H : Hp} {E : XK} (hr : RoomG 9 (A.deeper (envOfC "law" (defScope s_law) s.heap.objs.size T.f_law cdv))) : CS T.ca (cxOf (L2.CX P w) P w K mg base ["_law_script", "_law_k", "_law_source_here", "_law_width", "_law_changes", "_law_steps_here", "_law_turn", "_law_change_here", "_law_one", "_law_two", "_law_twin", "_law_state_here", "_law_other"] "law" (defScope s_law) T.f_law cdv A outer s H E) [0] (nthS (forB (nthS (defBody s_law) 0)) 13) st21_law :=
  (cs_if (ct_w (cw_or (ct_cmp (ce_neI (ok_Network___eq__ T) T.oe_Network (hr.mono (by decide)) (co_v (ce_fz (ce_callLG _ _ _ (ok__law_state T) (hr.mono (by decide)) (by rfl) T.g__law_state T.F__law_state.kp cl_nil (pv 10) cl_nil rfl ⟨fun _ => rfl, trivial⟩))) (co_v (ce_fz (en 11))))) (cw_or (ct_not (ct_val (ce_ro (ce_callR (ok__law_unlike T) (hr.mono (by decide)) (by rfl) T.g__law_unlike T.F__law_unlike.kp (cl_cons (en 8) (cl_cons (en 9) cl_nil)) ⟨fun _ => rfl, ⟨fun _ => rfl, trivial⟩⟩)))) (cw_or1 (ct_not (ct_val (ce_ro (ce_callR (ok__law_unlike T) (hr.mono (by decide)) (by rfl) T.g__law_unlike T.F__law_unlike.kp (cl_cons (en 8) (cl_cons (en 10) cl_nil)) ⟨fun _ => rfl, ⟨fun _ => rfl, trivial⟩⟩)))))))) (css_one (os20_law T hr)) css_nil)
theorem os22_law (T : Tx K mg) {cdv : Value} {A : Around} {outer : List Env} {s : Shared} {H : Hp} {E : XK} (hr : RoomG 9 (A.deeper (envOfC "law" (defScope s_law) s.heap.objs.size T.f_law cdv))) : CS T.ca (cxOf (L2.CX P w) P w K mg base ["_law_script", "_law_k", "_law_source_here", "_law_width", "_law_changes", "_law_steps_here", "_law_turn", "_law_change_here", "_law_one", "_law_two", "_law_twin", "_law_state_here", "_law_other"] "law" (defScope s_law) T.f_law cdv A outer s H E) [0] (nthS (forB (nthS (defBody s_law) 0)) 14) st22_law :=
  (cs_expr (ce_mthL (C := 1) (pl := _) T.cl_Bench T.me_Bench_place (ok_Bench_place T) (hr.mono (by decide)) (pv 9) (cl_cons ce_int (cl_cons ce_int cl_nil)) ⟨fun _ => rfl, ⟨fun _ => rfl, trivial⟩⟩))
theorem os23_law (T : Tx K mg) {cdv : Value} {A : Around} {outer : List Env} {s : Shared} {H : Hp} {E : XK} (hr : RoomG 9 (A.deeper (envOfC "law" (defScope s_law) s.heap.objs.size T.f_law cdv))) : CS T.ca (cxOf (L2.CX P w) P w K mg base ["_law_script", "_law_k", "_law_source_here", "_law_width", "_law_changes", "_law_steps_here", "_law_turn", "_law_change_here", "_law_one", "_law_two", "_law_twin", "_law_state_here", "_law_other"] "law" (defScope s_law) T.f_law cdv A outer s H E) [0] (nthS (forB (nthS (defBody s_law) 0)) 15) st23_law :=
  (cs_expr (ce_mthL (C := 1) (pl := _) T.cl_Bench T.me_Bench_undo (ok_Bench_undo T) (hr.mono (by decide)) (pv 8) cl_nil trivial (hpl := fun e r h => by cases h)))
theorem os24_law (T : Tx K mg) {cdv : Value} {A : Around} {outer : List Env} {s : Shared} {H : Hp} {E : XK} (hr : RoomG 9 (A.deeper (envOfC "law" (defScope s_law) s.heap.objs.size T.f_law cdv))) : CS T.ca (cxOf (L2.CX P w) P w K mg base ["_law_script", "_law_k", "_law_source_here", "_law_width", "_law_changes", "_law_steps_here", "_law_turn", "_law_change_here", "_law_one", "_law_two", "_law_twin", "_law_state_here", "_law_other"] "law" (defScope s_law) T.f_law cdv A outer s H E) [0] (nthS (forB (nthS (defBody s_law) 0)) 16) st24_law :=
  (cs_expr (ce_mthL (C := 1) (pl := _) T.cl_Bench T.me_Bench_place (ok_Bench_place T) (hr.mono (by decide)) (pv 8) (cl_cons ce_int (cl_cons ce_int cl_nil)) ⟨fun _ => rfl, ⟨fun _ => rfl, trivial⟩⟩))
theorem os25_law (T : Tx K mg) {cdv : Value} {A : Around} {outer : List Env} {s : Shared} {H : Hp} {E : XK} (hr : RoomG 9 (A.deeper (envOfC "law" (defScope s_law) s.heap.objs.size T.f_law cdv))) : CS T.ca (cxOf (L2.CX P w) P w K mg base ["_law_script", "_law_k", "_law_source_here", "_law_width", "_law_changes", "_law_steps_here", "_law_turn", "_law_change_here", "_law_one", "_law_two", "_law_twin", "_law_state_here", "_law_other"] "law" (defScope s_law) T.f_law cdv A outer s H E) [0] (nthS (forB (nthS (defBody s_law) 0)) 17) st25_law :=
  (cs_expr (ce_mthL (C := 1) (pl := _) T.cl_Bench T.me_Bench_add (ok_Bench_add T) (hr.mono (by decide)) (pv 8) (cl_cons ce_int cl_nil) ⟨fun _ => rfl, trivial⟩))
theorem os26_law (T : Tx K mg) {cdv : Value} {A : Around} {outer : List Env} {s : Shared} {H : Hp} {E : XK} (hr : RoomG 9 (A.deeper (envOfC "law" (defScope s_law) s.heap.objs.size T.f_law cdv))) : CS T.ca (cxOf (L2.CX P w) P w K mg base ["_law_script", "_law_k", "_law_source_here", "_law_width", "_law_changes", "_law_steps_here", "_law_turn", "_law_change_here", "_law_one", "_law_two", "_law_twin", "_law_state_here", "_law_other"] "law" (defScope s_law) T.f_law cdv A outer s H E) [0] (nthS (ifB (nthS (forB (nthS (defBody s_law) 0)) 18)) 0) st26_law :=
  (cs_ret ce_bl)
theorem os27_law (T : Tx K mg) {cdv : Value} {A : Around} {outer : List Env} {s : Shared} {H : Hp} {E : XK} (hr : RoomG 9 (A.deeper (envOfC "law" (defScope s_law) s.heap.objs.size T.f_law cdv))) : CS T.ca (cxOf (L2.CX P w) P w K mg base ["_law_script", "_law_k", "_law_source_here", "_law_width", "_law_changes", "_law_steps_here", "_law_turn", "_law_change_here", "_law_one", "_law_two", "_law_twin", "_law_state_here", "_law_other"] "law" (defScope s_law) T.f_law cdv A outer s H E) [0] (nthS (forB (nthS (defBody s_law) 0)) 18) st27_law :=
  (cs_if (ct_w (cw_and (ct_cmp (ce_eqIG false rfl (ok_Network___eq__ T) T.oe_Network (hr.mono (by decide)) (co_v (ce_fz (ce_prop (C := 1) T.cl_Bench T.pr_Bench_network (ok_Bench_network T) (hr.2.mono (by decide)) T.B_Bench_network (es 8)))) (co_v (ce_fz (ce_prop (C := 1) T.cl_Bench T.pr_Bench_network (ok_Bench_network T) (hr.2.mono (by decide)) T.B_Bench_network (es 9)))))) (cw_and1 (ct_not (ct_val (ce_ro (ce_callR (ok__law_unlike T) (hr.mono (by decide)) (by rfl) T.g__law_unlike T.F__law_unlike.kp (cl_cons (en 8) (cl_cons (en 9) cl_nil)) ⟨fun _ => rfl, ⟨fun _ => rfl, trivial⟩⟩))))))) (css_one (os26_law T hr)) css_nil)
theorem os28_law (T : Tx K mg) {cdv : Value} {A : Around} {outer : List Env} {s : Shared} {H : Hp} {E : XK} (hr : RoomG 9 (A.deeper (envOfC "law" (defScope s_law) s.heap.objs.size T.f_law cdv))) : CS T.ca (cxOf (L2.CX P w) P w K mg base ["_law_script", "_law_k", "_law_source_here", "_law_width", "_law_changes", "_law_steps_here", "_law_turn", "_law_change_here", "_law_one", "_law_two", "_law_twin", "_law_state_here", "_law_other"] "law" (defScope s_law) T.f_law cdv A outer s H E) [0] (nthS (forB (nthS (defBody s_law) 0)) 19) st28_law :=
  (cs_set 12 sc_law.nd (ce_callR (ok__law_made T) (hr.mono (by decide)) (by rfl) T.g__law_made T.F__law_made.kp (cl_cons (en 3) (cl_cons (en 4) cl_nil)) ⟨fun _ => rfl, ⟨fun _ => rfl, trivial⟩⟩))
theorem os29_law (T : Tx K mg) {cdv : Value} {A : Around} {outer : List Env} {s : Shared} {H : Hp} {E : XK} (hr : RoomG 9 (A.deeper (envOfC "law" (defScope s_law) s.heap.objs.size T.f_law cdv))) : CS T.ca (cxOf (L2.CX P w) P w K mg base ["_law_script", "_law_k", "_law_source_here", "_law_width", "_law_changes", "_law_steps_here", "_law_turn", "_law_change_here", "_law_one", "_law_two", "_law_twin", "_law_state_here", "_law_other"] "law" (defScope s_law) T.f_law cdv A outer s H E) [0] (nthS (forB (nthS (defBody s_law) 0)) 20) st29_law :=
  (cs_expr (ce_mthL (C := 1) (pl := _) T.cl_Bench T.me_Bench_add (ok_Bench_add T) (hr.mono (by decide)) (pv 12) cl_nil trivial (hpl := fun e r h => by cases h)))
theorem os30_law (T : Tx K mg) {cdv : Value} {A : Around} {outer : List Env} {s : Shared} {H : Hp} {E : XK} (hr : RoomG 9 (A.deeper (envOfC "law" (defScope s_law) s.heap.objs.size T.f_law cdv))) : CS T.ca (cxOf (L2.CX P w) P w K mg base ["_law_script", "_law_k", "_law_source_here", "_law_width", "_law_changes", "_law_steps_here", "_law_turn", "_law_change_here", "_law_one", "_law_two", "_law_twin", "_law_state_here", "_law_other"] "law" (defScope s_law) T.f_law cdv A outer s H E) [0] (nthS (ifB (nthS (forB (nthS (defBody s_law) 0)) 21)) 0) st30_law :=
  (cs_ret ce_bl)
theorem os31_law (T : Tx K mg) {cdv : Value} {A : Around} {outer : List Env} {s : Shared} {H : Hp} {E : XK} (hr : RoomG 9 (A.deeper (envOfC "law" (defScope s_law) s.heap.objs.size T.f_law cdv))) : CS T.ca (cxOf (L2.CX P w) P w K mg base ["_law_script", "_law_k", "_law_source_here", "_law_width", "_law_changes", "_law_steps_here", "_law_turn", "_law_change_here", "_law_one", "_law_two", "_law_twin", "_law_state_here", "_law_other"] "law" (defScope s_law) T.f_law cdv A outer s H E) [0] (nthS (forB (nthS (defBody s_law) 0)) 21) st31_law :=
  (cs_if (ct_w (cw_or (ct_not (ct_val (ce_ro (ce_callR (ok__law_unlike T) (hr.mono (by decide)) (by rfl) T.g__law_unlike T.F__law_unlike.kp (cl_cons (en 12) (cl_cons (en 10) cl_nil)) ⟨fun _ => rfl, ⟨fun _ => rfl, trivial⟩⟩)))) (cw_or (ct_cmp (ce_neI (ok_Network___eq__ T) T.oe_Network (hr.mono (by decide)) (co_v (ce_fz (ce_mthL (C := 1) (pl := _) T.cl_Bench T.me_Bench_undo (ok_Bench_undo T) (hr.mono (by decide)) (pv 12) cl_nil trivial (hpl := fun e r h => by cases h)))) (co_v (ce_fz (ce_lst (cl_cons ce_str cl_nil) ⟨fun _ => rfl, trivial⟩))))) (cw_or1 (ct_not (ct_cmp (ce_ro (ce_eqIG false rfl (ok_Bench___eq__ T) T.oe_Bench (hr.mono (by decide)) (co_v (ce_fz (en 12))) (co_v (ce_fz (en 10))))))))))) (css_one (os30_law T hr)) css_nil)
theorem os33_law (T : Tx K mg) {cdv : Value} {A : Around} {outer : List Env} {s : Shared} {H : Hp} {E : XK} (hr : RoomG 9 (A.deeper (envOfC "law" (defScope s_law) s.heap.objs.size T.f_law cdv))) : CS T.ca (cxOf (L2.CX P w) P w K mg base ["_law_script", "_law_k", "_law_source_here", "_law_width", "_law_changes", "_law_steps_here", "_law_turn", "_law_change_here", "_law_one", "_law_two", "_law_twin", "_law_state_here", "_law_other"] "law" (defScope s_law) T.f_law cdv A outer s H E) [0] (nthS (defBody s_law) 0) (sFor (iR1 (eOp oMax2 [.v (eC (.int 1)), .v (eOp oMin2 [.v (eOp oLen [.s 0]), .v (eC (.int 6))])])) fg32_law fb32_law) :=
  (cs_for (ci_range1 (by rfl) T.z_range (ce_callB (call_max2 rfl) (by rfl) T.z_max bt_max os_max2 (.cons (co_v ce_int) (.cons (co_v (ce_callB (call_min2 rfl) (by rfl) T.z_min bt_min os_min2 (.cons (co_v (ce_callB call_len_seq (by rfl) T.z_len bt_len os_len (.cons (es 0) .nil) (hst := ⟨fun _ => rfl, trivial⟩))) (.cons (co_v ce_int) .nil)) (hst := ⟨fun _ => rfl, ⟨fun _ => rfl, trivial⟩⟩))) .nil)) (hst := ⟨fun _ => rfl, ⟨fun _ => rfl, trivial⟩⟩))) (gn 1 sc_law.nd) (css_cons (os1_law T hr)
    (css_cons (os2_law T hr)
    (css_cons (os3_law T hr)
    (css_cons (os7_law T hr)
    (css_cons (os8_law T hr)
    (css_cons (os9_law T hr)
    (css_cons (os11_law T hr)
    (css_cons (os12_law T hr)
    (css_cons (os13_law T hr)
    (css_cons (os15_law T hr)
    (css_cons (os17_law T hr)
    (css_cons (os18_law T hr)
    (css_cons (os19_law T hr)
    (css_cons (os21_law T hr)
    (css_cons (os22_law T hr)
    (css_cons (os23_law T hr)
    (css_cons (os24_law T hr)
    (css_cons (os25_law T hr)
    (css_cons (os27_law T hr)
    (css_cons (os28_law T hr)
    (css_cons (os29_law T hr)
    (css_one (os31_law T hr))))))))))))))))))))))) (passes_of rfl) rfl)
theorem os34_law (T : Tx K mg) {cdv : Value} {A : Around} {outer : List Env} {s : Shared} {H : Hp} {E : XK} (hr : RoomG 9 (A.deeper (envOfC "law" (defScope s_law) s.heap.objs.size T.f_law cdv))) : CS T.ca (cxOf (L2.CX P w) P w K mg base ["_law_script", "_law_k", "_law_source_here", "_law_width", "_law_changes", "_law_steps_here", "_law_turn", "_law_change_here", "_law_one", "_law_two", "_law_twin", "_law_state_here", "_law_other"] "law" (defScope s_law) T.f_law cdv A outer s H E) [0] (nthS (ifB (nthS (defBody s_law) 1)) 0) st34_law :=
  (cs_ret ce_bl)
theorem os35_law (T : Tx K mg) {cdv : Value} {A : Around} {outer : List Env} {s : Shared} {H : Hp} {E : XK} (hr : RoomG 9 (A.deeper (envOfC "law" (defScope s_law) s.heap.objs.size T.f_law cdv))) : CS T.ca (cxOf (L2.CX P w) P w K mg base ["_law_script", "_law_k", "_law_source_here", "_law_width", "_law_changes", "_law_steps_here", "_law_turn", "_law_change_here", "_law_one", "_law_two", "_law_twin", "_law_state_here", "_law_other"] "law" (defScope s_law) T.f_law cdv A outer s H E) [0] (nthS (defBody s_law) 1) st35_law :=
  (cs_if (ct_not (ct_val (ce_call0 (ok__law_other_index_holds T) (hr.mono (by decide)) (by rfl) T.g__law_other_index_holds T.F__law_other_index_holds.kp))) (css_one (os34_law T hr)) css_nil)
theorem os36_law (T : Tx K mg) {cdv : Value} {A : Around} {outer : List Env} {s : Shared} {H : Hp} {E : XK} (hr : RoomG 9 (A.deeper (envOfC "law" (defScope s_law) s.heap.objs.size T.f_law cdv))) : CS T.ca (cxOf (L2.CX P w) P w K mg base ["_law_script", "_law_k", "_law_source_here", "_law_width", "_law_changes", "_law_steps_here", "_law_turn", "_law_change_here", "_law_one", "_law_two", "_law_twin", "_law_state_here", "_law_other"] "law" (defScope s_law) T.f_law cdv A outer s H E) [0] (nthS (defBody s_law) 2) st36_law :=
  (cs_ret (ce_and' (ce_eqIG false rfl (ok_Bench___eq__ T) T.oe_Bench (hr.mono (by decide)) (co_v (ce_fz (ce_makeG (C := 1) T.mk_Bench (ok_Bench___init__ T) (hr.mono (by decide)) (by rfl) T.g_Bench (cl_cons ce_int cl_nil) ⟨fun _ => rfl, trivial⟩))) (co_v (ce_fz (ce_makeG (C := 1) T.mk_Bench (ok_Bench___init__ T) (hr.mono (by decide)) (by rfl) T.g_Bench (cl_cons ce_int cl_nil) ⟨fun _ => rfl, trivial⟩)))) (ce_and (ce_callR (ok__law_unlike T) (hr.mono (by decide)) (by rfl) T.g__law_unlike T.F__law_unlike.kp (cl_cons (ce_makeG (C := 1) T.mk_Bench (ok_Bench___init__ T) (hr.mono (by decide)) (by rfl) T.g_Bench (cl_cons ce_int cl_nil) ⟨fun _ => rfl, trivial⟩) (cl_cons (ce_makeG (C := 1) T.mk_Bench (ok_Bench___init__ T) (hr.mono (by decide)) (by rfl) T.g_Bench (cl_cons ce_int cl_nil) ⟨fun _ => rfl, trivial⟩) cl_nil)) ⟨fun _ => rfl, ⟨fun _ => rfl, trivial⟩⟩) (ce_eqJ (C := 1) (C2 := 0) true rfl (ok_Bench___eq__ T) T.oe_Bench T.sb_Network_Bench (hr.mono (by decide)) (co_v (ce_fz (ce_makeG (C := 1) T.mk_Bench (ok_Bench___init__ T) (hr.mono (by decide)) (by rfl) T.g_Bench (cl_cons ce_int cl_nil) ⟨fun _ => rfl, trivial⟩))) (co_v (ce_fz (ce_makeG (C := 0) T.mk_Network (ok_Network___init__ T) (hr.mono (by decide)) (by rfl) T.g_Network (cl_cons ce_int (cl_cons (ce_lst cl_nil trivial) cl_nil)) ⟨fun _ => rfl, ⟨fun _ => rfl, trivial⟩⟩)))))))
theorem ok_law (T : Tx K mg) : FnG P w K mg base (L2.CX P w) 10 T.f_law (spM T.ca K m_law) := fn_okG (N := ["_law_script", "_law_k", "_law_source_here", "_law_width", "_law_changes", "_law_steps_here", "_law_turn", "_law_change_here", "_law_one", "_law_two", "_law_twin", "_law_state_here", "_law_other"]) (n := 1) (L := [0]) (mb := b_law) T.F_law T.B_law sc_law rfl fun cdv A outer s H E hr =>
  show CSs _ _ _ _ b_law from (css_cons (os33_law T hr)
    (css_cons (os35_law T hr)
    (css_one (os36_law T hr))))
end
theorem all_mk {l : PySem.W.OpenLaw} {w : World} {K : PySem.W.Frag} {h : Heap} {mg : Str → Option Value} {fa : Addr} (X : K.In h) (G : h.Ns mainGlobals mg) (hfa : mg "law" = some (.ref fa))
    {c_Network : Addr} (a_Network : PySem.W.nsIn K mainGlobals "Network" = some (some (.ref c_Network)))
    {c_Bench : Addr} (a_Bench : PySem.W.nsIn K mainGlobals "Bench" = some (some (.ref c_Bench)))
    {f__law_source : Addr} (a__law_source : PySem.W.nsIn K mainGlobals "_law_source" = some (some (.ref f__law_source)))
    {od__law_source an__law_source : Option Addr} {sl__law_source : Array (Option Value)} {oc__law_source kV__law_source dc__law_source pm__law_source cd__law_source ct__law_source : Value}
    (l__law_source : K.lookup f__law_source = some ⟨oc__law_source, od__law_source, .func (PySem.W.fnOf "_law_source" "_law_source" (defArgs s__law_source) (defBody s__law_source) (defScope s__law_source) .none kV__law_source dc__law_source pm__law_source an__law_source cd__law_source ct__law_source), sl__law_source⟩) (q__law_source : PySem.W.codeIn K cd__law_source "_law_source" = true) (k__law_source : PySem.W.keepIn K (.ref f__law_source) = true)
    {f__law_draw : Addr} (a__law_draw : PySem.W.nsIn K mainGlobals "_law_draw" = some (some (.ref f__law_draw)))
    {od__law_draw an__law_draw : Option Addr} {sl__law_draw : Array (Option Value)} {oc__law_draw kV__law_draw dc__law_draw pm__law_draw cd__law_draw ct__law_draw : Value}
    (l__law_draw : K.lookup f__law_draw = some ⟨oc__law_draw, od__law_draw, .func (PySem.W.fnOf "_law_draw" "_law_draw" (defArgs s__law_draw) (defBody s__law_draw) (defScope s__law_draw) .none kV__law_draw dc__law_draw pm__law_draw an__law_draw cd__law_draw ct__law_draw), sl__law_draw⟩) (q__law_draw : PySem.W.codeIn K cd__law_draw "_law_draw" = true) (k__law_draw : PySem.W.keepIn K (.ref f__law_draw) = true)
    {f__law_steps : Addr} (a__law_steps : PySem.W.nsIn K mainGlobals "_law_steps" = some (some (.ref f__law_steps)))
    {od__law_steps an__law_steps : Option Addr} {sl__law_steps : Array (Option Value)} {oc__law_steps kV__law_steps dc__law_steps pm__law_steps cd__law_steps ct__law_steps : Value}
    (l__law_steps : K.lookup f__law_steps = some ⟨oc__law_steps, od__law_steps, .func (PySem.W.fnOf "_law_steps" "_law_steps" (defArgs s__law_steps) (defBody s__law_steps) (defScope s__law_steps) .none kV__law_steps dc__law_steps pm__law_steps an__law_steps cd__law_steps ct__law_steps), sl__law_steps⟩) (q__law_steps : PySem.W.codeIn K cd__law_steps "_law_steps" = true) (k__law_steps : PySem.W.keepIn K (.ref f__law_steps) = true)
    {f__law_change : Addr} (a__law_change : PySem.W.nsIn K mainGlobals "_law_change" = some (some (.ref f__law_change)))
    {od__law_change an__law_change : Option Addr} {sl__law_change : Array (Option Value)} {oc__law_change kV__law_change dc__law_change pm__law_change cd__law_change ct__law_change : Value}
    (l__law_change : K.lookup f__law_change = some ⟨oc__law_change, od__law_change, .func (PySem.W.fnOf "_law_change" "_law_change" (defArgs s__law_change) (defBody s__law_change) (defScope s__law_change) .none kV__law_change dc__law_change pm__law_change an__law_change cd__law_change ct__law_change), sl__law_change⟩) (q__law_change : PySem.W.codeIn K cd__law_change "_law_change" = true) (k__law_change : PySem.W.keepIn K (.ref f__law_change) = true)
    {f__law_new_steps : Addr} (a__law_new_steps : PySem.W.nsIn K mainGlobals "_law_new_steps" = some (some (.ref f__law_new_steps)))
    {od__law_new_steps an__law_new_steps : Option Addr} {sl__law_new_steps : Array (Option Value)} {oc__law_new_steps kV__law_new_steps dc__law_new_steps pm__law_new_steps cd__law_new_steps ct__law_new_steps : Value}
    (l__law_new_steps : K.lookup f__law_new_steps = some ⟨oc__law_new_steps, od__law_new_steps, .func (PySem.W.fnOf "_law_new_steps" "_law_new_steps" (defArgs s__law_new_steps) (defBody s__law_new_steps) (defScope s__law_new_steps) .none kV__law_new_steps dc__law_new_steps pm__law_new_steps an__law_new_steps cd__law_new_steps ct__law_new_steps), sl__law_new_steps⟩) (q__law_new_steps : PySem.W.codeIn K cd__law_new_steps "_law_new_steps" = true) (k__law_new_steps : PySem.W.keepIn K (.ref f__law_new_steps) = true)
    {f_is_integer : Addr} (a_is_integer : PySem.W.nsIn K mainGlobals "is_integer" = some (some (.ref f_is_integer)))
    {od_is_integer an_is_integer : Option Addr} {sl_is_integer : Array (Option Value)} {oc_is_integer kV_is_integer dc_is_integer pm_is_integer cd_is_integer ct_is_integer : Value}
    (l_is_integer : K.lookup f_is_integer = some ⟨oc_is_integer, od_is_integer, .func (PySem.W.fnOf "is_integer" "is_integer" (defArgs s_is_integer) (defBody s_is_integer) (defScope s_is_integer) .none kV_is_integer dc_is_integer pm_is_integer an_is_integer cd_is_integer ct_is_integer), sl_is_integer⟩) (q_is_integer : PySem.W.codeIn K cd_is_integer "is_integer" = true) (k_is_integer : PySem.W.keepIn K (.ref f_is_integer) = true)
    {f_check_width : Addr} (a_check_width : PySem.W.nsIn K mainGlobals "check_width" = some (some (.ref f_check_width)))
    {od_check_width an_check_width : Option Addr} {sl_check_width : Array (Option Value)} {oc_check_width kV_check_width dc_check_width pm_check_width cd_check_width ct_check_width : Value}
    (l_check_width : K.lookup f_check_width = some ⟨oc_check_width, od_check_width, .func (PySem.W.fnOf "check_width" "check_width" (defArgs s_check_width) (defBody s_check_width) (defScope s_check_width) .none kV_check_width dc_check_width pm_check_width an_check_width cd_check_width ct_check_width), sl_check_width⟩) (q_check_width : PySem.W.codeIn K cd_check_width "check_width" = true) (k_check_width : PySem.W.keepIn K (.ref f_check_width) = true)
    {f_check_steps : Addr} (a_check_steps : PySem.W.nsIn K mainGlobals "check_steps" = some (some (.ref f_check_steps)))
    {od_check_steps an_check_steps : Option Addr} {sl_check_steps : Array (Option Value)} {oc_check_steps kV_check_steps dc_check_steps pm_check_steps cd_check_steps ct_check_steps : Value}
    (l_check_steps : K.lookup f_check_steps = some ⟨oc_check_steps, od_check_steps, .func (PySem.W.fnOf "check_steps" "check_steps" (defArgs s_check_steps) (defBody s_check_steps) (defScope s_check_steps) .none kV_check_steps dc_check_steps pm_check_steps an_check_steps cd_check_steps ct_check_steps), sl_check_steps⟩) (q_check_steps : PySem.W.codeIn K cd_check_steps "check_steps" = true) (k_check_steps : PySem.W.keepIn K (.ref f_check_steps) = true)
    {f_Network___init__ : Addr} (a_Network___init__ : PySem.W.findIn K (.ref c_Network) "__init__" = some (some (.ref f_Network___init__))) (i_Network___init__ : PySem.W.isFn K (.ref f_Network___init__) = true)
    {od_Network___init__ an_Network___init__ : Option Addr} {sl_Network___init__ : Array (Option Value)} {kV_Network___init__ dc_Network___init__ pm_Network___init__ cd_Network___init__ ct_Network___init__ : Value}
    (l_Network___init__ : K.lookup f_Network___init__ = some ⟨(.type "function"), od_Network___init__, .func (PySem.W.fnOf "__init__" "Network.__init__" (defArgs s_Network___init__) (defBody s_Network___init__) (defScope s_Network___init__) .none kV_Network___init__ dc_Network___init__ pm_Network___init__ an_Network___init__ cd_Network___init__ ct_Network___init__), sl_Network___init__⟩) (q_Network___init__ : PySem.W.codeIn K cd_Network___init__ "Network.__init__" = true) (k_Network___init__ : PySem.W.keepIn K (.ref f_Network___init__) = true)
    {p_Network_empty f_Network_empty : Addr} {rs_Network_empty : List Value} (a_Network_empty : PySem.W.findCls K (.ref c_Network) (.type "type") "empty" = some (.get (.builtin "classmethod.__get__") (.ref p_Network_empty) .none (.ref c_Network))) (rc_Network_empty : PySem.W.recIn K p_Network_empty "classmethod" = some (.ref f_Network_empty :: rs_Network_empty)) (i_Network_empty : PySem.W.fnIn K f_Network_empty = true)
    {od_Network_empty an_Network_empty : Option Addr} {sl_Network_empty : Array (Option Value)} {kV_Network_empty dc_Network_empty pm_Network_empty cd_Network_empty ct_Network_empty : Value}
    (l_Network_empty : K.lookup f_Network_empty = some ⟨(.type "function"), od_Network_empty, .func (PySem.W.fnOf "empty" "Network.empty" (defArgs s_Network_empty) (defBody s_Network_empty) (defScope s_Network_empty) .none kV_Network_empty dc_Network_empty pm_Network_empty an_Network_empty cd_Network_empty ct_Network_empty), sl_Network_empty⟩) (q_Network_empty : PySem.W.codeIn K cd_Network_empty "Network.empty" = true) (k_Network_empty : PySem.W.keepIn K (.ref f_Network_empty) = true)
    {f_Bench___init__ : Addr} (a_Bench___init__ : PySem.W.findIn K (.ref c_Bench) "__init__" = some (some (.ref f_Bench___init__))) (i_Bench___init__ : PySem.W.isFn K (.ref f_Bench___init__) = true)
    {od_Bench___init__ an_Bench___init__ : Option Addr} {sl_Bench___init__ : Array (Option Value)} {kV_Bench___init__ dc_Bench___init__ pm_Bench___init__ cd_Bench___init__ ct_Bench___init__ : Value}
    (l_Bench___init__ : K.lookup f_Bench___init__ = some ⟨(.type "function"), od_Bench___init__, .func (PySem.W.fnOf "__init__" "Bench.__init__" (defArgs s_Bench___init__) (defBody s_Bench___init__) (defScope s_Bench___init__) .none kV_Bench___init__ dc_Bench___init__ pm_Bench___init__ an_Bench___init__ cd_Bench___init__ ct_Bench___init__), sl_Bench___init__⟩) (q_Bench___init__ : PySem.W.codeIn K cd_Bench___init__ "Bench.__init__" = true) (k_Bench___init__ : PySem.W.keepIn K (.ref f_Bench___init__) = true)
    {f_Bench_keep : Addr} (a_Bench_keep : PySem.W.findIn K (.ref c_Bench) "keep" = some (some (.ref f_Bench_keep))) (i_Bench_keep : PySem.W.isFn K (.ref f_Bench_keep) = true)
    {od_Bench_keep an_Bench_keep : Option Addr} {sl_Bench_keep : Array (Option Value)} {kV_Bench_keep dc_Bench_keep pm_Bench_keep cd_Bench_keep ct_Bench_keep : Value}
    (l_Bench_keep : K.lookup f_Bench_keep = some ⟨(.type "function"), od_Bench_keep, .func (PySem.W.fnOf "keep" "Bench.keep" (defArgs s_Bench_keep) (defBody s_Bench_keep) (defScope s_Bench_keep) .none kV_Bench_keep dc_Bench_keep pm_Bench_keep an_Bench_keep cd_Bench_keep ct_Bench_keep), sl_Bench_keep⟩) (q_Bench_keep : PySem.W.codeIn K cd_Bench_keep "Bench.keep" = true) (k_Bench_keep : PySem.W.keepIn K (.ref f_Bench_keep) = true)
    {f_Bench_drop : Addr} (a_Bench_drop : PySem.W.findIn K (.ref c_Bench) "drop" = some (some (.ref f_Bench_drop))) (i_Bench_drop : PySem.W.isFn K (.ref f_Bench_drop) = true)
    {od_Bench_drop an_Bench_drop : Option Addr} {sl_Bench_drop : Array (Option Value)} {kV_Bench_drop dc_Bench_drop pm_Bench_drop cd_Bench_drop ct_Bench_drop : Value}
    (l_Bench_drop : K.lookup f_Bench_drop = some ⟨(.type "function"), od_Bench_drop, .func (PySem.W.fnOf "drop" "Bench.drop" (defArgs s_Bench_drop) (defBody s_Bench_drop) (defScope s_Bench_drop) .none kV_Bench_drop dc_Bench_drop pm_Bench_drop an_Bench_drop cd_Bench_drop ct_Bench_drop), sl_Bench_drop⟩) (q_Bench_drop : PySem.W.codeIn K cd_Bench_drop "Bench.drop" = true) (k_Bench_drop : PySem.W.keepIn K (.ref f_Bench_drop) = true)
    {f_Bench_check_step : Addr} (a_Bench_check_step : PySem.W.findIn K (.ref c_Bench) "check_step" = some (some (.ref f_Bench_check_step))) (i_Bench_check_step : PySem.W.isFn K (.ref f_Bench_check_step) = true)
    {od_Bench_check_step an_Bench_check_step : Option Addr} {sl_Bench_check_step : Array (Option Value)} {kV_Bench_check_step dc_Bench_check_step pm_Bench_check_step cd_Bench_check_step ct_Bench_check_step : Value}
    (l_Bench_check_step : K.lookup f_Bench_check_step = some ⟨(.type "function"), od_Bench_check_step, .func (PySem.W.fnOf "check_step" "Bench.check_step" (defArgs s_Bench_check_step) (defBody s_Bench_check_step) (defScope s_Bench_check_step) .none kV_Bench_check_step dc_Bench_check_step pm_Bench_check_step an_Bench_check_step cd_Bench_check_step ct_Bench_check_step), sl_Bench_check_step⟩) (q_Bench_check_step : PySem.W.codeIn K cd_Bench_check_step "Bench.check_step" = true) (k_Bench_check_step : PySem.W.keepIn K (.ref f_Bench_check_step) = true)
    {f_check_count : Addr} (a_check_count : PySem.W.nsIn K mainGlobals "check_count" = some (some (.ref f_check_count)))
    {od_check_count an_check_count : Option Addr} {sl_check_count : Array (Option Value)} {oc_check_count kV_check_count dc_check_count pm_check_count cd_check_count ct_check_count : Value}
    (l_check_count : K.lookup f_check_count = some ⟨oc_check_count, od_check_count, .func (PySem.W.fnOf "check_count" "check_count" (defArgs s_check_count) (defBody s_check_count) (defScope s_check_count) .none kV_check_count dc_check_count pm_check_count an_check_count cd_check_count ct_check_count), sl_check_count⟩) (q_check_count : PySem.W.codeIn K cd_check_count "check_count" = true) (k_check_count : PySem.W.keepIn K (.ref f_check_count) = true)
    {f_Bench_place : Addr} (a_Bench_place : PySem.W.findIn K (.ref c_Bench) "place" = some (some (.ref f_Bench_place))) (i_Bench_place : PySem.W.isFn K (.ref f_Bench_place) = true)
    {od_Bench_place an_Bench_place : Option Addr} {sl_Bench_place : Array (Option Value)} {kV_Bench_place dc_Bench_place pm_Bench_place cd_Bench_place ct_Bench_place : Value}
    (l_Bench_place : K.lookup f_Bench_place = some ⟨(.type "function"), od_Bench_place, .func (PySem.W.fnOf "place" "Bench.place" (defArgs s_Bench_place) (defBody s_Bench_place) (defScope s_Bench_place) .none kV_Bench_place dc_Bench_place pm_Bench_place an_Bench_place cd_Bench_place ct_Bench_place), sl_Bench_place⟩) (q_Bench_place : PySem.W.codeIn K cd_Bench_place "Bench.place" = true) (k_Bench_place : PySem.W.keepIn K (.ref f_Bench_place) = true)
    {f_Network___len__ : Addr} (a_Network___len__ : PySem.W.findIn K (.ref c_Network) "__len__" = some (some (.ref f_Network___len__))) (i_Network___len__ : PySem.W.isFn K (.ref f_Network___len__) = true)
    {od_Network___len__ an_Network___len__ : Option Addr} {sl_Network___len__ : Array (Option Value)} {kV_Network___len__ dc_Network___len__ pm_Network___len__ cd_Network___len__ ct_Network___len__ : Value}
    (l_Network___len__ : K.lookup f_Network___len__ = some ⟨(.type "function"), od_Network___len__, .func (PySem.W.fnOf "__len__" "Network.__len__" (defArgs s_Network___len__) (defBody s_Network___len__) (defScope s_Network___len__) .none kV_Network___len__ dc_Network___len__ pm_Network___len__ an_Network___len__ cd_Network___len__ ct_Network___len__), sl_Network___len__⟩) (q_Network___len__ : PySem.W.codeIn K cd_Network___len__ "Network.__len__" = true) (k_Network___len__ : PySem.W.keepIn K (.ref f_Network___len__) = true)
    {f_Bench_add_all : Addr} (a_Bench_add_all : PySem.W.findIn K (.ref c_Bench) "add_all" = some (some (.ref f_Bench_add_all))) (i_Bench_add_all : PySem.W.isFn K (.ref f_Bench_add_all) = true)
    {od_Bench_add_all an_Bench_add_all : Option Addr} {sl_Bench_add_all : Array (Option Value)} {kV_Bench_add_all dc_Bench_add_all pm_Bench_add_all cd_Bench_add_all ct_Bench_add_all : Value}
    (l_Bench_add_all : K.lookup f_Bench_add_all = some ⟨(.type "function"), od_Bench_add_all, .func (PySem.W.fnOf "add_all" "Bench.add_all" (defArgs s_Bench_add_all) (defBody s_Bench_add_all) (defScope s_Bench_add_all) .none kV_Bench_add_all dc_Bench_add_all pm_Bench_add_all an_Bench_add_all cd_Bench_add_all ct_Bench_add_all), sl_Bench_add_all⟩) (q_Bench_add_all : PySem.W.codeIn K cd_Bench_add_all "Bench.add_all" = true) (k_Bench_add_all : PySem.W.keepIn K (.ref f_Bench_add_all) = true)
    {f_Bench_add : Addr} (a_Bench_add : PySem.W.findIn K (.ref c_Bench) "add" = some (some (.ref f_Bench_add))) (i_Bench_add : PySem.W.isFn K (.ref f_Bench_add) = true)
    {od_Bench_add an_Bench_add : Option Addr} {sl_Bench_add : Array (Option Value)} {kV_Bench_add dc_Bench_add pm_Bench_add cd_Bench_add ct_Bench_add : Value}
    (l_Bench_add : K.lookup f_Bench_add = some ⟨(.type "function"), od_Bench_add, .func (PySem.W.fnOf "add" "Bench.add" (defArgs s_Bench_add) (defBody s_Bench_add) (defScope s_Bench_add) .none kV_Bench_add dc_Bench_add pm_Bench_add an_Bench_add cd_Bench_add ct_Bench_add), sl_Bench_add⟩) (q_Bench_add : PySem.W.codeIn K cd_Bench_add "Bench.add" = true) (k_Bench_add : PySem.W.keepIn K (.ref f_Bench_add) = true)
    {f__law_perform : Addr} (a__law_perform : PySem.W.nsIn K mainGlobals "_law_perform" = some (some (.ref f__law_perform)))
    {od__law_perform an__law_perform : Option Addr} {sl__law_perform : Array (Option Value)} {oc__law_perform kV__law_perform dc__law_perform pm__law_perform cd__law_perform ct__law_perform : Value}
    (l__law_perform : K.lookup f__law_perform = some ⟨oc__law_perform, od__law_perform, .func (PySem.W.fnOf "_law_perform" "_law_perform" (defArgs s__law_perform) (defBody s__law_perform) (defScope s__law_perform) .none kV__law_perform dc__law_perform pm__law_perform an__law_perform cd__law_perform ct__law_perform), sl__law_perform⟩) (q__law_perform : PySem.W.codeIn K cd__law_perform "_law_perform" = true) (k__law_perform : PySem.W.keepIn K (.ref f__law_perform) = true)
    {f__law_made : Addr} (a__law_made : PySem.W.nsIn K mainGlobals "_law_made" = some (some (.ref f__law_made)))
    {od__law_made an__law_made : Option Addr} {sl__law_made : Array (Option Value)} {oc__law_made kV__law_made dc__law_made pm__law_made cd__law_made ct__law_made : Value}
    (l__law_made : K.lookup f__law_made = some ⟨oc__law_made, od__law_made, .func (PySem.W.fnOf "_law_made" "_law_made" (defArgs s__law_made) (defBody s__law_made) (defScope s__law_made) .none kV__law_made dc__law_made pm__law_made an__law_made cd__law_made ct__law_made), sl__law_made⟩) (q__law_made : PySem.W.codeIn K cd__law_made "_law_made" = true) (k__law_made : PySem.W.keepIn K (.ref f__law_made) = true)
    {f_Bench_copy : Addr} (a_Bench_copy : PySem.W.findIn K (.ref c_Bench) "copy" = some (some (.ref f_Bench_copy))) (i_Bench_copy : PySem.W.isFn K (.ref f_Bench_copy) = true)
    {od_Bench_copy an_Bench_copy : Option Addr} {sl_Bench_copy : Array (Option Value)} {kV_Bench_copy dc_Bench_copy pm_Bench_copy cd_Bench_copy ct_Bench_copy : Value}
    (l_Bench_copy : K.lookup f_Bench_copy = some ⟨(.type "function"), od_Bench_copy, .func (PySem.W.fnOf "copy" "Bench.copy" (defArgs s_Bench_copy) (defBody s_Bench_copy) (defScope s_Bench_copy) .none kV_Bench_copy dc_Bench_copy pm_Bench_copy an_Bench_copy cd_Bench_copy ct_Bench_copy), sl_Bench_copy⟩) (q_Bench_copy : PySem.W.codeIn K cd_Bench_copy "Bench.copy" = true) (k_Bench_copy : PySem.W.keepIn K (.ref f_Bench_copy) = true)
    {f_Network___eq__ : Addr} (a_Network___eq__ : PySem.W.findIn K (.ref c_Network) "__eq__" = some (some (.ref f_Network___eq__))) (i_Network___eq__ : PySem.W.isFn K (.ref f_Network___eq__) = true)
    {od_Network___eq__ an_Network___eq__ : Option Addr} {sl_Network___eq__ : Array (Option Value)} {kV_Network___eq__ dc_Network___eq__ pm_Network___eq__ cd_Network___eq__ ct_Network___eq__ : Value}
    (l_Network___eq__ : K.lookup f_Network___eq__ = some ⟨(.type "function"), od_Network___eq__, .func (PySem.W.fnOf "__eq__" "Network.__eq__" (defArgs s_Network___eq__) (defBody s_Network___eq__) (defScope s_Network___eq__) .none kV_Network___eq__ dc_Network___eq__ pm_Network___eq__ an_Network___eq__ cd_Network___eq__ ct_Network___eq__), sl_Network___eq__⟩) (q_Network___eq__ : PySem.W.codeIn K cd_Network___eq__ "Network.__eq__" = true) (k_Network___eq__ : PySem.W.keepIn K (.ref f_Network___eq__) = true)
    {f_Bench___eq__ : Addr} (a_Bench___eq__ : PySem.W.findIn K (.ref c_Bench) "__eq__" = some (some (.ref f_Bench___eq__))) (i_Bench___eq__ : PySem.W.isFn K (.ref f_Bench___eq__) = true)
    {od_Bench___eq__ an_Bench___eq__ : Option Addr} {sl_Bench___eq__ : Array (Option Value)} {kV_Bench___eq__ dc_Bench___eq__ pm_Bench___eq__ cd_Bench___eq__ ct_Bench___eq__ : Value}
    (l_Bench___eq__ : K.lookup f_Bench___eq__ = some ⟨(.type "function"), od_Bench___eq__, .func (PySem.W.fnOf "__eq__" "Bench.__eq__" (defArgs s_Bench___eq__) (defBody s_Bench___eq__) (defScope s_Bench___eq__) .none kV_Bench___eq__ dc_Bench___eq__ pm_Bench___eq__ an_Bench___eq__ cd_Bench___eq__ ct_Bench___eq__), sl_Bench___eq__⟩) (q_Bench___eq__ : PySem.W.codeIn K cd_Bench___eq__ "Bench.__eq__" = true) (k_Bench___eq__ : PySem.W.keepIn K (.ref f_Bench___eq__) = true)
    {f_Bench___repr__ : Addr} (a_Bench___repr__ : PySem.W.findIn K (.ref c_Bench) "__repr__" = some (some (.ref f_Bench___repr__))) (i_Bench___repr__ : PySem.W.isFn K (.ref f_Bench___repr__) = true)
    {od_Bench___repr__ an_Bench___repr__ : Option Addr} {sl_Bench___repr__ : Array (Option Value)} {kV_Bench___repr__ dc_Bench___repr__ pm_Bench___repr__ cd_Bench___repr__ ct_Bench___repr__ : Value}
    (l_Bench___repr__ : K.lookup f_Bench___repr__ = some ⟨(.type "function"), od_Bench___repr__, .func (PySem.W.fnOf "__repr__" "Bench.__repr__" (defArgs s_Bench___repr__) (defBody s_Bench___repr__) (defScope s_Bench___repr__) .none kV_Bench___repr__ dc_Bench___repr__ pm_Bench___repr__ an_Bench___repr__ cd_Bench___repr__ ct_Bench___repr__), sl_Bench___repr__⟩) (q_Bench___repr__ : PySem.W.codeIn K cd_Bench___repr__ "Bench.__repr__" = true) (k_Bench___repr__ : PySem.W.keepIn K (.ref f_Bench___repr__) = true)
    {f_Bench___len__ : Addr} (a_Bench___len__ : PySem.W.findIn K (.ref c_Bench) "__len__" = some (some (.ref f_Bench___len__))) (i_Bench___len__ : PySem.W.isFn K (.ref f_Bench___len__) = true)
    {od_Bench___len__ an_Bench___len__ : Option Addr} {sl_Bench___len__ : Array (Option Value)} {kV_Bench___len__ dc_Bench___len__ pm_Bench___len__ cd_Bench___len__ ct_Bench___len__ : Value}
    (l_Bench___len__ : K.lookup f_Bench___len__ = some ⟨(.type "function"), od_Bench___len__, .func (PySem.W.fnOf "__len__" "Bench.__len__" (defArgs s_Bench___len__) (defBody s_Bench___len__) (defScope s_Bench___len__) .none kV_Bench___len__ dc_Bench___len__ pm_Bench___len__ an_Bench___len__ cd_Bench___len__ ct_Bench___len__), sl_Bench___len__⟩) (q_Bench___len__ : PySem.W.codeIn K cd_Bench___len__ "Bench.__len__" = true) (k_Bench___len__ : PySem.W.keepIn K (.ref f_Bench___len__) = true)
    {p_Bench_changes f_Bench_changes : Addr} {rs_Bench_changes : List Value} (a_Bench_changes : PySem.W.findIn K (.ref c_Bench) "changes" = some (some (.ref p_Bench_changes))) (ge_Bench_changes : PySem.W.specialIn K (.ref p_Bench_changes) "__get__" = some (some (.builtin "property.__get__"))) (ta_Bench_changes : PySem.W.takesIn K (.ref p_Bench_changes) = some true) (rc_Bench_changes : PySem.W.recIn K p_Bench_changes "property" = some (.ref f_Bench_changes :: rs_Bench_changes))
    {od_Bench_changes an_Bench_changes : Option Addr} {sl_Bench_changes : Array (Option Value)} {oc_Bench_changes kV_Bench_changes dc_Bench_changes pm_Bench_changes cd_Bench_changes ct_Bench_changes : Value}
    (l_Bench_changes : K.lookup f_Bench_changes = some ⟨oc_Bench_changes, od_Bench_changes, .func (PySem.W.fnOf "changes" "Bench.changes" (defArgs s_Bench_changes) (defBody s_Bench_changes) (defScope s_Bench_changes) .none kV_Bench_changes dc_Bench_changes pm_Bench_changes an_Bench_changes cd_Bench_changes ct_Bench_changes), sl_Bench_changes⟩) (q_Bench_changes : PySem.W.codeIn K cd_Bench_changes "Bench.changes" = true) (k_Bench_changes : PySem.W.keepIn K (.ref f_Bench_changes) = true)
    {f__law_state : Addr} (a__law_state : PySem.W.nsIn K mainGlobals "_law_state" = some (some (.ref f__law_state)))
    {od__law_state an__law_state : Option Addr} {sl__law_state : Array (Option Value)} {oc__law_state kV__law_state dc__law_state pm__law_state cd__law_state ct__law_state : Value}
    (l__law_state : K.lookup f__law_state = some ⟨oc__law_state, od__law_state, .func (PySem.W.fnOf "_law_state" "_law_state" (defArgs s__law_state) (defBody s__law_state) (defScope s__law_state) .none kV__law_state dc__law_state pm__law_state an__law_state cd__law_state ct__law_state), sl__law_state⟩) (q__law_state : PySem.W.codeIn K cd__law_state "_law_state" = true) (k__law_state : PySem.W.keepIn K (.ref f__law_state) = true)
    {f__law_unlike : Addr} (a__law_unlike : PySem.W.nsIn K mainGlobals "_law_unlike" = some (some (.ref f__law_unlike)))
    {od__law_unlike an__law_unlike : Option Addr} {sl__law_unlike : Array (Option Value)} {oc__law_unlike kV__law_unlike dc__law_unlike pm__law_unlike cd__law_unlike ct__law_unlike : Value}
    (l__law_unlike : K.lookup f__law_unlike = some ⟨oc__law_unlike, od__law_unlike, .func (PySem.W.fnOf "_law_unlike" "_law_unlike" (defArgs s__law_unlike) (defBody s__law_unlike) (defScope s__law_unlike) .none kV__law_unlike dc__law_unlike pm__law_unlike an__law_unlike cd__law_unlike ct__law_unlike), sl__law_unlike⟩) (q__law_unlike : PySem.W.codeIn K cd__law_unlike "_law_unlike" = true) (k__law_unlike : PySem.W.keepIn K (.ref f__law_unlike) = true)
    {f_is_any_integer : Addr} (a_is_any_integer : PySem.W.nsIn K mainGlobals "is_any_integer" = some (some (.ref f_is_any_integer)))
    {od_is_any_integer an_is_any_integer : Option Addr} {sl_is_any_integer : Array (Option Value)} {oc_is_any_integer kV_is_any_integer dc_is_any_integer pm_is_any_integer cd_is_any_integer ct_is_any_integer : Value}
    (l_is_any_integer : K.lookup f_is_any_integer = some ⟨oc_is_any_integer, od_is_any_integer, .func (PySem.W.fnOf "is_any_integer" "is_any_integer" (defArgs s_is_any_integer) (defBody s_is_any_integer) (defScope s_is_any_integer) .none kV_is_any_integer dc_is_any_integer pm_is_any_integer an_is_any_integer cd_is_any_integer ct_is_any_integer), sl_is_any_integer⟩) (q_is_any_integer : PySem.W.codeIn K cd_is_any_integer "is_any_integer" = true) (k_is_any_integer : PySem.W.keepIn K (.ref f_is_any_integer) = true)
    {f_Bench_undo : Addr} (a_Bench_undo : PySem.W.findIn K (.ref c_Bench) "undo" = some (some (.ref f_Bench_undo))) (i_Bench_undo : PySem.W.isFn K (.ref f_Bench_undo) = true)
    {od_Bench_undo an_Bench_undo : Option Addr} {sl_Bench_undo : Array (Option Value)} {kV_Bench_undo dc_Bench_undo pm_Bench_undo cd_Bench_undo ct_Bench_undo : Value} {T_Bench_undo : Addr} {tc_Bench_undo : Value} {td_Bench_undo : Option Addr} {tn_Bench_undo : Nat} {tk_Bench_undo : Tok} {ts_Bench_undo : Array (Option Value)}
    (l_Bench_undo : K.lookup f_Bench_undo = some ⟨(.type "function"), od_Bench_undo, .func (PySem.W.fnOf "undo" "Bench.undo" (defArgs s_Bench_undo) (defBody s_Bench_undo) (defScope s_Bench_undo) (.ref T_Bench_undo) kV_Bench_undo dc_Bench_undo pm_Bench_undo an_Bench_undo cd_Bench_undo ct_Bench_undo), sl_Bench_undo⟩) (q_Bench_undo : PySem.W.codeIn K cd_Bench_undo "Bench.undo" = true) (k_Bench_undo : PySem.W.keepIn K (.ref f_Bench_undo) = true) (t_Bench_undo : K.lookup T_Bench_undo = some ⟨tc_Bench_undo, td_Bench_undo, .seq #[.int 1 tk_Bench_undo] tn_Bench_undo, ts_Bench_undo⟩)
    {f__law_other_index_holds : Addr} (a__law_other_index_holds : PySem.W.nsIn K mainGlobals "_law_other_index_holds" = some (some (.ref f__law_other_index_holds)))
    {od__law_other_index_holds an__law_other_index_holds : Option Addr} {sl__law_other_index_holds : Array (Option Value)} {oc__law_other_index_holds kV__law_other_index_holds dc__law_other_index_holds pm__law_other_index_holds cd__law_other_index_holds ct__law_other_index_holds : Value}
    (l__law_other_index_holds : K.lookup f__law_other_index_holds = some ⟨oc__law_other_index_holds, od__law_other_index_holds, .func (PySem.W.fnOf "_law_other_index_holds" "_law_other_index_holds" (defArgs s__law_other_index_holds) (defBody s__law_other_index_holds) (defScope s__law_other_index_holds) .none kV__law_other_index_holds dc__law_other_index_holds pm__law_other_index_holds an__law_other_index_holds cd__law_other_index_holds ct__law_other_index_holds), sl__law_other_index_holds⟩) (q__law_other_index_holds : PySem.W.codeIn K cd__law_other_index_holds "_law_other_index_holds" = true) (k__law_other_index_holds : PySem.W.keepIn K (.ref f__law_other_index_holds) = true)
    {f_law : Addr} (a_law : PySem.W.nsIn K mainGlobals "law" = some (some (.ref f_law)))
    {od_law an_law : Option Addr} {sl_law : Array (Option Value)} {oc_law kV_law dc_law pm_law cd_law ct_law : Value}
    (l_law : K.lookup f_law = some ⟨oc_law, od_law, .func (PySem.W.fnOf "law" "law" (defArgs s_law) (defBody s_law) (defScope s_law) .none kV_law dc_law pm_law an_law cd_law ct_law), sl_law⟩) (q_law : PySem.W.codeIn K cd_law "law" = true) (k_law : PySem.W.keepIn K (.ref f_law) = true)
    {p_Bench_network f_Bench_network : Addr} {rs_Bench_network : List Value} (a_Bench_network : PySem.W.findIn K (.ref c_Bench) "network" = some (some (.ref p_Bench_network))) (ge_Bench_network : PySem.W.specialIn K (.ref p_Bench_network) "__get__" = some (some (.builtin "property.__get__"))) (ta_Bench_network : PySem.W.takesIn K (.ref p_Bench_network) = some true) (rc_Bench_network : PySem.W.recIn K p_Bench_network "property" = some (.ref f_Bench_network :: rs_Bench_network))
    {od_Bench_network an_Bench_network : Option Addr} {sl_Bench_network : Array (Option Value)} {oc_Bench_network kV_Bench_network dc_Bench_network pm_Bench_network cd_Bench_network ct_Bench_network : Value}
    (l_Bench_network : K.lookup f_Bench_network = some ⟨oc_Bench_network, od_Bench_network, .func (PySem.W.fnOf "network" "Bench.network" (defArgs s_Bench_network) (defBody s_Bench_network) (defScope s_Bench_network) .none kV_Bench_network dc_Bench_network pm_Bench_network an_Bench_network cd_Bench_network ct_Bench_network), sl_Bench_network⟩) (q_Bench_network : PySem.W.codeIn K cd_Bench_network "Bench.network" = true) (k_Bench_network : PySem.W.keepIn K (.ref f_Bench_network) = true)
    {p_Network_steps f_Network_steps : Addr} {rs_Network_steps : List Value} (a_Network_steps : PySem.W.findIn K (.ref c_Network) "steps" = some (some (.ref p_Network_steps))) (ge_Network_steps : PySem.W.specialIn K (.ref p_Network_steps) "__get__" = some (some (.builtin "property.__get__"))) (ta_Network_steps : PySem.W.takesIn K (.ref p_Network_steps) = some true) (rc_Network_steps : PySem.W.recIn K p_Network_steps "property" = some (.ref f_Network_steps :: rs_Network_steps))
    {od_Network_steps an_Network_steps : Option Addr} {sl_Network_steps : Array (Option Value)} {oc_Network_steps kV_Network_steps dc_Network_steps pm_Network_steps cd_Network_steps ct_Network_steps : Value}
    (l_Network_steps : K.lookup f_Network_steps = some ⟨oc_Network_steps, od_Network_steps, .func (PySem.W.fnOf "steps" "Network.steps" (defArgs s_Network_steps) (defBody s_Network_steps) (defScope s_Network_steps) .none kV_Network_steps dc_Network_steps pm_Network_steps an_Network_steps cd_Network_steps ct_Network_steps), sl_Network_steps⟩) (q_Network_steps : PySem.W.codeIn K cd_Network_steps "Network.steps" = true) (k_Network_steps : PySem.W.keepIn K (.ref f_Network_steps) = true)
    {p_Network_width f_Network_width : Addr} {rs_Network_width : List Value} (a_Network_width : PySem.W.findIn K (.ref c_Network) "width" = some (some (.ref p_Network_width))) (ge_Network_width : PySem.W.specialIn K (.ref p_Network_width) "__get__" = some (some (.builtin "property.__get__"))) (ta_Network_width : PySem.W.takesIn K (.ref p_Network_width) = some true) (rc_Network_width : PySem.W.recIn K p_Network_width "property" = some (.ref f_Network_width :: rs_Network_width))
    {od_Network_width an_Network_width : Option Addr} {sl_Network_width : Array (Option Value)} {oc_Network_width kV_Network_width dc_Network_width pm_Network_width cd_Network_width ct_Network_width : Value}
    (l_Network_width : K.lookup f_Network_width = some ⟨oc_Network_width, od_Network_width, .func (PySem.W.fnOf "width" "Network.width" (defArgs s_Network_width) (defBody s_Network_width) (defScope s_Network_width) .none kV_Network_width dc_Network_width pm_Network_width an_Network_width cd_Network_width ct_Network_width), sl_Network_width⟩) (q_Network_width : PySem.W.codeIn K cd_Network_width "Network.width" = true) (k_Network_width : PySem.W.keepIn K (.ref f_Network_width) = true)
    (pg_Network : PySem.W.plainGet K c_Network Str.empty = true) (hd_Network : PySem.W.hasDictIn K c_Network = true) (po_Network : PySem.W.plainOver K c_Network = true) (sa_Network : PySem.W.findIn K (.ref c_Network) "__setattr__" = some (some (.builtin "object.__setattr__"))) (mk_Network : PySem.W.makesIn K c_Network = true) (kc_Network : PySem.W.keepIn K (.ref c_Network) = true)
    {nm_Network qn_Network : Str} {N_Network : Addr} {bs_Network : List Value} {hdc_Network : Bool} {sn_Network : List Str} {sub_Network : List Value} {ab_Network : Bool} {col_Network : Option Bool} {dd_Network : Option Addr} {m0_Network m1_Network m2_Network m3_Network m5_Network : Option Value} {ni_Network : String}
    (xl_Network : K.lookup c_Network = some (excClassObj nm_Network qn_Network c_Network N_Network bs_Network [.type "object"] hdc_Network sn_Network sub_Network ab_Network col_Network dd_Network m0_Network m1_Network m2_Network m3_Network m5_Network ni_Network))
    {ec_Network : Value} {ed_Network : Option Addr} {es_Network : Array DictEntry} {en_Network : Nat} {el_Network : Array (Option Value)} (xn_Network : K.lookup N_Network = some ⟨ec_Network, ed_Network, .dict es_Network en_Network, el_Network⟩) (ss_Network : strKeys es_Network = true)
    (ne_Network : PySem.W.nsIn K N_Network "__eq__" = some (some (.ref f_Network___eq__))) (nn_Network : PySem.W.nsIn K N_Network "__ne__" = some none)
    (nl_Network : PySem.W.nsIn K N_Network "__len__" = some (some (.ref f_Network___len__)))
    (pg_Bench : PySem.W.plainGet K c_Bench Str.empty = true) (hd_Bench : PySem.W.hasDictIn K c_Bench = true) (po_Bench : PySem.W.plainOver K c_Bench = true) (sa_Bench : PySem.W.findIn K (.ref c_Bench) "__setattr__" = some (some (.builtin "object.__setattr__"))) (mk_Bench : PySem.W.makesIn K c_Bench = true) (kc_Bench : PySem.W.keepIn K (.ref c_Bench) = true)
    {nm_Bench qn_Bench : Str} {N_Bench : Addr} {bs_Bench : List Value} {hdc_Bench : Bool} {sn_Bench : List Str} {sub_Bench : List Value} {ab_Bench : Bool} {col_Bench : Option Bool} {dd_Bench : Option Addr} {m0_Bench m1_Bench m2_Bench m3_Bench m5_Bench : Option Value} {ni_Bench : String}
    (xl_Bench : K.lookup c_Bench = some (excClassObj nm_Bench qn_Bench c_Bench N_Bench bs_Bench [.type "object"] hdc_Bench sn_Bench sub_Bench ab_Bench col_Bench dd_Bench m0_Bench m1_Bench m2_Bench m3_Bench m5_Bench ni_Bench))
    {ec_Bench : Value} {ed_Bench : Option Addr} {es_Bench : Array DictEntry} {en_Bench : Nat} {el_Bench : Array (Option Value)} (xn_Bench : K.lookup N_Bench = some ⟨ec_Bench, ed_Bench, .dict es_Bench en_Bench, el_Bench⟩) (ss_Bench : strKeys es_Bench = true)
    (ne_Bench : PySem.W.nsIn K N_Bench "__eq__" = some (some (.ref f_Bench___eq__))) (nn_Bench : PySem.W.nsIn K N_Bench "__ne__" = some none)
    (nl_Bench : PySem.W.nsIn K N_Bench "__len__" = some (some (.ref f_Bench___len__)))
    (na_Bench_own_history : PySem.W.findIn K (.ref c_Bench) "own_history" = some none)
    (na_Bench_own_network : PySem.W.findIn K (.ref c_Bench) "own_network" = some none)
    (na_Network_own_steps : PySem.W.findIn K (.ref c_Network) "own_steps" = some none)
    (na_Network_own_width : PySem.W.findIn K (.ref c_Network) "own_width" = some none)
    (rd_Network : PySem.W.readsIn K c_Network (.type "type") = true) (ga_Network : PySem.W.specialIn K (.ref c_Network) "__getattribute__" = some (some (.builtin "type.__getattribute__")))
    (sb_Network_Bench : PySem.W.subIn K (.ref c_Network) (.ref c_Bench) = some false)
    {t_Network_MAX_STEPS : Tok} (cv_Network_MAX_STEPS : PySem.W.findCls K (.ref c_Network) (.type "type") "MAX_STEPS" = some (.val (.int 1000 t_Network_MAX_STEPS)))
    {t_Network_MAX_WIDTH : Tok} (cv_Network_MAX_WIDTH : PySem.W.findCls K (.ref c_Network) (.type "type") "MAX_WIDTH" = some (.val (.int 40 t_Network_MAX_WIDTH)))
    (ha_Bench : PySem.W.findIn K (.ref c_Bench) "__class__" = some (some (.builtin "object.__class__"))) (hn_Bench : PySem.W.specialIn K (.builtin "object.__class__") "__get__" = some (some (.builtin "getset_descriptor.__get__"))) (ht_Bench : PySem.W.takesIn K (.builtin "object.__class__") = some true) (hm_Bench : PySem.W.mroIn K c_Bench (.type "object") = some true) (ki_Bench : PySem.W.isClsIn K c_Bench = true) (kj_Bench : PySem.W.typeIn K (.ref c_Bench) = some (.type "type"))
    (kt_Bench_NoneType : PySem.W.subIn K (.type "NoneType") (.ref c_Bench) = some false)
    (kt_Bench_bool : PySem.W.subIn K (.type "bool") (.ref c_Bench) = some false)
    (kt_Bench_int : PySem.W.subIn K (.type "int") (.ref c_Bench) = some false)
    (kt_Bench_str : PySem.W.subIn K (.type "str") (.ref c_Bench) = some false)
    (kt_Bench_list : PySem.W.subIn K (.type "list") (.ref c_Bench) = some false)
    (kt_Bench_tuple : PySem.W.subIn K (.type "tuple") (.ref c_Bench) = some false)
    (kt_Bench_dict : PySem.W.subIn K (.type "dict") (.ref c_Bench) = some false)
    (kxs_Network_Bench : PySem.W.subIn K (.ref c_Network) (.ref c_Bench) = some false) (kn_Network_Bench : (Value.ref c_Network == Value.ref c_Bench) = false)
    (ha_Network : PySem.W.findIn K (.ref c_Network) "__class__" = some (some (.builtin "object.__class__"))) (hn_Network : PySem.W.specialIn K (.builtin "object.__class__") "__get__" = some (some (.builtin "getset_descriptor.__get__"))) (ht_Network : PySem.W.takesIn K (.builtin "object.__class__") = some true) (hm_Network : PySem.W.mroIn K c_Network (.type "object") = some true) (ki_Network : PySem.W.isClsIn K c_Network = true) (kj_Network : PySem.W.typeIn K (.ref c_Network) = some (.type "type"))
    (kt_Network_NoneType : PySem.W.subIn K (.type "NoneType") (.ref c_Network) = some false)
    (kt_Network_bool : PySem.W.subIn K (.type "bool") (.ref c_Network) = some false)
    (kt_Network_int : PySem.W.subIn K (.type "int") (.ref c_Network) = some false)
    (kt_Network_str : PySem.W.subIn K (.type "str") (.ref c_Network) = some false)
    (kt_Network_list : PySem.W.subIn K (.type "list") (.ref c_Network) = some false)
    (kt_Network_tuple : PySem.W.subIn K (.type "tuple") (.ref c_Network) = some false)
    (kt_Network_dict : PySem.W.subIn K (.type "dict") (.ref c_Network) = some false)
    {t_ADD : Tok} (a_ADD : PySem.W.nsIn K mainGlobals "ADD" = some (some (.str "add" t_ADD)))
    {t_DROP : Tok} (a_DROP : PySem.W.nsIn K mainGlobals "DROP" = some (some (.str "drop" t_DROP)))
    {t_PLACE : Tok} (a_PLACE : PySem.W.nsIn K mainGlobals "PLACE" = some (some (.str "place" t_PLACE)))
    (z_abs : PySem.W.nsIn K mainGlobals "abs" = some none)
    (z_bool : PySem.W.nsIn K mainGlobals "bool" = some none)
    (z_enumerate : PySem.W.nsIn K mainGlobals "enumerate" = some none)
    (z_int : PySem.W.nsIn K mainGlobals "int" = some none)
    (z_isinstance : PySem.W.nsIn K mainGlobals "isinstance" = some none)
    (z_len : PySem.W.nsIn K mainGlobals "len" = some none)
    (z_list : PySem.W.nsIn K mainGlobals "list" = some none)
    (z_max : PySem.W.nsIn K mainGlobals "max" = some none)
    (z_min : PySem.W.nsIn K mainGlobals "min" = some none)
    (z_range : PySem.W.nsIn K mainGlobals "range" = some none)
    (z_repr : PySem.W.nsIn K mainGlobals "repr" = some none)
    (z_sum : PySem.W.nsIn K mainGlobals "sum" = some none)
    (z_tuple : PySem.W.nsIn K mainGlobals "tuple" = some none) :
    ∃ (T : Tx K mg), ∀ base : Heap, K.In base → base.Ns mainGlobals mg → FnG l.prog w K mg base (L2.CX l.prog w) 10 fa (spM T.ca K m_law) := by
  have e : fa = f_law := by
    have := hfa.symm.trans (PySem.W.mg_of X G a_law)
    cases this
    rfl
  rw [e]
  let T : Tx K mg := {
    c_Network := c_Network
    g_Network := PySem.W.mg_of X G a_Network
    c_Bench := c_Bench
    g_Bench := PySem.W.mg_of X G a_Bench
    f__law_source := f__law_source
    d__law_source := PySem.W.fnOf "_law_source" "_law_source" (defArgs s__law_source) (defBody s__law_source) (defScope s__law_source) .none kV__law_source dc__law_source pm__law_source an__law_source cd__law_source ct__law_source
    F__law_source := fun_mk (st := s__law_source) l__law_source q__law_source k__law_source
    B__law_source := (fun_mk (st := s__law_source) l__law_source q__law_source k__law_source).binds (ps := ["_law_script", "_law_k"]) fun _ _ _ _ _ _ us hl => match us, hl with | [_, _], _ => rfl
    g__law_source := PySem.W.mg_of X G a__law_source
    f__law_draw := f__law_draw
    d__law_draw := PySem.W.fnOf "_law_draw" "_law_draw" (defArgs s__law_draw) (defBody s__law_draw) (defScope s__law_draw) .none kV__law_draw dc__law_draw pm__law_draw an__law_draw cd__law_draw ct__law_draw
    F__law_draw := fun_mk (st := s__law_draw) l__law_draw q__law_draw k__law_draw
    B__law_draw := (fun_mk (st := s__law_draw) l__law_draw q__law_draw k__law_draw).binds (ps := ["_law_source_here", "_law_many"]) fun _ _ _ _ _ _ us hl => match us, hl with | [_, _], _ => rfl
    g__law_draw := PySem.W.mg_of X G a__law_draw
    f__law_steps := f__law_steps
    d__law_steps := PySem.W.fnOf "_law_steps" "_law_steps" (defArgs s__law_steps) (defBody s__law_steps) (defScope s__law_steps) .none kV__law_steps dc__law_steps pm__law_steps an__law_steps cd__law_steps ct__law_steps
    F__law_steps := fun_mk (st := s__law_steps) l__law_steps q__law_steps k__law_steps
    B__law_steps := (fun_mk (st := s__law_steps) l__law_steps q__law_steps k__law_steps).binds (ps := ["_law_source_here", "_law_width", "_law_many"]) fun _ _ _ _ _ _ us hl => match us, hl with | [_, _, _], _ => rfl
    g__law_steps := PySem.W.mg_of X G a__law_steps
    f__law_change := f__law_change
    d__law_change := PySem.W.fnOf "_law_change" "_law_change" (defArgs s__law_change) (defBody s__law_change) (defScope s__law_change) .none kV__law_change dc__law_change pm__law_change an__law_change cd__law_change ct__law_change
    F__law_change := fun_mk (st := s__law_change) l__law_change q__law_change k__law_change
    B__law_change := (fun_mk (st := s__law_change) l__law_change q__law_change k__law_change).binds (ps := ["_law_source_here", "_law_width", "_law_steps_here"]) fun _ _ _ _ _ _ us hl => match us, hl with | [_, _, _], _ => rfl
    g__law_change := PySem.W.mg_of X G a__law_change
    f__law_new_steps := f__law_new_steps
    d__law_new_steps := PySem.W.fnOf "_law_new_steps" "_law_new_steps" (defArgs s__law_new_steps) (defBody s__law_new_steps) (defScope s__law_new_steps) .none kV__law_new_steps dc__law_new_steps pm__law_new_steps an__law_new_steps cd__law_new_steps ct__law_new_steps
    F__law_new_steps := fun_mk (st := s__law_new_steps) l__law_new_steps q__law_new_steps k__law_new_steps
    B__law_new_steps := (fun_mk (st := s__law_new_steps) l__law_new_steps q__law_new_steps k__law_new_steps).binds (ps := ["_law_width", "_law_steps_here", "_law_change_here"]) fun _ _ _ _ _ _ us hl => match us, hl with | [_, _, _], _ => rfl
    g__law_new_steps := PySem.W.mg_of X G a__law_new_steps
    f_is_integer := f_is_integer
    d_is_integer := PySem.W.fnOf "is_integer" "is_integer" (defArgs s_is_integer) (defBody s_is_integer) (defScope s_is_integer) .none kV_is_integer dc_is_integer pm_is_integer an_is_integer cd_is_integer ct_is_integer
    F_is_integer := fun_mk (st := s_is_integer) l_is_integer q_is_integer k_is_integer
    B_is_integer := (fun_mk (st := s_is_integer) l_is_integer q_is_integer k_is_integer).binds (ps := ["value", "low", "high"]) fun _ _ _ _ _ _ us hl => match us, hl with | [_, _, _], _ => rfl
    g_is_integer := PySem.W.mg_of X G a_is_integer
    f_check_width := f_check_width
    d_check_width := PySem.W.fnOf "check_width" "check_width" (defArgs s_check_width) (defBody s_check_width) (defScope s_check_width) .none kV_check_width dc_check_width pm_check_width an_check_width cd_check_width ct_check_width
    F_check_width := fun_mk (st := s_check_width) l_check_width q_check_width k_check_width
    B_check_width := (fun_mk (st := s_check_width) l_check_width q_check_width k_check_width).binds (ps := ["width"]) fun _ _ _ _ _ _ us hl => match us, hl with | [_], _ => rfl
    g_check_width := PySem.W.mg_of X G a_check_width
    f_check_steps := f_check_steps
    d_check_steps := PySem.W.fnOf "check_steps" "check_steps" (defArgs s_check_steps) (defBody s_check_steps) (defScope s_check_steps) .none kV_check_steps dc_check_steps pm_check_steps an_check_steps cd_check_steps ct_check_steps
    F_check_steps := fun_mk (st := s_check_steps) l_check_steps q_check_steps k_check_steps
    B_check_steps := (fun_mk (st := s_check_steps) l_check_steps q_check_steps k_check_steps).binds (ps := ["width", "steps"]) fun _ _ _ _ _ _ us hl => match us, hl with | [_, _], _ => rfl
    g_check_steps := PySem.W.mg_of X G a_check_steps
    f_Network___init__ := f_Network___init__
    d_Network___init__ := PySem.W.fnOf "__init__" "Network.__init__" (defArgs s_Network___init__) (defBody s_Network___init__) (defScope s_Network___init__) .none kV_Network___init__ dc_Network___init__ pm_Network___init__ an_Network___init__ cd_Network___init__ ct_Network___init__
    F_Network___init__ := fun_mk (st := s_Network___init__) l_Network___init__ q_Network___init__ k_Network___init__
    B_Network___init__ := (fun_mk (st := s_Network___init__) l_Network___init__ q_Network___init__ k_Network___init__).binds (ps := ["self", "width", "steps"]) fun _ _ _ _ _ _ us hl => match us, hl with | [_, _, _], _ => rfl
    f_Network_empty := f_Network_empty
    d_Network_empty := PySem.W.fnOf "empty" "Network.empty" (defArgs s_Network_empty) (defBody s_Network_empty) (defScope s_Network_empty) .none kV_Network_empty dc_Network_empty pm_Network_empty an_Network_empty cd_Network_empty ct_Network_empty
    F_Network_empty := fun_mk (st := s_Network_empty) l_Network_empty q_Network_empty k_Network_empty
    B_Network_empty := (fun_mk (st := s_Network_empty) l_Network_empty q_Network_empty k_Network_empty).binds (ps := ["cls", "width"]) fun _ _ _ _ _ _ us hl => match us, hl with | [_, _], _ => rfl
    p_Network_empty := p_Network_empty
    cm_Network_empty := ⟨a_Network_empty, ⟨rs_Network_empty, rc_Network_empty⟩, i_Network_empty⟩
    f_Bench___init__ := f_Bench___init__
    d_Bench___init__ := PySem.W.fnOf "__init__" "Bench.__init__" (defArgs s_Bench___init__) (defBody s_Bench___init__) (defScope s_Bench___init__) .none kV_Bench___init__ dc_Bench___init__ pm_Bench___init__ an_Bench___init__ cd_Bench___init__ ct_Bench___init__
    F_Bench___init__ := fun_mk (st := s_Bench___init__) l_Bench___init__ q_Bench___init__ k_Bench___init__
    B_Bench___init__ := (fun_mk (st := s_Bench___init__) l_Bench___init__ q_Bench___init__ k_Bench___init__).binds (ps := ["self", "width"]) fun _ _ _ _ _ _ us hl => match us, hl with | [_, _], _ => rfl
    f_Bench_keep := f_Bench_keep
    d_Bench_keep := PySem.W.fnOf "keep" "Bench.keep" (defArgs s_Bench_keep) (defBody s_Bench_keep) (defScope s_Bench_keep) .none kV_Bench_keep dc_Bench_keep pm_Bench_keep an_Bench_keep cd_Bench_keep ct_Bench_keep
    F_Bench_keep := fun_mk (st := s_Bench_keep) l_Bench_keep q_Bench_keep k_Bench_keep
    B_Bench_keep := (fun_mk (st := s_Bench_keep) l_Bench_keep q_Bench_keep k_Bench_keep).binds (ps := ["self", "word", "steps"]) fun _ _ _ _ _ _ us hl => match us, hl with | [_, _, _], _ => rfl
    me_Bench_keep := ⟨a_Bench_keep, i_Bench_keep, k_Bench_keep⟩
    f_Bench_drop := f_Bench_drop
    d_Bench_drop := PySem.W.fnOf "drop" "Bench.drop" (defArgs s_Bench_drop) (defBody s_Bench_drop) (defScope s_Bench_drop) .none kV_Bench_drop dc_Bench_drop pm_Bench_drop an_Bench_drop cd_Bench_drop ct_Bench_drop
    F_Bench_drop := fun_mk (st := s_Bench_drop) l_Bench_drop q_Bench_drop k_Bench_drop
    B_Bench_drop := (fun_mk (st := s_Bench_drop) l_Bench_drop q_Bench_drop k_Bench_drop).binds (ps := ["self", "index"]) fun _ _ _ _ _ _ us hl => match us, hl with | [_, _], _ => rfl
    me_Bench_drop := ⟨a_Bench_drop, i_Bench_drop, k_Bench_drop⟩
    f_Bench_check_step := f_Bench_check_step
    d_Bench_check_step := PySem.W.fnOf "check_step" "Bench.check_step" (defArgs s_Bench_check_step) (defBody s_Bench_check_step) (defScope s_Bench_check_step) .none kV_Bench_check_step dc_Bench_check_step pm_Bench_check_step an_Bench_check_step cd_Bench_check_step ct_Bench_check_step
    F_Bench_check_step := fun_mk (st := s_Bench_check_step) l_Bench_check_step q_Bench_check_step k_Bench_check_step
    B_Bench_check_step := (fun_mk (st := s_Bench_check_step) l_Bench_check_step q_Bench_check_step k_Bench_check_step).binds (ps := ["self", "step", "index"]) fun _ _ _ _ _ _ us hl => match us, hl with | [_, _, _], _ => rfl
    me_Bench_check_step := ⟨a_Bench_check_step, i_Bench_check_step, k_Bench_check_step⟩
    f_check_count := f_check_count
    d_check_count := PySem.W.fnOf "check_count" "check_count" (defArgs s_check_count) (defBody s_check_count) (defScope s_check_count) .none kV_check_count dc_check_count pm_check_count an_check_count cd_check_count ct_check_count
    F_check_count := fun_mk (st := s_check_count) l_check_count q_check_count k_check_count
    B_check_count := (fun_mk (st := s_check_count) l_check_count q_check_count k_check_count).binds (ps := ["count"]) fun _ _ _ _ _ _ us hl => match us, hl with | [_], _ => rfl
    g_check_count := PySem.W.mg_of X G a_check_count
    f_Bench_place := f_Bench_place
    d_Bench_place := PySem.W.fnOf "place" "Bench.place" (defArgs s_Bench_place) (defBody s_Bench_place) (defScope s_Bench_place) .none kV_Bench_place dc_Bench_place pm_Bench_place an_Bench_place cd_Bench_place ct_Bench_place
    F_Bench_place := fun_mk (st := s_Bench_place) l_Bench_place q_Bench_place k_Bench_place
    B_Bench_place := (fun_mk (st := s_Bench_place) l_Bench_place q_Bench_place k_Bench_place).binds (ps := ["self", "index", "step"]) fun _ _ _ _ _ _ us hl => match us, hl with | [_, _, _], _ => rfl
    me_Bench_place := ⟨a_Bench_place, i_Bench_place, k_Bench_place⟩
    f_Network___len__ := f_Network___len__
    d_Network___len__ := PySem.W.fnOf "__len__" "Network.__len__" (defArgs s_Network___len__) (defBody s_Network___len__) (defScope s_Network___len__) .none kV_Network___len__ dc_Network___len__ pm_Network___len__ an_Network___len__ cd_Network___len__ ct_Network___len__
    F_Network___len__ := fun_mk (st := s_Network___len__) l_Network___len__ q_Network___len__ k_Network___len__
    B_Network___len__ := (fun_mk (st := s_Network___len__) l_Network___len__ q_Network___len__ k_Network___len__).binds (ps := ["self"]) fun _ _ _ _ _ _ us hl => match us, hl with | [_], _ => rfl
    f_Bench_add_all := f_Bench_add_all
    d_Bench_add_all := PySem.W.fnOf "add_all" "Bench.add_all" (defArgs s_Bench_add_all) (defBody s_Bench_add_all) (defScope s_Bench_add_all) .none kV_Bench_add_all dc_Bench_add_all pm_Bench_add_all an_Bench_add_all cd_Bench_add_all ct_Bench_add_all
    F_Bench_add_all := fun_mk (st := s_Bench_add_all) l_Bench_add_all q_Bench_add_all k_Bench_add_all
    B_Bench_add_all := (fun_mk (st := s_Bench_add_all) l_Bench_add_all q_Bench_add_all k_Bench_add_all).binds (ps := ["self", "steps"]) fun _ _ _ _ _ _ us hl => match us, hl with | [_, _], _ => rfl
    me_Bench_add_all := ⟨a_Bench_add_all, i_Bench_add_all, k_Bench_add_all⟩
    f_Bench_add := f_Bench_add
    d_Bench_add := PySem.W.fnOf "add" "Bench.add" (defArgs s_Bench_add) (defBody s_Bench_add) (defScope s_Bench_add) .none kV_Bench_add dc_Bench_add pm_Bench_add an_Bench_add cd_Bench_add ct_Bench_add
    F_Bench_add := fun_mk (st := s_Bench_add) l_Bench_add q_Bench_add k_Bench_add
    S_Bench_add := starB1 (fun _ => rfl) fun _ _ _ => rfl
    me_Bench_add := ⟨a_Bench_add, i_Bench_add, k_Bench_add⟩
    f__law_perform := f__law_perform
    d__law_perform := PySem.W.fnOf "_law_perform" "_law_perform" (defArgs s__law_perform) (defBody s__law_perform) (defScope s__law_perform) .none kV__law_perform dc__law_perform pm__law_perform an__law_perform cd__law_perform ct__law_perform
    F__law_perform := fun_mk (st := s__law_perform) l__law_perform q__law_perform k__law_perform
    B__law_perform := (fun_mk (st := s__law_perform) l__law_perform q__law_perform k__law_perform).binds (ps := ["_law_bench", "_law_change_here"]) fun _ _ _ _ _ _ us hl => match us, hl with | [_, _], _ => rfl
    g__law_perform := PySem.W.mg_of X G a__law_perform
    f__law_made := f__law_made
    d__law_made := PySem.W.fnOf "_law_made" "_law_made" (defArgs s__law_made) (defBody s__law_made) (defScope s__law_made) .none kV__law_made dc__law_made pm__law_made an__law_made cd__law_made ct__law_made
    F__law_made := fun_mk (st := s__law_made) l__law_made q__law_made k__law_made
    B__law_made := (fun_mk (st := s__law_made) l__law_made q__law_made k__law_made).binds (ps := ["_law_width", "_law_changes"]) fun _ _ _ _ _ _ us hl => match us, hl with | [_, _], _ => rfl
    g__law_made := PySem.W.mg_of X G a__law_made
    f_Bench_copy := f_Bench_copy
    d_Bench_copy := PySem.W.fnOf "copy" "Bench.copy" (defArgs s_Bench_copy) (defBody s_Bench_copy) (defScope s_Bench_copy) .none kV_Bench_copy dc_Bench_copy pm_Bench_copy an_Bench_copy cd_Bench_copy ct_Bench_copy
    F_Bench_copy := fun_mk (st := s_Bench_copy) l_Bench_copy q_Bench_copy k_Bench_copy
    B_Bench_copy := (fun_mk (st := s_Bench_copy) l_Bench_copy q_Bench_copy k_Bench_copy).binds (ps := ["self"]) fun _ _ _ _ _ _ us hl => match us, hl with | [_], _ => rfl
    me_Bench_copy := ⟨a_Bench_copy, i_Bench_copy, k_Bench_copy⟩
    f_Network___eq__ := f_Network___eq__
    d_Network___eq__ := PySem.W.fnOf "__eq__" "Network.__eq__" (defArgs s_Network___eq__) (defBody s_Network___eq__) (defScope s_Network___eq__) .none kV_Network___eq__ dc_Network___eq__ pm_Network___eq__ an_Network___eq__ cd_Network___eq__ ct_Network___eq__
    F_Network___eq__ := fun_mk (st := s_Network___eq__) l_Network___eq__ q_Network___eq__ k_Network___eq__
    B_Network___eq__ := (fun_mk (st := s_Network___eq__) l_Network___eq__ q_Network___eq__ k_Network___eq__).binds (ps := ["self", "other"]) fun _ _ _ _ _ _ us hl => match us, hl with | [_, _], _ => rfl
    f_Bench___eq__ := f_Bench___eq__
    d_Bench___eq__ := PySem.W.fnOf "__eq__" "Bench.__eq__" (defArgs s_Bench___eq__) (defBody s_Bench___eq__) (defScope s_Bench___eq__) .none kV_Bench___eq__ dc_Bench___eq__ pm_Bench___eq__ an_Bench___eq__ cd_Bench___eq__ ct_Bench___eq__
    F_Bench___eq__ := fun_mk (st := s_Bench___eq__) l_Bench___eq__ q_Bench___eq__ k_Bench___eq__
    B_Bench___eq__ := (fun_mk (st := s_Bench___eq__) l_Bench___eq__ q_Bench___eq__ k_Bench___eq__).binds (ps := ["self", "other"]) fun _ _ _ _ _ _ us hl => match us, hl with | [_, _], _ => rfl
    f_Bench___repr__ := f_Bench___repr__
    d_Bench___repr__ := PySem.W.fnOf "__repr__" "Bench.__repr__" (defArgs s_Bench___repr__) (defBody s_Bench___repr__) (defScope s_Bench___repr__) .none kV_Bench___repr__ dc_Bench___repr__ pm_Bench___repr__ an_Bench___repr__ cd_Bench___repr__ ct_Bench___repr__
    F_Bench___repr__ := fun_mk (st := s_Bench___repr__) l_Bench___repr__ q_Bench___repr__ k_Bench___repr__
    B_Bench___repr__ := (fun_mk (st := s_Bench___repr__) l_Bench___repr__ q_Bench___repr__ k_Bench___repr__).binds (ps := ["self"]) fun _ _ _ _ _ _ us hl => match us, hl with | [_], _ => rfl
    me_Bench___repr__ := ⟨a_Bench___repr__, i_Bench___repr__, k_Bench___repr__⟩
    f_Bench___len__ := f_Bench___len__
    d_Bench___len__ := PySem.W.fnOf "__len__" "Bench.__len__" (defArgs s_Bench___len__) (defBody s_Bench___len__) (defScope s_Bench___len__) .none kV_Bench___len__ dc_Bench___len__ pm_Bench___len__ an_Bench___len__ cd_Bench___len__ ct_Bench___len__
    F_Bench___len__ := fun_mk (st := s_Bench___len__) l_Bench___len__ q_Bench___len__ k_Bench___len__
    B_Bench___len__ := (fun_mk (st := s_Bench___len__) l_Bench___len__ q_Bench___len__ k_Bench___len__).binds (ps := ["self"]) fun _ _ _ _ _ _ us hl => match us, hl with | [_], _ => rfl
    f_Bench_changes := f_Bench_changes
    d_Bench_changes := PySem.W.fnOf "changes" "Bench.changes" (defArgs s_Bench_changes) (defBody s_Bench_changes) (defScope s_Bench_changes) .none kV_Bench_changes dc_Bench_changes pm_Bench_changes an_Bench_changes cd_Bench_changes ct_Bench_changes
    F_Bench_changes := fun_mk (st := s_Bench_changes) l_Bench_changes q_Bench_changes k_Bench_changes
    B_Bench_changes := (fun_mk (st := s_Bench_changes) l_Bench_changes q_Bench_changes k_Bench_changes).binds (ps := ["self"]) fun _ _ _ _ _ _ us hl => match us, hl with | [_], _ => rfl
    p_Bench_changes := p_Bench_changes
    pr_Bench_changes := ⟨a_Bench_changes, ge_Bench_changes, ta_Bench_changes, rs_Bench_changes, rc_Bench_changes⟩
    f__law_state := f__law_state
    d__law_state := PySem.W.fnOf "_law_state" "_law_state" (defArgs s__law_state) (defBody s__law_state) (defScope s__law_state) .none kV__law_state dc__law_state pm__law_state an__law_state cd__law_state ct__law_state
    F__law_state := fun_mk (st := s__law_state) l__law_state q__law_state k__law_state
    B__law_state := (fun_mk (st := s__law_state) l__law_state q__law_state k__law_state).binds (ps := ["_law_bench"]) fun _ _ _ _ _ _ us hl => match us, hl with | [_], _ => rfl
    g__law_state := PySem.W.mg_of X G a__law_state
    f__law_unlike := f__law_unlike
    d__law_unlike := PySem.W.fnOf "_law_unlike" "_law_unlike" (defArgs s__law_unlike) (defBody s__law_unlike) (defScope s__law_unlike) .none kV__law_unlike dc__law_unlike pm__law_unlike an__law_unlike cd__law_unlike ct__law_unlike
    F__law_unlike := fun_mk (st := s__law_unlike) l__law_unlike q__law_unlike k__law_unlike
    B__law_unlike := (fun_mk (st := s__law_unlike) l__law_unlike q__law_unlike k__law_unlike).binds (ps := ["_law_one", "_law_two"]) fun _ _ _ _ _ _ us hl => match us, hl with | [_, _], _ => rfl
    g__law_unlike := PySem.W.mg_of X G a__law_unlike
    f_is_any_integer := f_is_any_integer
    d_is_any_integer := PySem.W.fnOf "is_any_integer" "is_any_integer" (defArgs s_is_any_integer) (defBody s_is_any_integer) (defScope s_is_any_integer) .none kV_is_any_integer dc_is_any_integer pm_is_any_integer an_is_any_integer cd_is_any_integer ct_is_any_integer
    F_is_any_integer := fun_mk (st := s_is_any_integer) l_is_any_integer q_is_any_integer k_is_any_integer
    B_is_any_integer := (fun_mk (st := s_is_any_integer) l_is_any_integer q_is_any_integer k_is_any_integer).binds (ps := ["value"]) fun _ _ _ _ _ _ us hl => match us, hl with | [_], _ => rfl
    g_is_any_integer := PySem.W.mg_of X G a_is_any_integer
    f_Bench_undo := f_Bench_undo
    d_Bench_undo := (PySem.W.fnOf "undo" "Bench.undo" (defArgs s_Bench_undo) (defBody s_Bench_undo) (defScope s_Bench_undo) (.ref T_Bench_undo) kV_Bench_undo dc_Bench_undo pm_Bench_undo an_Bench_undo cd_Bench_undo ct_Bench_undo)
    F_Bench_undo := (funD1_mk (st := s_Bench_undo) l_Bench_undo q_Bench_undo k_Bench_undo t_Bench_undo (v := .int 1) ⟨_, rfl⟩)
    D_Bench_undo := defB_of (n := 1) (funD1_mk (st := s_Bench_undo) l_Bench_undo q_Bench_undo k_Bench_undo t_Bench_undo (v := .int 1) ⟨_, rfl⟩) rfl (fun _ _ _ _ _ _ _ us its hu hi => match us, its, hu, hi with | [_], [_], _, _ => ⟨_, rfl, rfl⟩) (fun _ _ _ _ _ _ _ us its hu hi => match us, its, hu, hi with | [_, _], [_], _, _ => ⟨_, rfl, rfl⟩)
    me_Bench_undo := ⟨a_Bench_undo, i_Bench_undo, k_Bench_undo⟩
    f__law_other_index_holds := f__law_other_index_holds
    d__law_other_index_holds := PySem.W.fnOf "_law_other_index_holds" "_law_other_index_holds" (defArgs s__law_other_index_holds) (defBody s__law_other_index_holds) (defScope s__law_other_index_holds) .none kV__law_other_index_holds dc__law_other_index_holds pm__law_other_index_holds an__law_other_index_holds cd__law_other_index_holds ct__law_other_index_holds
    F__law_other_index_holds := fun_mk (st := s__law_other_index_holds) l__law_other_index_holds q__law_other_index_holds k__law_other_index_holds
    B__law_other_index_holds := (fun_mk (st := s__law_other_index_holds) l__law_other_index_holds q__law_other_index_holds k__law_other_index_holds).binds (ps := []) fun _ _ _ _ _ _ us hl => match us, hl with | [], _ => rfl
    g__law_other_index_holds := PySem.W.mg_of X G a__law_other_index_holds
    f_law := f_law
    d_law := PySem.W.fnOf "law" "law" (defArgs s_law) (defBody s_law) (defScope s_law) .none kV_law dc_law pm_law an_law cd_law ct_law
    F_law := fun_mk (st := s_law) l_law q_law k_law
    B_law := (fun_mk (st := s_law) l_law q_law k_law).binds (ps := ["_law_script"]) fun _ _ _ _ _ _ us hl => match us, hl with | [_], _ => rfl
    g_law := PySem.W.mg_of X G a_law
    f_Bench_network := f_Bench_network
    d_Bench_network := PySem.W.fnOf "network" "Bench.network" (defArgs s_Bench_network) (defBody s_Bench_network) (defScope s_Bench_network) .none kV_Bench_network dc_Bench_network pm_Bench_network an_Bench_network cd_Bench_network ct_Bench_network
    F_Bench_network := fun_mk (st := s_Bench_network) l_Bench_network q_Bench_network k_Bench_network
    B_Bench_network := (fun_mk (st := s_Bench_network) l_Bench_network q_Bench_network k_Bench_network).binds (ps := ["self"]) fun _ _ _ _ _ _ us hl => match us, hl with | [_], _ => rfl
    p_Bench_network := p_Bench_network
    pr_Bench_network := ⟨a_Bench_network, ge_Bench_network, ta_Bench_network, rs_Bench_network, rc_Bench_network⟩
    f_Network_steps := f_Network_steps
    d_Network_steps := PySem.W.fnOf "steps" "Network.steps" (defArgs s_Network_steps) (defBody s_Network_steps) (defScope s_Network_steps) .none kV_Network_steps dc_Network_steps pm_Network_steps an_Network_steps cd_Network_steps ct_Network_steps
    F_Network_steps := fun_mk (st := s_Network_steps) l_Network_steps q_Network_steps k_Network_steps
    B_Network_steps := (fun_mk (st := s_Network_steps) l_Network_steps q_Network_steps k_Network_steps).binds (ps := ["self"]) fun _ _ _ _ _ _ us hl => match us, hl with | [_], _ => rfl
    p_Network_steps := p_Network_steps
    pr_Network_steps := ⟨a_Network_steps, ge_Network_steps, ta_Network_steps, rs_Network_steps, rc_Network_steps⟩
    f_Network_width := f_Network_width
    d_Network_width := PySem.W.fnOf "width" "Network.width" (defArgs s_Network_width) (defBody s_Network_width) (defScope s_Network_width) .none kV_Network_width dc_Network_width pm_Network_width an_Network_width cd_Network_width ct_Network_width
    F_Network_width := fun_mk (st := s_Network_width) l_Network_width q_Network_width k_Network_width
    B_Network_width := (fun_mk (st := s_Network_width) l_Network_width q_Network_width k_Network_width).binds (ps := ["self"]) fun _ _ _ _ _ _ us hl => match us, hl with | [_], _ => rfl
    p_Network_width := p_Network_width
    pr_Network_width := ⟨a_Network_width, ge_Network_width, ta_Network_width, rs_Network_width, rc_Network_width⟩
    cl_Network := ⟨pg_Network, hd_Network, po_Network, sa_Network⟩
    mk_Network := ⟨mk_Network, a_Network___init__, i_Network___init__, kc_Network⟩
    oe_Network := ⟨a_Network___eq__, i_Network___eq__, _, nm_Network, qn_Network, N_Network, bs_Network, hdc_Network, sn_Network, sub_Network, ab_Network, col_Network, dd_Network, m0_Network, m1_Network, m2_Network, m3_Network, m5_Network, ni_Network, xl_Network, nsOk_of xn_Network ss_Network, ne_Network, nn_Network, l_Network___eq__, rfl⟩
    ol_Network := ⟨_, nm_Network, qn_Network, N_Network, bs_Network, hdc_Network, sn_Network, sub_Network, ab_Network, col_Network, dd_Network, m0_Network, m1_Network, m2_Network, m3_Network, m5_Network, ni_Network, xl_Network, nsOk_of xn_Network ss_Network, nl_Network, l_Network___len__, rfl⟩
    cl_Bench := ⟨pg_Bench, hd_Bench, po_Bench, sa_Bench⟩
    mk_Bench := ⟨mk_Bench, a_Bench___init__, i_Bench___init__, kc_Bench⟩
    oe_Bench := ⟨a_Bench___eq__, i_Bench___eq__, _, nm_Bench, qn_Bench, N_Bench, bs_Bench, hdc_Bench, sn_Bench, sub_Bench, ab_Bench, col_Bench, dd_Bench, m0_Bench, m1_Bench, m2_Bench, m3_Bench, m5_Bench, ni_Bench, xl_Bench, nsOk_of xn_Bench ss_Bench, ne_Bench, nn_Bench, l_Bench___eq__, rfl⟩
    ol_Bench := ⟨_, nm_Bench, qn_Bench, N_Bench, bs_Bench, hdc_Bench, sn_Bench, sub_Bench, ab_Bench, col_Bench, dd_Bench, m0_Bench, m1_Bench, m2_Bench, m3_Bench, m5_Bench, ni_Bench, xl_Bench, nsOk_of xn_Bench ss_Bench, nl_Bench, l_Bench___len__, rfl⟩
    na_Bench_own_history := na_Bench_own_history
    na_Bench_own_network := na_Bench_own_network
    na_Network_own_steps := na_Network_own_steps
    na_Network_own_width := na_Network_own_width
    mc_Network := .type "type"
    rd_Network := ⟨rd_Network, ga_Network⟩
    sb_Network_Bench := sb_Network_Bench
    v_Network_MAX_STEPS := .int 1000 t_Network_MAX_STEPS
    cv_Network_MAX_STEPS := ⟨cv_Network_MAX_STEPS, _, rfl⟩
    v_Network_MAX_WIDTH := .int 40 t_Network_MAX_WIDTH
    cv_Network_MAX_WIDTH := ⟨cv_Network_MAX_WIDTH, _, rfl⟩
    kx_Network_Bench := kit_ref ki_Bench kj_Bench kxs_Network_Bench fun _ => kn_Network_Bench
    it_Bench := ⟨⟨⟨pg_Bench, hd_Bench, po_Bench, sa_Bench⟩, ha_Bench, hn_Bench, ht_Bench, hm_Bench⟩, kit_self⟩
    nfi_Bench := fun d n h => by
      cases d <;> first | (cases h; done) | (cases h; first | exact notF_of kt_Bench_NoneType | exact notF_of kt_Bench_bool | exact notF_of kt_Bench_int | exact notF_of kt_Bench_str | exact notF_of kt_Bench_list | exact notF_of kt_Bench_tuple | exact notF_of kt_Bench_dict)
    ib0_Bench := fun d n h => by
      cases d <;> first | (cases h; done) | (cases h; first | exact kit_no ki_Bench kj_Bench kt_Bench_NoneType | exact kit_no ki_Bench kj_Bench kt_Bench_bool | exact kit_no ki_Bench kj_Bench kt_Bench_int | exact kit_no ki_Bench kj_Bench kt_Bench_str | exact kit_no ki_Bench kj_Bench kt_Bench_list | exact kit_no ki_Bench kj_Bench kt_Bench_tuple | exact kit_no ki_Bench kj_Bench kt_Bench_dict)
    it_Network := ⟨⟨⟨pg_Network, hd_Network, po_Network, sa_Network⟩, ha_Network, hn_Network, ht_Network, hm_Network⟩, kit_self⟩
    nfi_Network := fun d n h => by
      cases d <;> first | (cases h; done) | (cases h; first | exact notF_of kt_Network_NoneType | exact notF_of kt_Network_bool | exact notF_of kt_Network_int | exact notF_of kt_Network_str | exact notF_of kt_Network_list | exact notF_of kt_Network_tuple | exact notF_of kt_Network_dict)
    ib0_Network := fun d n h => by
      cases d <;> first | (cases h; done) | (cases h; first | exact kit_no ki_Network kj_Network kt_Network_NoneType | exact kit_no ki_Network kj_Network kt_Network_bool | exact kit_no ki_Network kj_Network kt_Network_int | exact kit_no ki_Network kj_Network kt_Network_str | exact kit_no ki_Network kj_Network kt_Network_list | exact kit_no ki_Network kj_Network kt_Network_tuple | exact kit_no ki_Network kj_Network kt_Network_dict)
    u_ADD := .str "add" t_ADD
    gc_ADD := PySem.W.mg_of X G a_ADD
    rc_ADD := ⟨_, rfl⟩
    u_DROP := .str "drop" t_DROP
    gc_DROP := PySem.W.mg_of X G a_DROP
    rc_DROP := ⟨_, rfl⟩
    u_PLACE := .str "place" t_PLACE
    gc_PLACE := PySem.W.mg_of X G a_PLACE
    rc_PLACE := ⟨_, rfl⟩
    z_abs := PySem.W.mg_none_of X G z_abs
    z_bool := PySem.W.mg_none_of X G z_bool
    z_enumerate := PySem.W.mg_none_of X G z_enumerate
    z_int := PySem.W.mg_none_of X G z_int
    z_isinstance := PySem.W.mg_none_of X G z_isinstance
    z_len := PySem.W.mg_none_of X G z_len
    z_list := PySem.W.mg_none_of X G z_list
    z_max := PySem.W.mg_none_of X G z_max
    z_min := PySem.W.mg_none_of X G z_min
    z_range := PySem.W.mg_none_of X G z_range
    z_repr := PySem.W.mg_none_of X G z_repr
    z_sum := PySem.W.mg_none_of X G z_sum
    z_tuple := PySem.W.mg_none_of X G z_tuple }
  exact ⟨T, fun base _ _ => ok_law T⟩
theorem walk_fact {P : Program} {w : World} {K : PySem.W.Frag} {mg : Str → Option Value} {fa : Addr} (h : ∃ (T : Tx K mg), ∀ base : Heap, K.In base → base.Ns mainGlobals mg → FnG P w K mg base (L2.CX P w) 10 fa (spM T.ca K m_law)) :
    ∃ (ca : Nat → Addr), ∀ base : Heap, K.In base → base.Ns mainGlobals mg → FnG P w K mg base (L2.CX P w) 10 fa (spM ca K m_law) :=
  let ⟨T, h1⟩ := h
  ⟨T.ca, h1⟩
end Lw70

namespace Lw70
open PySem (Str)
open DL Nw
local macro_rules | `(tactic| walk_at "g") => `(tactic| first | exact rfl | (with_reducible assumption))
local macro_rules | `(tactic| walk_at "s") => `(tactic| first | (with_reducible exact set_0) | ((with_reducible apply set_s); walk_at "s") | (with_reducible assumption) | exact rfl)
local macro_rules | `(tactic| walk_at "fl") => `(tactic| first | (with_reducible exact nums_frz _) | (with_reducible exact fzL_n) | ((with_reducible apply fzL_c); walk_at "f"; walk_at "fl") | (with_reducible assumption))
local macro_rules | `(tactic| walk_at "f") => `(tactic| first | (with_reducible exact fz_i) | (with_reducible exact fz_b) | (with_reducible exact fz_n) | (with_reducible exact fz_s) | (with_reducible exact fz_l) | (with_reducible exact fz_t) | ((with_reducible apply fz_lst); walk_at "fl") | ((with_reducible apply fz_tup); walk_at "fl") | (with_reducible assumption) | exact rfl)
local macro_rules | `(tactic| walk_at "k") => `(tactic| first | (with_reducible assumption) | (with_reducible exact rfl) | omega | (intro z; omega) | decide)
local macro_rules | `(tactic| walk_at "d") => `(tactic| first | (with_reducible exact od_val) | (with_reducible exact od_newL) | (with_reducible exact od_newT) | ((with_reducible apply od_eq); first | (with_reducible exact rfl) | ((with_reducible apply nbl_n); walk_at "k") | ((with_reducible apply bl_n); walk_at "k") | ((with_reducible apply bl_y); walk_at "k") | ((with_reducible apply nbl_y); walk_at "k")))
local macro_rules | `(tactic| walk_at "h") => `(tactic| first | (with_reducible assumption) | (simp only [List.nil_append, List.cons_append]; with_reducible assumption))
local macro_rules | `(tactic| walk_at "o") => `(tactic| first | (with_reducible assumption) | (with_reducible exact add_i) | (with_reducible exact sub_i) | (with_reducible exact lt_i) | (with_reducible exact le_i) | (with_reducible exact gt_i) | (with_reducible exact ge_i) | (with_reducible exact int_i) | (with_reducible exact int_b) | (with_reducible exact abs_i) | (with_reducible exact neg_i) | (with_reducible exact oLen_l) | (with_reducible exact oLen_scr _) | (with_reducible exact len_t) | (with_reducible exact tup_t) | (with_reducible exact oSorted_l) | (with_reducible exact oSum_nums _ _) | (with_reducible exact eq_of (pEq_int _ _)) | (with_reducible exact ne_of (pNe_int _ _)) | (with_reducible exact eq_of (pEq_lst _ _ _ _)) | (with_reducible exact ne_of (pNe_lst _ _ _ _)) | (with_reducible exact eq_of (pEq_tup _ _)) | (with_reducible exact ne_of (pNe_tup _ _)) | (with_reducible exact eq_of (pEq_bl _ _)) | (with_reducible exact ne_of (pNe_bl _ _)) | ((with_reducible apply lst_o); omega) | ((with_reducible apply lst_t); omega) | ((with_reducible apply tup_l); omega) | ((with_reducible apply oMod_v); omega) | ((with_reducible apply oDiv_v); omega; omega) | ((with_reducible apply oDiv_w); omega; omega) | ((with_reducible apply oMul_v); omega) | ((with_reducible apply oMul_l); omega) | ((with_reducible apply oIx_nums); omega; omega) | ((with_reducible apply oIx_tup); omega; omega))
local macro_rules | `(tactic| walk_at "a") => `(tactic| first | (with_reducible exact xANil) | ((with_reducible apply xACons); walk_at "e"; walk_at "a"))
local macro_rules | `(tactic| walk_at "it") => `(tactic| first | (with_reducible exact lst_it) | (with_reducible exact tup_it) | exact rfl)
local macro_rules | `(tactic| walk_at "cd") => `(tactic| first | (with_reducible exact nums_colds _) | (with_reducible exact colds_range _ _) | (with_reducible assumption) | exact rfl)
local macro_rules | `(tactic| walk_at "w") => `(tactic| first | ((with_reducible apply wE); walk_at "e"; walk_at "it"; walk_at "cd") | (with_reducible assumption))
local macro_rules | `(tactic| walk_at "e") => `(tactic| first | (with_reducible assumption) | (with_reducible exact xC) | ((with_reducible apply xN); walk_at "g"; exact rfl) | ((with_reducible apply xNf); walk_at "g"; exact rfl; walk_at "f"; walk_at "s") | ((with_reducible apply xMv); walk_at "g"; walk_at "s") | ((with_reducible apply xOvv); walk_at "e"; walk_at "e"; walk_at "o"; walk_at "d") | ((with_reducible apply xOvs); walk_at "e"; walk_at "g"; walk_at "o"; walk_at "d") | ((with_reducible apply xOsv); walk_at "g"; walk_at "e"; walk_at "g"; walk_at "o"; walk_at "d") | ((with_reducible apply xOss); walk_at "g"; walk_at "g"; walk_at "o"; walk_at "d") | ((with_reducible apply xOv); walk_at "e"; walk_at "o"; walk_at "d") | ((with_reducible apply xOs); walk_at "g"; walk_at "o"; walk_at "d") | ((with_reducible apply xCall); walk_at "a"; walk_at "h") | ((with_reducible apply xCallL); walk_at "a"; walk_at "g"; walk_at "a"; walk_at "g"; exact rfl; walk_at "h"; exact rfl; walk_at "s") | ((with_reducible apply xCallLc); walk_at "a"; walk_at "g"; walk_at "a"; walk_at "g"; exact rfl; walk_at "h") | ((with_reducible apply xMake); walk_at "a"; walk_at "h") | ((with_reducible apply xFz); walk_at "e"; walk_at "f") | ((with_reducible apply xMth); walk_at "e"; walk_at "m"; walk_at "a"; walk_at "h") | ((with_reducible apply xLst); walk_at "a"; exact rfl) | ((with_reducible apply xTup); walk_at "a"; exact rfl; walk_at "fl") | ((with_reducible apply xNot); walk_at "e") | ((with_reducible apply xAndB); walk_at "e"; walk_at "e") | ((with_reducible apply xOrB); walk_at "e"; walk_at "e") | ((with_reducible apply xIfT); walk_at "c"; walk_at "e") | ((with_reducible apply xIfF); walk_at "c"; walk_at "e") | ((with_reducible apply xApp); walk_at "g"; exact rfl; walk_at "e"; walk_at "g"; walk_at "n"; walk_at "s") | ((with_reducible apply xExt); walk_at "g"; exact rfl; walk_at "e"; walk_at "g"; walk_at "n"; walk_at "s") | ((with_reducible apply xExtT); walk_at "g"; exact rfl; walk_at "e"; walk_at "g"; walk_at "n"; walk_at "s") | ((with_reducible apply xMtS); walk_at "g"; exact rfl; walk_at "g"; walk_at "o"; walk_at "d") | ((with_reducible apply xEqI); walk_at "e"; walk_at "e"; exact rfl; exact rfl; walk_at "h"; walk_at "i") | ((with_reducible apply xLenI); walk_at "e"; exact rfl; walk_at "h"; walk_at "n"))
local macro_rules | `(tactic| walk_at "i") => `(tactic| first | exact rfl | (show D.bl (decide _) = _; apply bl_y; walk_at "k") | (show D.bl (!decide _) = _; apply nbl_n; walk_at "k"))
local macro_rules | `(tactic| walk_at "n") => `(tactic| first | (simp only [nums_len, List.length_append, List.length_cons, List.length_nil]; omega) | omega | exact rfl)
local macro_rules | `(tactic| walk_at "c") => `(tactic| first | ((with_reducible apply cE); walk_at "e") | ((with_reducible apply cNotF); walk_at "c") | ((with_reducible apply cNotT); walk_at "c") | ((with_reducible apply cOrT); walk_at "c") | ((with_reducible apply cAndF); walk_at "c") | ((with_reducible apply cOrF); walk_at "c"; walk_at "c") | ((with_reducible apply cAndT); walk_at "c"; walk_at "c"))
local macro_rules | `(tactic| walk_at "t") => `(tactic| first | ((with_reducible apply gN_r); walk_at "s") | ((with_reducible apply gIx_r); exact rfl; walk_at "g"; walk_at "e"; walk_at "g"; walk_at "j"; walk_at "s"))
local macro_rules | `(tactic| walk_at "j") => `(tactic| first | exact rfl | (simp only [nums_len]; apply ixN_nat <;> omega))
local macro_rules | `(tactic| walk_at "z") => `(tactic| first | ((with_reducible apply zAsg); walk_at "e"; walk_at "t") | ((with_reducible apply zExpr); walk_at "e") | ((with_reducible apply zRet); walk_at "e") | ((with_reducible apply zPar); walk_at "a"; walk_at "s"; walk_at "s") | ((with_reducible apply zAug); walk_at "g"; exact rfl; walk_at "e"; walk_at "o"; walk_at "s") | (with_reducible exact zSkip) | ((with_reducible apply zNo); walk_at "c"; walk_at "z") | ((with_reducible apply zYes); walk_at "c"; walk_at "z") | ((with_reducible apply zSeq); walk_at "z"; walk_at "z") | ((with_reducible apply zSeqR); walk_at "z"))
local macro_rules | `(tactic| walk_at "m") => `(tactic| first | (with_reducible assumption) | exact rfl)
theorem fw_ne : (("own_width" : Str) = "own_steps") = False := eq_false (by decide +kernel)
theorem fs_ne : (("own_steps" : Str) = "own_width") = False := eq_false (by decide +kernel)
theorem fs_beq : (("own_steps" : Str) == "own_width") = false := by decide +kernel
abbrev net (o : Bool) (w : Int) (ss : List Int) : D := .ins o 0 [("own_width", .int w), ("own_steps", .tup (nums ss))]
theorem is_integer_ok (a lo hi : Int) : m_is_integer [.int a, .int lo, .int hi] = .ok (.bl (decide (lo ≤ a ∧ a ≤ hi))) [some (.int a), some (.int lo), some (.int hi)] := by
  by_cases h1 : lo ≤ a <;> by_cases h2 : a ≤ hi <;> simp [m_is_integer, b_is_integer, h1, h2, fn, sSeq, SR.thn, sAsg, sExpr, sRet, sRetN, sIf, sNext, sFail, sBrk, sCont, Res.toS, Res.toN, Res.bind, tE, tNotM, tOrM, tAndM, tYesM, eC, eN, eMv, eOp, opds, eAnd, eOr, eNot, eIf, eChain, aNil, aCons, eLst, eTup, eCall, eCallL, eFz, eLc, eLc2, eApp, isLst, wipeS, eMake, eEqI, insC, keepL, getS, gN, gIx, gT, gTupM, sPar, sFor, iR1, iR2, iRD, iE, iEn, iEnT, iEnA, iEA, oIsiB, noScr, tyName, f2, pLe, pLt, pGe, pGt, oAdd, oSub, oMul, oMod, oDiv, oPow, oNeg, oAbs, oInt, oMax2, oMin2, oLen, items, lstItems, tupItems, hot, cold, Out.d, frz, frzL, frzF, List.range, List.range.loop, isN, oIsN, oNotN, oIsB, oNotB, pEq_int, pNe_int, pEq_bl, pNe_bl, pEq_lst, pNe_lst, pEq_tup, pNe_tup, kb_NoneType_int, kb_NoneType_bool, kb_NoneType_list, kb_NoneType_tuple, kb_NoneType_str, kb_bool_int, kb_bool_bool, kb_bool_list, kb_bool_tuple, kb_bool_str, kb_int_int, kb_int_bool, kb_int_list, kb_int_tuple, kb_int_str, kb_str_int, kb_str_bool, kb_str_list, kb_str_tuple, kb_str_str, kb_list_int, kb_list_bool, kb_list_list, kb_list_tuple, kb_list_str, kb_tuple_int, kb_tuple_bool, kb_tuple_list, kb_tuple_tuple, kb_tuple_str, kb_dict_int, kb_dict_bool, kb_dict_list, kb_dict_tuple, kb_dict_str]
theorem is_any_ok (a : Int) : m_is_any_integer [.int a] = .ok (.bl true) [some (.int a)] := by
  simp [m_is_any_integer, b_is_any_integer, fn, sSeq, SR.thn, sAsg, sExpr, sRet, sRetN, sIf, sNext, sFail, sBrk, sCont, Res.toS, Res.toN, Res.bind, tE, tNotM, tOrM, tAndM, tYesM, eC, eN, eMv, eOp, opds, eAnd, eOr, eNot, eIf, eChain, aNil, aCons, eLst, eTup, eCall, eCallL, eFz, eLc, eLc2, eApp, isLst, wipeS, eMake, eEqI, insC, keepL, getS, gN, gIx, gT, gTupM, sPar, sFor, iR1, iR2, iRD, iE, iEn, iEnT, iEnA, iEA, oIsiB, noScr, tyName, f2, pLe, pLt, pGe, pGt, oAdd, oSub, oMul, oMod, oDiv, oPow, oNeg, oAbs, oInt, oMax2, oMin2, oLen, items, lstItems, tupItems, hot, cold, Out.d, frz, frzL, frzF, List.range, List.range.loop, isN, oIsN, oNotN, oIsB, oNotB, pEq_int, pNe_int, pEq_bl, pNe_bl, pEq_lst, pNe_lst, pEq_tup, pNe_tup, kb_NoneType_int, kb_NoneType_bool, kb_NoneType_list, kb_NoneType_tuple, kb_NoneType_str, kb_bool_int, kb_bool_bool, kb_bool_list, kb_bool_tuple, kb_bool_str, kb_int_int, kb_int_bool, kb_int_list, kb_int_tuple, kb_int_str, kb_str_int, kb_str_bool, kb_str_list, kb_str_tuple, kb_str_str, kb_list_int, kb_list_bool, kb_list_list, kb_list_tuple, kb_list_str, kb_tuple_int, kb_tuple_bool, kb_tuple_list, kb_tuple_tuple, kb_tuple_str, kb_dict_int, kb_dict_bool, kb_dict_list, kb_dict_tuple, kb_dict_str]
theorem check_width_ok {w : Int} (h1 : 1 ≤ w) (h2 : w ≤ 40) : m_check_width [.int w] = .ok .non [some (.int w)] := by
  simp [m_check_width, b_check_width, is_integer_ok, h1, h2, fn, sSeq, SR.thn, sAsg, sExpr, sRet, sRetN, sIf, sNext, sFail, sBrk, sCont, Res.toS, Res.toN, Res.bind, tE, tNotM, tOrM, tAndM, tYesM, eC, eN, eMv, eOp, opds, eAnd, eOr, eNot, eIf, eChain, aNil, aCons, eLst, eTup, eCall, eCallL, eFz, eLc, eLc2, eApp, isLst, wipeS, eMake, eEqI, insC, keepL, getS, gN, gIx, gT, gTupM, sPar, sFor, iR1, iR2, iRD, iE, iEn, iEnT, iEnA, iEA, oIsiB, noScr, tyName, f2, pLe, pLt, pGe, pGt, oAdd, oSub, oMul, oMod, oDiv, oPow, oNeg, oAbs, oInt, oMax2, oMin2, oLen, items, lstItems, tupItems, hot, cold, Out.d, frz, frzL, frzF, List.range, List.range.loop, isN, oIsN, oNotN, oIsB, oNotB, pEq_int, pNe_int, pEq_bl, pNe_bl, pEq_lst, pNe_lst, pEq_tup, pNe_tup, kb_NoneType_int, kb_NoneType_bool, kb_NoneType_list, kb_NoneType_tuple, kb_NoneType_str, kb_bool_int, kb_bool_bool, kb_bool_list, kb_bool_tuple, kb_bool_str, kb_int_int, kb_int_bool, kb_int_list, kb_int_tuple, kb_int_str, kb_str_int, kb_str_bool, kb_str_list, kb_str_tuple, kb_str_str, kb_list_int, kb_list_bool, kb_list_list, kb_list_tuple, kb_list_str, kb_tuple_int, kb_tuple_bool, kb_tuple_list, kb_tuple_tuple, kb_tuple_str, kb_dict_int, kb_dict_bool, kb_dict_list, kb_dict_tuple, kb_dict_str]
theorem okS_at {w : Int} {ss : List Int} {i : Nat} {s : Int} (h : okS w ss) (e : ss[i]? = some s) : 1 ≤ s ∧ s ≤ w - 1 := h s (List.mem_of_getElem? e)
theorem check_steps_ok {w : Int} {ss : List Int} (h : okS w ss) (hl : ss.length ≤ 1000) : m_check_steps [.int w, .lst false (nums ss)] = .ok .non [some (.int w), some (.lst false (nums ss))] := by
  obtain ⟨st', e, x, y, hst⟩ := forD_ok (g := fg1_check_steps) (body := fb1_check_steps) (fun _ st => ∃ x y, st = [some (.int w), some (.lst false (nums ss)), x, y]) (enumD 0 (nums ss)) 0
    [some (.int w), some (.lst false (nums ss)), none, none] ⟨none, none, rfl⟩ (fun i d st e hI => by
      obtain ⟨x, y, rfl⟩ := hI
      obtain ⟨d', e1, rfl⟩ := enumD_get e
      obtain ⟨s, e2, rfl⟩ := nums_get e1
      obtain ⟨h1, h2⟩ := okS_at h e2
      refine ⟨_, [some (.int w), some (.lst false (nums ss)), some (.int ((0 + i : Nat) : Int)), some (.int s)], rfl, .inl ?_, _, _, rfl⟩
      have h3 : s ≤ w - 1 := h2
      simp [fb1_check_steps, is_integer_ok, h1, h3, fn, sSeq, SR.thn, sAsg, sExpr, sRet, sRetN, sIf, sNext, sFail, sBrk, sCont, Res.toS, Res.toN, Res.bind, tE, tNotM, tOrM, tAndM, tYesM, eC, eN, eMv, eOp, opds, eAnd, eOr, eNot, eIf, eChain, aNil, aCons, eLst, eTup, eCall, eCallL, eFz, eLc, eLc2, eApp, isLst, wipeS, eMake, eEqI, insC, keepL, getS, gN, gIx, gT, gTupM, sPar, sFor, iR1, iR2, iRD, iE, iEn, iEnT, iEnA, iEA, oIsiB, noScr, tyName, f2, pLe, pLt, pGe, pGt, oAdd, oSub, oMul, oMod, oDiv, oPow, oNeg, oAbs, oInt, oMax2, oMin2, oLen, items, lstItems, tupItems, hot, cold, Out.d, frz, frzL, frzF, List.range, List.range.loop, isN, oIsN, oNotN, oIsB, oNotB, pEq_int, pNe_int, pEq_bl, pNe_bl, pEq_lst, pNe_lst, pEq_tup, pNe_tup, kb_NoneType_int, kb_NoneType_bool, kb_NoneType_list, kb_NoneType_tuple, kb_NoneType_str, kb_bool_int, kb_bool_bool, kb_bool_list, kb_bool_tuple, kb_bool_str, kb_int_int, kb_int_bool, kb_int_list, kb_int_tuple, kb_int_str, kb_str_int, kb_str_bool, kb_str_list, kb_str_tuple, kb_str_str, kb_list_int, kb_list_bool, kb_list_list, kb_list_tuple, kb_list_str, kb_tuple_int, kb_tuple_bool, kb_tuple_list, kb_tuple_tuple, kb_tuple_str, kb_dict_int, kb_dict_bool, kb_dict_list, kb_dict_tuple, kb_dict_str])
  subst hst
  have h4 : ¬ (1000 < (ss.length : Int)) := by omega
  simp [m_check_steps, b_check_steps, oIsi2, nums_len, nums_colds, e, h4, fn, sSeq, SR.thn, sAsg, sExpr, sRet, sRetN, sIf, sNext, sFail, sBrk, sCont, Res.toS, Res.toN, Res.bind, tE, tNotM, tOrM, tAndM, tYesM, eC, eN, eMv, eOp, opds, eAnd, eOr, eNot, eIf, eChain, aNil, aCons, eLst, eTup, eCall, eCallL, eFz, eLc, eLc2, eApp, isLst, wipeS, eMake, eEqI, insC, keepL, getS, gN, gIx, gT, gTupM, sPar, sFor, iR1, iR2, iRD, iE, iEn, iEnT, iEnA, iEA, oIsiB, noScr, tyName, f2, pLe, pLt, pGe, pGt, oAdd, oSub, oMul, oMod, oDiv, oPow, oNeg, oAbs, oInt, oMax2, oMin2, oLen, items, lstItems, tupItems, hot, cold, Out.d, frz, frzL, frzF, List.range, List.range.loop, isN, oIsN, oNotN, oIsB, oNotB, pEq_int, pNe_int, pEq_bl, pNe_bl, pEq_lst, pNe_lst, pEq_tup, pNe_tup, kb_NoneType_int, kb_NoneType_bool, kb_NoneType_list, kb_NoneType_tuple, kb_NoneType_str, kb_bool_int, kb_bool_bool, kb_bool_list, kb_bool_tuple, kb_bool_str, kb_int_int, kb_int_bool, kb_int_list, kb_int_tuple, kb_int_str, kb_str_int, kb_str_bool, kb_str_list, kb_str_tuple, kb_str_str, kb_list_int, kb_list_bool, kb_list_list, kb_list_tuple, kb_list_str, kb_tuple_int, kb_tuple_bool, kb_tuple_list, kb_tuple_tuple, kb_tuple_str, kb_dict_int, kb_dict_bool, kb_dict_list, kb_dict_tuple, kb_dict_str]
theorem init_ok {w : Int} {ss : List Int} (h1 : 1 ≤ w) (h2 : w ≤ 40) (h : okS w ss) (hl : ss.length ≤ 1000) (o : Bool) : ∃ ps, m_Network___init__ [.ins true 0 [], .int w, .lst o (nums ss)] = .ok .non (some (net true w ss) :: ps) := by
  have h3 : ss.length ≤ 16777216 := by omega
  cases o <;> simp [m_Network___init__, b_Network___init__, check_width_ok h1 h2, check_steps_ok h hl, sFldM, oTuple, putD, fw_ne, fs_ne, nums_frz, nums_len, nums_colds, h3, net, fn, sSeq, SR.thn, sAsg, sExpr, sRet, sRetN, sIf, sNext, sFail, sBrk, sCont, Res.toS, Res.toN, Res.bind, tE, tNotM, tOrM, tAndM, tYesM, eC, eN, eMv, eOp, opds, eAnd, eOr, eNot, eIf, eChain, aNil, aCons, eLst, eTup, eCall, eCallL, eFz, eLc, eLc2, eApp, isLst, wipeS, eMake, eEqI, insC, keepL, getS, gN, gIx, gT, gTupM, sPar, sFor, iR1, iR2, iRD, iE, iEn, iEnT, iEnA, iEA, oIsiB, noScr, tyName, f2, pLe, pLt, pGe, pGt, oAdd, oSub, oMul, oMod, oDiv, oPow, oNeg, oAbs, oInt, oMax2, oMin2, oLen, items, lstItems, tupItems, hot, cold, Out.d, frz, frzL, frzF, List.range, List.range.loop, isN, oIsN, oNotN, oIsB, oNotB, pEq_int, pNe_int, pEq_bl, pNe_bl, pEq_lst, pNe_lst, pEq_tup, pNe_tup, kb_NoneType_int, kb_NoneType_bool, kb_NoneType_list, kb_NoneType_tuple, kb_NoneType_str, kb_bool_int, kb_bool_bool, kb_bool_list, kb_bool_tuple, kb_bool_str, kb_int_int, kb_int_bool, kb_int_list, kb_int_tuple, kb_int_str, kb_str_int, kb_str_bool, kb_str_list, kb_str_tuple, kb_str_str, kb_list_int, kb_list_bool, kb_list_list, kb_list_tuple, kb_list_str, kb_tuple_int, kb_tuple_bool, kb_tuple_list, kb_tuple_tuple, kb_tuple_str, kb_dict_int, kb_dict_bool, kb_dict_list, kb_dict_tuple, kb_dict_str]
theorem oFld_w {o : Bool} {w : Int} {ss : List Int} : oFld 0 "own_width" [net o w ss] = some (.val (.int w)) := by
  simp [oFld, cold, hot]
theorem oFld_s {o : Bool} {w : Int} {ss : List Int} : oFld 0 "own_steps" [net o w ss] = some (.val (.tup (nums ss))) := by
  simp [oFld, List.lookup, fs_beq, cold, hot]
theorem eq_ok (w1 w2 : Int) (s1 s2 : List Int) : ∃ ps, m_Network___eq__ [net false w1 s1, net false w2 s2] = .ok (.bl (decide (w1 = w2 ∧ s1 = s2))) ps := by
  by_cases a : w1 = w2 <;> by_cases b : s1 = s2 <;> simp [m_Network___eq__, b_Network___eq__, oIsiC, isi_Network, oFld_w, oFld_s, a, b, fn, sSeq, SR.thn, sAsg, sExpr, sRet, sRetN, sIf, sNext, sFail, sBrk, sCont, Res.toS, Res.toN, Res.bind, tE, tNotM, tOrM, tAndM, tYesM, eC, eN, eMv, eOp, opds, eAnd, eOr, eNot, eIf, eChain, aNil, aCons, eLst, eTup, eCall, eCallL, eFz, eLc, eLc2, eApp, isLst, wipeS, eMake, eEqI, insC, keepL, getS, gN, gIx, gT, gTupM, sPar, sFor, iR1, iR2, iRD, iE, iEn, iEnT, iEnA, iEA, oIsiB, noScr, tyName, f2, pLe, pLt, pGe, pGt, oAdd, oSub, oMul, oMod, oDiv, oPow, oNeg, oAbs, oInt, oMax2, oMin2, oLen, items, lstItems, tupItems, hot, cold, Out.d, frz, frzL, frzF, List.range, List.range.loop, isN, oIsN, oNotN, oIsB, oNotB, pEq_int, pNe_int, pEq_bl, pNe_bl, pEq_lst, pNe_lst, pEq_tup, pNe_tup, kb_NoneType_int, kb_NoneType_bool, kb_NoneType_list, kb_NoneType_tuple, kb_NoneType_str, kb_bool_int, kb_bool_bool, kb_bool_list, kb_bool_tuple, kb_bool_str, kb_int_int, kb_int_bool, kb_int_list, kb_int_tuple, kb_int_str, kb_str_int, kb_str_bool, kb_str_list, kb_str_tuple, kb_str_str, kb_list_int, kb_list_bool, kb_list_list, kb_list_tuple, kb_list_str, kb_tuple_int, kb_tuple_bool, kb_tuple_list, kb_tuple_tuple, kb_tuple_str, kb_dict_int, kb_dict_bool, kb_dict_list, kb_dict_tuple, kb_dict_str]
theorem len_ok (w : Int) (ss : List Int) : ∃ ps, m_Network___len__ [net false w ss] = .ok (.int ss.length) ps := by
  simp [m_Network___len__, b_Network___len__, oFld_s, nums_len, fn, sSeq, SR.thn, sAsg, sExpr, sRet, sRetN, sIf, sNext, sFail, sBrk, sCont, Res.toS, Res.toN, Res.bind, tE, tNotM, tOrM, tAndM, tYesM, eC, eN, eMv, eOp, opds, eAnd, eOr, eNot, eIf, eChain, aNil, aCons, eLst, eTup, eCall, eCallL, eFz, eLc, eLc2, eApp, isLst, wipeS, eMake, eEqI, insC, keepL, getS, gN, gIx, gT, gTupM, sPar, sFor, iR1, iR2, iRD, iE, iEn, iEnT, iEnA, iEA, oIsiB, noScr, tyName, f2, pLe, pLt, pGe, pGt, oAdd, oSub, oMul, oMod, oDiv, oPow, oNeg, oAbs, oInt, oMax2, oMin2, oLen, items, lstItems, tupItems, hot, cold, Out.d, frz, frzL, frzF, List.range, List.range.loop, isN, oIsN, oNotN, oIsB, oNotB, pEq_int, pNe_int, pEq_bl, pNe_bl, pEq_lst, pNe_lst, pEq_tup, pNe_tup, kb_NoneType_int, kb_NoneType_bool, kb_NoneType_list, kb_NoneType_tuple, kb_NoneType_str, kb_bool_int, kb_bool_bool, kb_bool_list, kb_bool_tuple, kb_bool_str, kb_int_int, kb_int_bool, kb_int_list, kb_int_tuple, kb_int_str, kb_str_int, kb_str_bool, kb_str_list, kb_str_tuple, kb_str_str, kb_list_int, kb_list_bool, kb_list_list, kb_list_tuple, kb_list_str, kb_tuple_int, kb_tuple_bool, kb_tuple_list, kb_tuple_tuple, kb_tuple_str, kb_dict_int, kb_dict_bool, kb_dict_list, kb_dict_tuple, kb_dict_str]
theorem draw_ok (a b m : Int) (h1 : 0 < m) (h2 : m < 9000) : ∃ r a' b', 0 ≤ r ∧ r < m ∧ m__law_draw [.lst true [.int a, .int b], .int m] = .ok (.int r) [some (.lst true [.int a', .int b']), some (.int m)] := by
  by_cases ha : 0 < a
  · refine ⟨a % m, a / m, b, Int.emod_nonneg _ (by omega), Int.emod_lt_of_pos _ h1, ?_⟩
    simp [m__law_draw, b__law_draw, ix2_0, ix2_1, ixN2_0, ixN2_1, ha, oMod_v h1, oDiv_v h1 h2, fn, sSeq, SR.thn, sAsg, sExpr, sRet, sRetN, sIf, sNext, sFail, sBrk, sCont, Res.toS, Res.toN, Res.bind, tE, tNotM, tOrM, tAndM, tYesM, eC, eN, eMv, eOp, opds, eAnd, eOr, eNot, eIf, eChain, aNil, aCons, eLst, eTup, eCall, eCallL, eFz, eLc, eLc2, eApp, isLst, wipeS, eMake, eEqI, insC, keepL, getS, gN, gIx, gT, gTupM, sPar, sFor, iR1, iR2, iRD, iE, iEn, iEnT, iEnA, iEA, oIsiB, noScr, tyName, f2, pLe, pLt, pGe, pGt, oAdd, oSub, oNeg, oAbs, oInt, oMax2, oMin2, oLen, items, lstItems, tupItems, hot, cold, Out.d, frz, frzL, frzF, List.range, List.range.loop, isN, oIsN, oNotN, oIsB, oNotB, pEq_int, pNe_int, pEq_bl, pNe_bl, pEq_lst, pNe_lst, pEq_tup, pNe_tup, kb_NoneType_int, kb_NoneType_bool, kb_NoneType_list, kb_NoneType_tuple, kb_NoneType_str, kb_bool_int, kb_bool_bool, kb_bool_list, kb_bool_tuple, kb_bool_str, kb_int_int, kb_int_bool, kb_int_list, kb_int_tuple, kb_int_str, kb_str_int, kb_str_bool, kb_str_list, kb_str_tuple, kb_str_str, kb_list_int, kb_list_bool, kb_list_list, kb_list_tuple, kb_list_str, kb_tuple_int, kb_tuple_bool, kb_tuple_list, kb_tuple_tuple, kb_tuple_str, kb_dict_int, kb_dict_bool, kb_dict_list, kb_dict_tuple, kb_dict_str]
  · have m1 := oMul_v (i := b) (j := 48271) (by omega)
    have m2 := oMod_v (i := b * 48271 + 11) (j := 2147483647) (by omega)
    have n0 : 0 ≤ (b * 48271 + 11) % 2147483647 := Int.emod_nonneg _ (by omega)
    have n1 : (b * 48271 + 11) % 2147483647 < 2147483647 := Int.emod_lt_of_pos _ (by omega)
    generalize (b * 48271 + 11) % 2147483647 = c at *
    have m3 := oMul_v (i := c) (j := c) (by omega)
    have m4 := oMod_v (i := c * c) (j := 2147483629) (by omega)
    have m5 := oDiv_v (i := c * c % 2147483629) (j := 16) (by omega) (by omega)
    have m6 := oMod_v (i := c * c % 2147483629 / 16) h1
    refine ⟨c * c % 2147483629 / 16 % m, a, c, Int.emod_nonneg _ (by omega), Int.emod_lt_of_pos _ h1, ?_⟩
    simp [m__law_draw, b__law_draw, ix2_0, ix2_1, ixN2_0, ixN2_1, ha, m1, m2, m3, m4, m5, m6, fn, sSeq, SR.thn, sAsg, sExpr, sRet, sRetN, sIf, sNext, sFail, sBrk, sCont, Res.toS, Res.toN, Res.bind, tE, tNotM, tOrM, tAndM, tYesM, eC, eN, eMv, eOp, opds, eAnd, eOr, eNot, eIf, eChain, aNil, aCons, eLst, eTup, eCall, eCallL, eFz, eLc, eLc2, eApp, isLst, wipeS, eMake, eEqI, insC, keepL, getS, gN, gIx, gT, gTupM, sPar, sFor, iR1, iR2, iRD, iE, iEn, iEnT, iEnA, iEA, oIsiB, noScr, tyName, f2, pLe, pLt, pGe, pGt, oAdd, oSub, oNeg, oAbs, oInt, oMax2, oMin2, oLen, items, lstItems, tupItems, hot, cold, Out.d, frz, frzL, frzF, List.range, List.range.loop, isN, oIsN, oNotN, oIsB, oNotB, pEq_int, pNe_int, pEq_bl, pNe_bl, pEq_lst, pNe_lst, pEq_tup, pNe_tup, kb_NoneType_int, kb_NoneType_bool, kb_NoneType_list, kb_NoneType_tuple, kb_NoneType_str, kb_bool_int, kb_bool_bool, kb_bool_list, kb_bool_tuple, kb_bool_str, kb_int_int, kb_int_bool, kb_int_list, kb_int_tuple, kb_int_str, kb_str_int, kb_str_bool, kb_str_list, kb_str_tuple, kb_str_str, kb_list_int, kb_list_bool, kb_list_list, kb_list_tuple, kb_list_str, kb_tuple_int, kb_tuple_bool, kb_tuple_list, kb_tuple_tuple, kb_tuple_str, kb_dict_int, kb_dict_bool, kb_dict_list, kb_dict_tuple, kb_dict_str]
theorem source_ok (l : List Int) (k : Int) (h0 : 0 ≤ k) (hk : k < 100) (hl : l.length ≤ 63) : ∃ a b ps, m__law_source [.scr l, .int k] = .ok (.lst true [.int a, .int b]) ps := by
  obtain ⟨kk, e1⟩ := oS01_scr l 63 hl
  have e2 := oSum_nums true kk
  generalize kk.sum = S at *
  have e3 := oMul_l (i := 7) (j := S) (by omega)
  have step : ∀ cell : Int, ∃ a b st, (sSeq (sAsg (eOp oAbs [.s 2]) (gN 3)) (sSeq (sAsg (eOp oMod [.v (eOp oMul [.v (eOp oAdd [.v (eOp oAdd [.v (eOp oAdd [.v (eOp oMod [.s 3, .v (eC (.int 2147483629))]), .v (eOp oMul [.v (eOp oMul [.v (eC (.int 7919)), .s 1]), .s 1])]), .v (eOp oMul [.v (eC (.int 31)), .s 1])]), .v (eC (.int 17))]), .v (eC (.int 48271))]), .v (eC (.int 2147483647))]) (gN 4)) (sRet (eLst (aCons (eOp oMul [.s 3, .v (eOp oInt [.v (eOp (f2 pGe) [.s 3, .v (eOp oPow [.v (eC (.int 10)), .v (eC (.int 18))])])])]) (aCons (eOp oMod [.v (eOp oMul [.s 4, .s 4]), .v (eC (.int 2147483629))]) aNil)))))) [some (.scr l), some (.int k), some (.int cell), none, none] = .ret (.lst true [.int a, .int b]) st := fun cell => by
    generalize hz : (if cell < 0 then -cell else cell) = z
    have m1 := oMod_v (i := z) (j := 2147483629) (by omega)
    have m2 := oMul_l (i := 7919) (j := k) (by omega)
    have m3 := oMul_v (i := 7919 * k) (j := k) (by omega)
    have m4 := oMul_l (i := 31) (j := k) (by omega)
    have m5 := oMul_v (i := z % 2147483629 + 7919 * k * k + 31 * k + 17) (j := 48271) (by omega)
    have m6 := oMod_v (i := (z % 2147483629 + 7919 * k * k + 31 * k + 17) * 48271) (j := 2147483647) (by omega)
    have n0 : 0 ≤ (z % 2147483629 + 7919 * k * k + 31 * k + 17) * 48271 % 2147483647 := Int.emod_nonneg _ (by omega)
    have n1 : (z % 2147483629 + 7919 * k * k + 31 * k + 17) * 48271 % 2147483647 < 2147483647 := Int.emod_lt_of_pos _ (by omega)
    generalize (z % 2147483629 + 7919 * k * k + 31 * k + 17) * 48271 % 2147483647 = c at *
    have m7 := oMul_v (i := c) (j := c) (by omega)
    have m8 := oMod_v (i := c * c) (j := 2147483629) (by omega)
    have m9 := oPow_v (i := 10) (j := 18) (by omega) (by decide)
    generalize (10 : Int) ^ (18 : Int).toNat = t at *
    have m10 := oMul_v (i := z) (j := if t ≤ z then 1 else 0) (by split <;> omega)
    refine ⟨z * (if t ≤ z then 1 else 0), c * c % 2147483629, [some (.scr l), some (.int k), some (.int cell), some (.int z), some (.int c)], ?_⟩
    simp [hz, m1, m2, m3, m4, m5, m6, m7, m8, m9, m10, fn, sSeq, SR.thn, sAsg, sExpr, sRet, sRetN, sIf, sNext, sFail, sBrk, sCont, Res.toS, Res.toN, Res.bind, tE, tNotM, tOrM, tAndM, tYesM, eC, eN, eMv, eOp, opds, eAnd, eOr, eNot, eIf, eChain, aNil, aCons, eLst, eTup, eCall, eCallL, eFz, eLc, eLc2, eApp, isLst, wipeS, eMake, eEqI, insC, keepL, getS, gN, gIx, gT, gTupM, sPar, sFor, iR1, iR2, iRD, iE, iEn, iEnT, iEnA, iEA, oIsiB, noScr, tyName, f2, pLe, pLt, pGe, pGt, oAdd, oSub, oNeg, oAbs, oInt, oMax2, oMin2, oLen, items, lstItems, tupItems, hot, cold, Out.d, frz, frzL, frzF, List.range, List.range.loop, isN, oIsN, oNotN, oIsB, oNotB, pEq_int, pNe_int, pEq_bl, pNe_bl, pEq_lst, pNe_lst, pEq_tup, pNe_tup, kb_NoneType_int, kb_NoneType_bool, kb_NoneType_list, kb_NoneType_tuple, kb_NoneType_str, kb_bool_int, kb_bool_bool, kb_bool_list, kb_bool_tuple, kb_bool_str, kb_int_int, kb_int_bool, kb_int_list, kb_int_tuple, kb_int_str, kb_str_int, kb_str_bool, kb_str_list, kb_str_tuple, kb_str_str, kb_list_int, kb_list_bool, kb_list_list, kb_list_tuple, kb_list_str, kb_tuple_int, kb_tuple_bool, kb_tuple_list, kb_tuple_tuple, kb_tuple_str, kb_dict_int, kb_dict_bool, kb_dict_list, kb_dict_tuple, kb_dict_str]
  by_cases hkl : k < (l.length : Int)
  · have e4 := oIx_scr (l := l) (i := k) h0 hkl
    obtain ⟨a, b, st, e5⟩ := step (l.getD k.toNat 0)
    generalize l.getD k.toNat 0 = cell at *
    have q1 : (sAsg (eOp oAdd [.v (eOp oMul [.v (eC (.int 7)), .v (eOp oSum [.v (eOp oS01 [.s 0, .v (eC (.int 63))])])]), .s 1]) (gN 2)) [some (.scr l), some (.int k), none, none, none] = .next [some (.scr l), some (.int k), some (.int (7 * S + k)), none, none] := by
      simp [e1, e2, e3, fn, sSeq, SR.thn, sAsg, sExpr, sRet, sRetN, sIf, sNext, sFail, sBrk, sCont, Res.toS, Res.toN, Res.bind, tE, tNotM, tOrM, tAndM, tYesM, eC, eN, eMv, eOp, opds, eAnd, eOr, eNot, eIf, eChain, aNil, aCons, eLst, eTup, eCall, eCallL, eFz, eLc, eLc2, eApp, isLst, wipeS, eMake, eEqI, insC, keepL, getS, gN, gIx, gT, gTupM, sPar, sFor, iR1, iR2, iRD, iE, iEn, iEnT, iEnA, iEA, oIsiB, noScr, tyName, f2, pLe, pLt, pGe, pGt, oAdd, oSub, oNeg, oAbs, oInt, oMax2, oMin2, oLen, items, lstItems, tupItems, hot, cold, Out.d, frz, frzL, frzF, List.range, List.range.loop, isN, oIsN, oNotN, oIsB, oNotB, pEq_int, pNe_int, pEq_bl, pNe_bl, pEq_lst, pNe_lst, pEq_tup, pNe_tup, kb_NoneType_int, kb_NoneType_bool, kb_NoneType_list, kb_NoneType_tuple, kb_NoneType_str, kb_bool_int, kb_bool_bool, kb_bool_list, kb_bool_tuple, kb_bool_str, kb_int_int, kb_int_bool, kb_int_list, kb_int_tuple, kb_int_str, kb_str_int, kb_str_bool, kb_str_list, kb_str_tuple, kb_str_str, kb_list_int, kb_list_bool, kb_list_list, kb_list_tuple, kb_list_str, kb_tuple_int, kb_tuple_bool, kb_tuple_list, kb_tuple_tuple, kb_tuple_str, kb_dict_int, kb_dict_bool, kb_dict_list, kb_dict_tuple, kb_dict_str]
    have q2 : (sIf (tE (eOp (f2 pLt) [.s 1, .v (eOp oLen [.s 0])])) (sAsg (eOp oIx [.s 0, .s 1]) (gN 2)) sNext) [some (.scr l), some (.int k), some (.int (7 * S + k)), none, none] = .next [some (.scr l), some (.int k), some (.int cell), none, none] := by
      simp [e4, hkl, fn, sSeq, SR.thn, sAsg, sExpr, sRet, sRetN, sIf, sNext, sFail, sBrk, sCont, Res.toS, Res.toN, Res.bind, tE, tNotM, tOrM, tAndM, tYesM, eC, eN, eMv, eOp, opds, eAnd, eOr, eNot, eIf, eChain, aNil, aCons, eLst, eTup, eCall, eCallL, eFz, eLc, eLc2, eApp, isLst, wipeS, eMake, eEqI, insC, keepL, getS, gN, gIx, gT, gTupM, sPar, sFor, iR1, iR2, iRD, iE, iEn, iEnT, iEnA, iEA, oIsiB, noScr, tyName, f2, pLe, pLt, pGe, pGt, oAdd, oSub, oNeg, oAbs, oInt, oMax2, oMin2, oLen, items, lstItems, tupItems, hot, cold, Out.d, frz, frzL, frzF, List.range, List.range.loop, isN, oIsN, oNotN, oIsB, oNotB, pEq_int, pNe_int, pEq_bl, pNe_bl, pEq_lst, pNe_lst, pEq_tup, pNe_tup, kb_NoneType_int, kb_NoneType_bool, kb_NoneType_list, kb_NoneType_tuple, kb_NoneType_str, kb_bool_int, kb_bool_bool, kb_bool_list, kb_bool_tuple, kb_bool_str, kb_int_int, kb_int_bool, kb_int_list, kb_int_tuple, kb_int_str, kb_str_int, kb_str_bool, kb_str_list, kb_str_tuple, kb_str_str, kb_list_int, kb_list_bool, kb_list_list, kb_list_tuple, kb_list_str, kb_tuple_int, kb_tuple_bool, kb_tuple_list, kb_tuple_tuple, kb_tuple_str, kb_dict_int, kb_dict_bool, kb_dict_list, kb_dict_tuple, kb_dict_str]
    exact ⟨a, b, _, fn_ret rfl (sSeq_next q1 (sSeq_next q2 e5))⟩
  · obtain ⟨a, b, st, e5⟩ := step (7 * S + k)
    have q1 : (sAsg (eOp oAdd [.v (eOp oMul [.v (eC (.int 7)), .v (eOp oSum [.v (eOp oS01 [.s 0, .v (eC (.int 63))])])]), .s 1]) (gN 2)) [some (.scr l), some (.int k), none, none, none] = .next [some (.scr l), some (.int k), some (.int (7 * S + k)), none, none] := by
      simp [e1, e2, e3, fn, sSeq, SR.thn, sAsg, sExpr, sRet, sRetN, sIf, sNext, sFail, sBrk, sCont, Res.toS, Res.toN, Res.bind, tE, tNotM, tOrM, tAndM, tYesM, eC, eN, eMv, eOp, opds, eAnd, eOr, eNot, eIf, eChain, aNil, aCons, eLst, eTup, eCall, eCallL, eFz, eLc, eLc2, eApp, isLst, wipeS, eMake, eEqI, insC, keepL, getS, gN, gIx, gT, gTupM, sPar, sFor, iR1, iR2, iRD, iE, iEn, iEnT, iEnA, iEA, oIsiB, noScr, tyName, f2, pLe, pLt, pGe, pGt, oAdd, oSub, oNeg, oAbs, oInt, oMax2, oMin2, oLen, items, lstItems, tupItems, hot, cold, Out.d, frz, frzL, frzF, List.range, List.range.loop, isN, oIsN, oNotN, oIsB, oNotB, pEq_int, pNe_int, pEq_bl, pNe_bl, pEq_lst, pNe_lst, pEq_tup, pNe_tup, kb_NoneType_int, kb_NoneType_bool, kb_NoneType_list, kb_NoneType_tuple, kb_NoneType_str, kb_bool_int, kb_bool_bool, kb_bool_list, kb_bool_tuple, kb_bool_str, kb_int_int, kb_int_bool, kb_int_list, kb_int_tuple, kb_int_str, kb_str_int, kb_str_bool, kb_str_list, kb_str_tuple, kb_str_str, kb_list_int, kb_list_bool, kb_list_list, kb_list_tuple, kb_list_str, kb_tuple_int, kb_tuple_bool, kb_tuple_list, kb_tuple_tuple, kb_tuple_str, kb_dict_int, kb_dict_bool, kb_dict_list, kb_dict_tuple, kb_dict_str]
    have q2 : (sIf (tE (eOp (f2 pLt) [.s 1, .v (eOp oLen [.s 0])])) (sAsg (eOp oIx [.s 0, .s 1]) (gN 2)) sNext) [some (.scr l), some (.int k), some (.int (7 * S + k)), none, none] = .next [some (.scr l), some (.int k), some (.int (7 * S + k)), none, none] := by
      simp [hkl, fn, sSeq, SR.thn, sAsg, sExpr, sRet, sRetN, sIf, sNext, sFail, sBrk, sCont, Res.toS, Res.toN, Res.bind, tE, tNotM, tOrM, tAndM, tYesM, eC, eN, eMv, eOp, opds, eAnd, eOr, eNot, eIf, eChain, aNil, aCons, eLst, eTup, eCall, eCallL, eFz, eLc, eLc2, eApp, isLst, wipeS, eMake, eEqI, insC, keepL, getS, gN, gIx, gT, gTupM, sPar, sFor, iR1, iR2, iRD, iE, iEn, iEnT, iEnA, iEA, oIsiB, noScr, tyName, f2, pLe, pLt, pGe, pGt, oAdd, oSub, oNeg, oAbs, oInt, oMax2, oMin2, oLen, items, lstItems, tupItems, hot, cold, Out.d, frz, frzL, frzF, List.range, List.range.loop, isN, oIsN, oNotN, oIsB, oNotB, pEq_int, pNe_int, pEq_bl, pNe_bl, pEq_lst, pNe_lst, pEq_tup, pNe_tup, kb_NoneType_int, kb_NoneType_bool, kb_NoneType_list, kb_NoneType_tuple, kb_NoneType_str, kb_bool_int, kb_bool_bool, kb_bool_list, kb_bool_tuple, kb_bool_str, kb_int_int, kb_int_bool, kb_int_list, kb_int_tuple, kb_int_str, kb_str_int, kb_str_bool, kb_str_list, kb_str_tuple, kb_str_str, kb_list_int, kb_list_bool, kb_list_list, kb_list_tuple, kb_list_str, kb_tuple_int, kb_tuple_bool, kb_tuple_list, kb_tuple_tuple, kb_tuple_str, kb_dict_int, kb_dict_bool, kb_dict_list, kb_dict_tuple, kb_dict_str]
    exact ⟨a, b, _, fn_ret rfl (sSeq_next q1 (sSeq_next q2 e5))⟩
theorem frz_net {o : Bool} {w : Int} {ss : List Int} : frz (net o w ss) = net false w ss := by simp [frz, frzF, nums_frz]
theorem eqv {w : Nat} {a b l : List Int} (hw : 1 ≤ w) (ha : okS w a) (hb : okS w b) (h : runL a (desc w) = runL b (desc w)) (hl : l.length = w) : runL a l = runL b l := by
  obtain ⟨f, rfl, hf⟩ := up1_of ha
  obtain ⟨g, rfl, hg⟩ := up1_of hb
  rw [up1_run, up1_run] at h
  rw [up1_run, up1_run]
  exact decides hw (fun i hi => by have := hf i hi; omega) (fun i hi => by have := hg i hi; omega) h l hl
theorem count_ok (ns : List Int) (c : Int) (hc : 1 ≤ c) (hc2 : c ≤ 100) {st : Sl} (h : getS st 0 = some (.scr ns)) : ∃ N : Nat, N ≤ c ∧ iR1 (eOp oMax2 [.v (eC (.int 1)), .v (eOp oMin2 [.v (eOp oLen [.s 0]), .v (eC (.int c))])]) st = .ok (rangeD 0 N) st := by
  have q1 := eOp1_s (f := oLen) (i := 0) (st := st) h (oLen_scr ns)
  obtain ⟨z, hz⟩ : ∃ z : Int, z = ((ns.length : Nat) : Int) := ⟨_, rfl⟩
  have hz0 : 0 ≤ z := by omega
  rw [← hz] at q1
  have q2 := eOp2_v (f := oMin2) q1 (show eC (.int c) _ = .ok (.int c) _ from rfl) (show oMin2 [.int z, .int c] = some (.val (.int (if c < z then c else z))) from rfl)
  have q3 := eOp2_v (f := oMax2) (show eC (.int 1) st = .ok (.int 1) _ from rfl) q2 (show oMax2 [.int 1, .int (if c < z then c else z)] = some (.val (.int (if (if c < z then c else z) > 1 then (if c < z then c else z) else 1))) from rfl)
  generalize hy : (if (if c < z then c else z) > 1 then (if c < z then c else z) else 1) = y at q3
  have y1 : 1 ≤ y ∧ y ≤ c := by
    rw [← hy]
    split <;> split <;> omega
  exact ⟨y.toNat, by omega, iR1_v (j := y) (by omega) q3 (sm62 (by omega) (by omega))⟩
local macro_rules | `(tactic| walk_at "f") => `(tactic| with_reducible exact frz_net)
local macro_rules | `(tactic| walk_at "o") => `(tactic| first | (with_reducible exact oFld_w) | (with_reducible exact oFld_s))
theorem count_ok' {n : Nat} (h : n ≤ 1000) : ∃ ps, m_check_count [.int n] = .ok .non ps := by
  have h' : ¬ ((1000 : Int) < (n : Int)) := by omega
  refine ⟨_, fn_goN rfl (?_ : b_check_count [some (.int n)] = SR.next [some (.int n)])⟩
  unfold b_check_count
  walk_at "z"
theorem steps4_ok (a b w n : Int) (h1 : 1 ≤ w) (h2 : w ≤ 40) (h3 : 0 ≤ n) (h4 : n ≤ 1000) : ∃ ss a' b', okS w ss ∧ ss.length ≤ n.toNat ∧ (1 < w → ss.length = n.toNat) ∧ m__law_steps [.lst true [.int a, .int b], .int w, .int n] = .ok (.lst true (nums ss)) [some (.lst true [.int a', .int b']), some (.int w), some (.int n)] := by
  have key : ∀ (N : Nat) , (N = 0 ∨ 1 < w) → N ≤ 1000 → ∃ ss a' b', okS w ss ∧ ss.length = N ∧ compD lg1__law_steps tYesM le1__law_steps [3] (rangeD 0 N) [some (.lst true [.int a, .int b]), some (.int w), some (.int n), none] [] = .ok (nums ss) [some (.lst true [.int a', .int b']), some (.int w), some (.int n), none] := fun N hN hN2 => by
    obtain ⟨acc, st', e, ss, a', b', g1, g2, g3, g4⟩ := compD_ok (g := lg1__law_steps) (t := tYesM) (e := le1__law_steps) (vs := [3]) (fun i st acc => ∃ ss a' b', okS w ss ∧ ss.length = i ∧ st = [some (.lst true [.int a', .int b']), some (.int w), some (.int n), none] ∧ acc = nums ss) (rangeD 0 N) 0
      [some (.lst true [.int a, .int b]), some (.int w), some (.int n), none] [] ⟨[], a, b, (fun s hs => by cases hs), rfl, rfl, rfl⟩ (fun i d st acc e hI => by
        obtain ⟨ss, a', b', g1, g2, rfl, rfl⟩ := hI
        obtain ⟨hi, rfl⟩ := rangeD_get e
        obtain ⟨r, a2, b2, r1, r2, ed⟩ := draw_ok a' b' (w - 1) (by omega) (by omega)
        refine ⟨[some (.lst true [.int a', .int b']), some (.int w), some (.int n), some (.int (0 + (i : Int)))], true, [some (.lst true [.int a', .int b']), some (.int w), some (.int n), some (.int (0 + (i : Int)))], rfl, rfl, (fun h => by cases h), fun _ => ⟨by rw [nums_len]; omega, .int (1 + r), [some (.lst true [.int a2, .int b2]), some (.int w), some (.int n), some (.int (0 + (i : Int)))], ?_, ss ++ [1 + r], a2, b2, ?_, by rw [List.length_append, g2]; rfl, rfl, ?_⟩⟩
        · generalize (0 + (i : Int)) = z
          simp [le1__law_steps, ed, fn, sSeq, SR.thn, sAsg, sExpr, sRet, sRetN, sIf, sNext, sFail, sBrk, sCont, Res.toS, Res.toN, Res.bind, tE, tNotM, tOrM, tAndM, tYesM, eC, eN, eMv, eOp, opds, eAnd, eOr, eNot, eIf, eChain, aNil, aCons, eLst, eTup, eCall, eCallL, eFz, eLc, eLc2, eApp, isLst, wipeS, eMake, eEqI, insC, keepL, getS, gN, gIx, gT, gTupM, sPar, sFor, iR1, iR2, iRD, iE, iEn, iEnT, iEnA, iEA, oIsiB, noScr, tyName, f2, pLe, pLt, pGe, pGt, oAdd, oSub, oNeg, oAbs, oInt, oMax2, oMin2, oLen, items, lstItems, tupItems, hot, cold, Out.d, frz, frzL, frzF, List.range, List.range.loop, isN, oIsN, oNotN, oIsB, oNotB, pEq_int, pNe_int, pEq_bl, pNe_bl, pEq_lst, pNe_lst, pEq_tup, pNe_tup, kb_NoneType_int, kb_NoneType_bool, kb_NoneType_list, kb_NoneType_tuple, kb_NoneType_str, kb_bool_int, kb_bool_bool, kb_bool_list, kb_bool_tuple, kb_bool_str, kb_int_int, kb_int_bool, kb_int_list, kb_int_tuple, kb_int_str, kb_str_int, kb_str_bool, kb_str_list, kb_str_tuple, kb_str_str, kb_list_int, kb_list_bool, kb_list_list, kb_list_tuple, kb_list_str, kb_tuple_int, kb_tuple_bool, kb_tuple_list, kb_tuple_tuple, kb_tuple_str, kb_dict_int, kb_dict_bool, kb_dict_list, kb_dict_tuple, kb_dict_str]
        · intro s hs
          rcases List.mem_append.mp hs with hs | hs
          · exact g1 s hs
          · rw [List.mem_singleton] at hs
            omega
        · rw [nums_app]; rfl)
    subst g3
    subst g4
    exact ⟨ss, a', b', g1, by rw [g2, Nat.zero_add, rangeD_len], e⟩
  by_cases hw : 1 < w
  · obtain ⟨ss, a', b', g1, g2, e⟩ := key n.toNat (.inr hw) (by omega)
    have hs : small62 n = true := by unfold small62; exact decide_eq_true (by omega)
    have m1 := oMul_v (i := n) (j := 1) (by omega)
    rw [Int.mul_one] at m1
    have q1 : iR1 (eOp oMul [.s 2, .v (eOp oInt [.v (eOp (f2 pGt) [.s 1, .v (eC (.int 1))])])]) [some (.lst true [.int a, .int b]), some (.int w), some (.int n), none] = .ok (rangeD 0 n.toNat) [some (.lst true [.int a, .int b]), some (.int w), some (.int n), none] := by
      simp [hw, m1, hs, fn, sSeq, SR.thn, sAsg, sExpr, sRet, sRetN, sIf, sNext, sFail, sBrk, sCont, Res.toS, Res.toN, Res.bind, tE, tNotM, tOrM, tAndM, tYesM, eC, eN, eMv, eOp, opds, eAnd, eOr, eNot, eIf, eChain, aNil, aCons, eLst, eTup, eCall, eCallL, eFz, eLc, eLc2, eApp, isLst, wipeS, eMake, eEqI, insC, keepL, getS, gN, gIx, gT, gTupM, sPar, sFor, iR1, iR2, iRD, iE, iEn, iEnT, iEnA, iEA, oIsiB, noScr, tyName, f2, pLe, pLt, pGe, pGt, oAdd, oSub, oNeg, oAbs, oInt, oMax2, oMin2, oLen, items, lstItems, tupItems, hot, cold, Out.d, frz, frzL, frzF, List.range, List.range.loop, isN, oIsN, oNotN, oIsB, oNotB, pEq_int, pNe_int, pEq_bl, pNe_bl, pEq_lst, pNe_lst, pEq_tup, pNe_tup, kb_NoneType_int, kb_NoneType_bool, kb_NoneType_list, kb_NoneType_tuple, kb_NoneType_str, kb_bool_int, kb_bool_bool, kb_bool_list, kb_bool_tuple, kb_bool_str, kb_int_int, kb_int_bool, kb_int_list, kb_int_tuple, kb_int_str, kb_str_int, kb_str_bool, kb_str_list, kb_str_tuple, kb_str_str, kb_list_int, kb_list_bool, kb_list_list, kb_list_tuple, kb_list_str, kb_tuple_int, kb_tuple_bool, kb_tuple_list, kb_tuple_tuple, kb_tuple_str, kb_dict_int, kb_dict_bool, kb_dict_list, kb_dict_tuple, kb_dict_str]
    refine ⟨ss, a', b', g1, by omega, by omega, fn_ret rfl (sRet_ok (st1 := [some (.lst true [.int a', .int b']), some (.int w), some (.int n), none]) (eLc_v q1 e))⟩
  · obtain ⟨ss, a', b', g1, g2, e⟩ := key 0 (.inl rfl) (by omega)
    have m1 := oMul_v (i := n) (j := 0) (by omega)
    rw [Int.mul_zero] at m1
    have hs : small62 0 = true := rfl
    have q1 : iR1 (eOp oMul [.s 2, .v (eOp oInt [.v (eOp (f2 pGt) [.s 1, .v (eC (.int 1))])])]) [some (.lst true [.int a, .int b]), some (.int w), some (.int n), none] = .ok (rangeD 0 0) [some (.lst true [.int a, .int b]), some (.int w), some (.int n), none] := by
      simp [hw, m1, hs, fn, sSeq, SR.thn, sAsg, sExpr, sRet, sRetN, sIf, sNext, sFail, sBrk, sCont, Res.toS, Res.toN, Res.bind, tE, tNotM, tOrM, tAndM, tYesM, eC, eN, eMv, eOp, opds, eAnd, eOr, eNot, eIf, eChain, aNil, aCons, eLst, eTup, eCall, eCallL, eFz, eLc, eLc2, eApp, isLst, wipeS, eMake, eEqI, insC, keepL, getS, gN, gIx, gT, gTupM, sPar, sFor, iR1, iR2, iRD, iE, iEn, iEnT, iEnA, iEA, oIsiB, noScr, tyName, f2, pLe, pLt, pGe, pGt, oAdd, oSub, oNeg, oAbs, oInt, oMax2, oMin2, oLen, items, lstItems, tupItems, hot, cold, Out.d, frz, frzL, frzF, List.range, List.range.loop, isN, oIsN, oNotN, oIsB, oNotB, pEq_int, pNe_int, pEq_bl, pNe_bl, pEq_lst, pNe_lst, pEq_tup, pNe_tup, kb_NoneType_int, kb_NoneType_bool, kb_NoneType_list, kb_NoneType_tuple, kb_NoneType_str, kb_bool_int, kb_bool_bool, kb_bool_list, kb_bool_tuple, kb_bool_str, kb_int_int, kb_int_bool, kb_int_list, kb_int_tuple, kb_int_str, kb_str_int, kb_str_bool, kb_str_list, kb_str_tuple, kb_str_str, kb_list_int, kb_list_bool, kb_list_list, kb_list_tuple, kb_list_str, kb_tuple_int, kb_tuple_bool, kb_tuple_list, kb_tuple_tuple, kb_tuple_str, kb_dict_int, kb_dict_bool, kb_dict_list, kb_dict_tuple, kb_dict_str]
    refine ⟨ss, a', b', g1, by omega, by omega, fn_ret rfl (sRet_ok (st1 := [some (.lst true [.int a', .int b']), some (.int w), some (.int n), none]) (eLc_v q1 e))⟩
theorem steps3_ok (a b w n : Int) (h1 : 1 ≤ w) (h2 : w ≤ 40) (h3 : 0 ≤ n) (h4 : n ≤ 1000) : ∃ ss a' b', okS w ss ∧ ss.length ≤ n.toNat ∧ m__law_steps [.lst true [.int a, .int b], .int w, .int n] = .ok (.lst true (nums ss)) [some (.lst true [.int a', .int b']), some (.int w), some (.int n)] := by
  obtain ⟨ss, a', b', g1, g2, _, e⟩ := steps4_ok a b w n h1 h2 h3 h4
  exact ⟨ss, a', b', g1, g2, e⟩
/-! ### benches -/
abbrev flds (w : Int) (ss : List Int) (hist : List D) : List (Str × D) := [("own_network", net false w ss), ("own_history", .lst true hist)]
def bnc (w : Int) (ss : List Int) (hist : List D) : D := .ins true 1 (flds w ss hist)
theorem nh : (("own_history" : Str) == "own_network") = false := by decide +kernel
theorem hn : (("own_network" : Str) == "own_history") = false := by decide +kernel
theorem nn : (("own_network" : Str) == "own_network") = true := by decide +kernel
theorem hh : (("own_history" : Str) == "own_history") = true := by decide +kernel
theorem oFld_n {w : Int} {ss : List Int} {hist : List D} : oFld 1 "own_network" [bnc w ss hist] = some (.val (net false w ss)) := by
  simp [oFld, bnc, flds, List.lookup, nn, net, cold, hot]
theorem putH {w : Int} {ss : List Int} {hist h2 : List D} : putD "own_history" (.lst true h2) (flds w ss hist) = flds w ss h2 := by
  have n : ¬ (("own_network" : Str) = "own_history") := by decide +kernel
  rw [putD, if_neg n, putD, if_pos rfl]
theorem putN {w : Int} {ss tt : List Int} {hist : List D} : putD "own_network" (net false w tt) (flds w ss hist) = flds w tt hist := by
  rw [putD, if_pos rfl]
theorem lookH {w : Int} {ss : List Int} {hist : List D} : List.lookup ("own_history" : Str) (flds w ss hist) = some (.lst true hist) := by
  simp [List.lookup, nh, hh]
theorem lookN {w : Int} {ss : List Int} {hist : List D} : List.lookup ("own_network" : Str) (flds w ss hist) = some (net false w ss) := by
  simp [List.lookup, nn]
theorem xMthL {C i : Nat} {nm : Str} {f : MF} {ns : MA} {st : Sl} {d0 : D} {r : Res D} (g : getS st i = some d0) (hi : insOf C nm d0 = true) (h : eCallL f aNil i ns st = r) : eMthL C nm f i ns st = r := by
  unfold eMthL
  rw [g]
  show (if insOf C nm d0 = true then _ else _) = _
  rw [if_pos hi]
  exact h
theorem ins_b {w : Int} {ss : List Int} {hist : List D} {nm : Str} (h1 : (nm == "own_network") = false) (h2 : (nm == "own_history") = false) : insOf 1 nm (bnc w ss hist) = true := by
  simp [insOf, bnc, flds, List.lookup, h1, h2]
/-- a step put in at i -/
def putAt (i : Nat) (s : Int) (ss : List Int) : List Int := ss.take i ++ [s] ++ ss.drop i
theorem putAt_ok {w : Int} {ss : List Int} {i : Nat} {s : Int} (h : okS w ss) (h1 : 1 ≤ s) (h2 : s ≤ w - 1) : okS w (putAt i s ss) := fun x hx => by
  unfold putAt at hx
  rcases List.mem_append.mp hx with hx | hx
  · rcases List.mem_append.mp hx with hx | hx
    · exact h x (List.mem_of_mem_take hx)
    · rw [List.mem_singleton.mp hx]
      exact ⟨h1, h2⟩
  · exact h x (List.mem_of_mem_drop hx)
theorem putAt_len {ss : List Int} {i : Nat} {s : Int} : (putAt i s ss).length = ss.length + 1 := by
  unfold putAt
  rw [List.length_append, List.length_append, List.length_take, List.length_drop, List.length_singleton]
  omega
def HL (w : Int) (hs : List (Str × List Int)) : List D := hs.map fun p => D.tup [.str p.1, net false w p.2]
def wds (hs : List (Str × List Int)) : List D := hs.map fun p => D.str p.1
theorem HL_frz (w : Int) : ∀ hs : List (Str × List Int), frzL (HL w hs) = HL w hs
  | [] => by rw [HL, List.map_nil, frzL]
  | p :: hs => by
    have ih := HL_frz w hs
    unfold HL at ih ⊢
    rw [List.map_cons, frzL, ih, fz_tup (fzL_c fz_s (fzL_c frz_net fzL_n))]
theorem HL_cold (w : Int) (hs : List (Str × List Int)) : colds (HL w hs) = true := List.all_eq_true.mpr fun d hd => by
  obtain ⟨p, _, rfl⟩ := List.mem_map.mp hd
  rfl
theorem HL_app (w : Int) (hs : List (Str × List Int)) (x : Str) (ss : List Int) : HL w hs ++ [.tup [.str x, net false w ss]] = HL w (hs ++ [(x, ss)]) := by
  unfold HL
  rw [List.map_append]
  rfl
theorem HL_len (w : Int) (hs : List (Str × List Int)) : (HL w hs).length = hs.length := by unfold HL; rw [List.length_map]
theorem wds_len (hs : List (Str × List Int)) : (wds hs).length = hs.length := by unfold wds; rw [List.length_map]
theorem wds_flat (hs : List (Str × List Int)) : (wds hs).all flat = true := List.all_eq_true.mpr fun d hd => by
  obtain ⟨p, _, rfl⟩ := List.mem_map.mp hd
  rfl
theorem wds_frz : ∀ hs : List (Str × List Int), frzL (wds hs) = wds hs
  | [] => by rw [wds, List.map_nil, frzL]
  | p :: hs => by
    have ih := wds_frz hs
    unfold wds at ih ⊢
    rw [List.map_cons, frzL, ih, fz_s]
theorem wds_app (hs : List (Str × List Int)) (x : Str) (ss : List Int) : wds hs ++ [.str x] = wds (hs ++ [(x, ss)]) := by
  unfold wds
  rw [List.map_append]
  rfl
/-- the bench as it stands -/
def bnF (w : Int) (ss : List Int) (hist : List D) : D := .ins false 1 [("own_network", net false w ss), ("own_history", .lst false hist)]
theorem frz_b {w : Int} {ss : List Int} {hs : List (Str × List Int)} : frz (bnc w ss (HL w hs)) = bnF w ss (HL w hs) := by
  unfold bnc flds bnF
  rw [frz, frzF, frzF, frzF, frz_net, frz, HL_frz]
theorem frz_F {w : Int} {ss : List Int} {hs : List (Str × List Int)} : frz (bnF w ss (HL w hs)) = bnF w ss (HL w hs) := by
  unfold bnF
  rw [frz, frzF, frzF, frzF, frz_net, frz, HL_frz]
theorem oFld_nF {w : Int} {ss : List Int} {hist : List D} : oFld 1 "own_network" [bnF w ss hist] = some (.val (net false w ss)) := by
  simp [oFld, bnF, List.lookup, nn, net, cold, hot]
theorem oFld_hF {w : Int} {ss : List Int} {hist : List D} : oFld 1 "own_history" [bnF w ss hist] = some (.val (.lst false hist)) := by
  simp [oFld, bnF, List.lookup, nh, hh, cold, hot]
theorem xThaw {i : Nat} {m : ME} {st st2 st' : Sl} {d0 d1 r : D} (g : getS st i = some d0) (hf : frz d0 = d1) (h : m (st.set i (some d1)) = .ok r st2) (hr : flatR r = true) (hb : flatBut st2 i = true) (hs : st2.set i (some d0) = st') : eThaw i m st = .ok r st' := by
  unfold eThaw
  rw [g]
  dsimp only
  rw [hf, h]
  dsimp only
  rw [if_pos ⟨hr, hb⟩, hs]
theorem noExc_ok {m : MF} {ds : List D} {d : D} {ps : Sl} (h : m ds = .ok d ps) : noExc m ds = .ok d ps := by unfold noExc; rw [h]
theorem xProp {C i : Nat} {nm : Str} {m : MF} {st st' : Sl} {d0 r x1 : D} {ps : Sl} (g : getS st i = some d0) (hi : insOf C nm d0 = true) (hx : hot d0 = true) (h : m [d0] = .ok r (some x1 :: ps)) (hs : st.set i (some x1) = st') : ePropG C nm m i st = .ok r st' := by
  unfold ePropG
  exact xMthL g hi (xCallL xANil g xANil g hx (noExc_ok h) rfl hs)
/-- its text -/
def bT (w : Int) (n : Int) : Str := (((("Bench(" : Str) ++ (toString w : String)) ++ (", " : Str)) ++ (toString n : String)) ++ (" steps)" : Str)
theorem tos_len2 {n : Int} (h1 : 0 ≤ n) (h2 : n ≤ 1000) : (PySem.Str.ofString (toString n)).length ≤ 20 := by
  have : ∀ n : Nat, n ≤ 1000 → (PySem.Str.ofString (toString (n : Int))).length ≤ 20 := by decide +kernel
  obtain ⟨n, rfl⟩ : ∃ k : Nat, n = (k : Int) := ⟨n.toNat, by omega⟩
  exact this n (by omega)
theorem log1000 {w : Int} (h1 : 0 ≤ w) (h2 : w ≤ 1000) : w.natAbs.log2 < 1920 := by
  have : ∀ n : Nat, n ≤ 1000 → (n : Int).natAbs.log2 < 1920 := by decide +kernel
  obtain ⟨n, rfl⟩ : ∃ n : Nat, w = (n : Int) := ⟨w.toNat, by omega⟩
  exact this n (by omega)
theorem fmt_i2 {w : Int} (h1 : 0 ≤ w) (h2 : w ≤ 1000) : oFmt [.int w] = some (.val (.str (toString w))) := by
  dsimp only [oFmt]
  rw [if_pos (log1000 h1 h2)]
theorem flatsEq_wds : ∀ hs : List (Str × List Int), flatsEq (wds hs) (wds hs) = true
  | [] => rfl
  | p :: hs => by
    have ih := flatsEq_wds hs
    unfold wds at ih ⊢
    rw [List.map_cons, flatsEq, ih]
    simp [flat, eqF]
theorem xNeI {C : Nat} {m : MF} {m1 m2 : ME} {st st1 st2 : Sl} {xs ys : List D} (h1 : m1 st = .ok (.lst false xs) st1) (h2 : m2 st1 = .ok (.lst false ys) st2) (h : itsOk C m xs ys = true) : eNeI C m (.v m1) (.v m2) st = .ok (.bl false) st2 := by
  unfold eNeI
  rw [opds]
  rw [h1]
  dsimp only [Res.bind]
  rw [opds, h2]
  dsimp only [Res.bind]
  rw [opds]
  show (if itsOk C m xs ys = true then _ else _) = _
  rw [if_pos h]
/-! ### a change drawn -/
inductive Ch (w : Nat) (ss : List Int) : D → Str → List Int → Int → Prop
  | drop (i : Nat) (hi : i < ss.length) : Ch w ss (.tup [.str "drop", .int (i : Int)]) "drop" (dropAt i ss) (ss.getD i 0)
  | place (i : Nat) (s : Int) (hi : i ≤ ss.length) (h1 : 1 ≤ s) (h2 : s ≤ (w : Int) - 1) : Ch w ss (.tup [.str "place", .int (i : Int), .int s]) "place" (putAt i s ss) ((ss.length + 1 : Nat) : Int)
  | add (tt : List Int) (ht : okS w tt) (hl : tt.length ≤ 2) : Ch w ss (.tup [.str "add", .lst false (nums tt)]) "add" (ss ++ tt) ((ss.length + tt.length : Nat) : Int)
theorem Ch.hot {w : Nat} {ss T : List Int} {v : D} {x : Str} {r : Int} (h : Ch w ss v x T r) : hot v = false := by cases h <;> rfl
theorem Ch.okT {w : Nat} {ss T : List Int} {v : D} {x : Str} {r : Int} (h : Ch w ss v x T r) (hS : okS w ss) : okS w T := by
  cases h with
  | drop i hi => exact dropAt_ok hS i
  | place i s hi h1 h2 => exact putAt_ok hS h1 h2
  | add tt ht hl => exact fun s hs => (List.mem_append.mp hs).elim (hS s) (ht s)
theorem Ch.lenT {w : Nat} {ss T : List Int} {v : D} {x : Str} {r : Int} (h : Ch w ss v x T r) : T.length ≤ ss.length + 2 := by
  cases h with
  | drop i hi => unfold dropAt; rw [List.length_append, List.length_take, List.length_drop]; omega
  | place i s hi h1 h2 => rw [putAt_len]; omega
  | add tt ht hl => rw [List.length_append]; omega
theorem Ch.word {w : Nat} {ss T : List Int} {v : D} {x : Str} {r : Int} (h : Ch w ss v x T r) : oIx [v, .int 0] = some (.val (.str x)) := by cases h <;> rfl
theorem Ch.small {w : Nat} {ss T : List Int} {v : D} {x : Str} {r : Int} (h : Ch w ss v x T r) (hS : okS w ss) (hw : w ≤ 40) (hl : ss.length ≤ 900) : r.natAbs < 10 ^ 25 := by
  cases h with
  | drop i hi =>
    have := hS (ss.getD i 0) (by rw [List.getD_eq_getElem?_getD, List.getElem?_eq_getElem hi]; exact List.getElem_mem hi)
    omega
  | place i s hi h1 h2 => omega
  | add tt ht hl => omega
theorem check_step_ok {w : Int} {ss : List Int} {hist : List D} {s : Int} {d : D} (h1 : 1 ≤ s) (h2 : s ≤ w - 1) : m_Bench_check_step [bnc w ss hist, .int s, d] = .ok .non [some (bnc w ss hist), some (.int s), some d] := by
  have e := is_integer_ok s 1 (w - 1)
  rw [decide_eq_true ⟨h1, h2⟩] at e
  have hb : b_Bench_check_step [some (bnc w ss hist), some (.int s), some d] = SR.next [some (bnc w ss hist), some (.int s), some d] := by
    unfold b_Bench_check_step
    exact zNo (cNotF (cE (xCall (xACons (xN rfl rfl) (xACons xC (xACons (xOvv (xOv (xOs rfl oFld_n rfl) oFld_w rfl) xC sub_i rfl) xANil))) e))) zSkip
  have e2 : fn 3 3 [0, 1, 2] b_Bench_check_step [bnc w ss hist, .int s, d] = .ok .non (keepL [0, 1, 2] 3 [some (bnc w ss hist), some (.int s), some d]) := fn_goN rfl hb
  exact e2
/-- a step of the history -/
theorem keep_ok {w : Nat} {ss tt : List Int} {hist : List D} {wd : Str} (o : Bool) (h1 : 1 ≤ w) (h2 : w ≤ 40) (h : okS w tt) (hl : tt.length ≤ 1000) (hh : hist.length < 100000) : ∃ z, m_Bench_keep [bnc w ss hist, .str wd, .lst o (nums tt)] = .ok (.int (tt.length : Nat)) [some (bnc w tt (hist ++ [.tup [.str wd, net false w ss]])), some (.str wd), z] := by
  obtain ⟨p1, e1⟩ := init_ok (w := (w : Int)) (ss := tt) (by omega) (by omega) h hl false
  have ap : eFApT 1 0 "own_history" "own_network" 1 [some (bnc w ss hist), some (.str wd), some (.lst o (nums tt))] = .ok .non [some (bnc w ss (hist ++ [.tup [.str wd, net false w ss]])), some (.str wd), some (.lst o (nums tt))] := by
    show (if 1 = 1 ∧ hot (.str wd) = false then (match List.lookup ("own_history" : Str) (flds w ss hist), List.lookup ("own_network" : Str) (flds w ss hist) with
      | some (.lst true ys), some dg => if hot dg = false ∧ ys.length < 16777216 then Res.ok D.non ([some (bnc w ss hist), some (.str wd), some (.lst o (nums tt))].set 0 (some (.ins true 1 (putD "own_history" (.lst true (ys ++ [D.tup [D.str wd, dg]])) (flds w ss hist))))) else .fail
      | _, _ => .fail) else .fail) = _
    rw [if_pos ⟨rfl, rfl⟩, lookH, lookN]
    dsimp only
    rw [if_pos ⟨rfl, by omega⟩, putH]
    rfl
  have hb : b_Bench_keep [some (bnc w ss hist), some (.str wd), some (.lst o (nums tt))] = SR.ret (.int (tt.length : Nat)) [some (bnc w tt (hist ++ [.tup [.str wd, net false w ss]])), some (.str wd), some (.lst false (nums tt))] := by
    unfold b_Bench_keep
    refine zSeq (zExpr ap) (zSeq (st1 := [some (bnc w tt (hist ++ [.tup [.str wd, net false w ss]])), some (.str wd), some (.lst false (nums tt))]) ?_ (zRet (xOs rfl oLen_l rfl)))
    have ev : (eFz (eMake 0 m_Network___init__ (aCons (eOp (oFld 0 "own_width") [.v (eOp (oFld 1 "own_network") [.s 0])]) (aCons (eN 2) aNil)))) [some (bnc w ss (hist ++ [.tup [.str wd, net false w ss]])), some (.str wd), some (.lst o (nums tt))] = .ok (net false w tt) [some (bnc w ss (hist ++ [.tup [.str wd, net false w ss]])), some (.str wd), some (.lst false (nums tt))] := by
      refine xFz (xMake (xACons (xOv (xOs rfl oFld_n rfl) oFld_w rfl) (xACons ?_ xANil)) e1) frz_net
      cases o
      · exact xN rfl rfl
      · exact xNf rfl rfl fz_l rfl
    unfold sFldO
    rw [ev]
    show (if 1 = 1 ∧ 2 < 1000 then SR.next ([some (bnc w ss (hist ++ [.tup [.str wd, net false w ss]])), some (.str wd), some (.lst false (nums tt))].set 0 (some (.ins true 1 (putD "own_network" (net false w tt) (flds w ss (hist ++ [.tup [.str wd, net false w ss]])))))) else .fail) = _
    rw [if_pos ⟨rfl, by decide⟩, putN]
    rfl
  have e2 : fn 3 3 [0, 1, 2] b_Bench_keep [bnc w ss hist, .str wd, .lst o (nums tt)] = .ok (.int (tt.length : Nat)) (keepL [0, 1, 2] 3 [some (bnc w tt (hist ++ [.tup [.str wd, net false w ss]])), some (.str wd), some (.lst false (nums tt))]) := fn_go rfl hb
  exact ⟨some (.lst false (nums tt)), e2⟩
theorem drop_ok {w : Nat} {ss : List Int} {hist : List D} {i : Nat} (h1 : 1 ≤ w) (h2 : w ≤ 40) (h : okS w ss) (hl : ss.length ≤ 900) (hh : hist.length < 100000) (hi : i < ss.length) : ∃ z1, m_Bench_drop [bnc w ss hist, .int (i : Int)] = .ok (.int (ss.getD i 0)) [some (bnc w (dropAt i ss) (hist ++ [.tup [.str "drop", net false w ss]])), z1] := by
  have e1 := is_integer_ok (i : Int) 0 (((ss.length : Nat) : Int) - 1)
  rw [decide_eq_true (by omega)] at e1
  obtain ⟨z, e2⟩ := keep_ok (ss := ss) (tt := dropAt i ss) (hist := hist) (wd := "drop") true h1 h2 (dropAt_ok h i) (by unfold dropAt; rw [List.length_append, List.length_take, List.length_drop]; omega) hh
  have a1 : oS01 [.lst true (nums ss), .int (i : Int)] = some (.newL (nums (ss.take i))) := s01_n rfl (by omega)
  have a2 : oS10 [.lst true (nums ss), .int ((i : Int) + 1)] = some (.newL (nums (ss.drop (i + 1)))) := s10_n (k := i + 1) (by omega) (by omega)
  have a3 : oAdd [.lst true (nums (ss.take i)), .lst true (nums (ss.drop (i + 1)))] = some (.newL (nums (dropAt i ss))) := add_l (by rw [List.length_take, List.length_drop]; omega)
  have a4 : oIx [.lst true (nums ss), .int (i : Int)] = some (.val (.int (ss.getD i 0))) := oIx_nums (l := ss) (i := (i : Int)) (by omega) (by omega)
  have lt : oList [.tup (nums ss)] = some (.newL (nums ss)) := lst_t (by omega)
  have ins : insOf 1 "keep" (bnc w ss hist) = true := ins_b (by decide +kernel) (by decide +kernel)
  have hb : b_Bench_drop [some (bnc w ss hist), some (.int (i : Int)), none] = SR.ret (.int (ss.getD i 0)) [some (bnc w (dropAt i ss) (hist ++ [.tup [.str "drop", net false w ss]])), some (.int (i : Int)), some (.lst true (nums ss))] := by
    unfold b_Bench_drop
    refine zSeq (st1 := [some (bnc w ss hist), some (.int (i : Int)), some (.lst true (nums ss))]) (zAsg (xOv (xOv (xOs rfl oFld_n rfl) oFld_s rfl) lt rfl) rfl) (zSeq (st1 := [some (bnc w ss hist), some (.int (i : Int)), some (.lst true (nums ss))]) ?_ (zSeq (st1 := [some (bnc w (dropAt i ss) (hist ++ [.tup [.str "drop", net false w ss]])), some (.int (i : Int)), some (.lst true (nums ss))]) ?_ (zRet (xOss rfl rfl a4 rfl))))
    · exact zNo (cNotF (cE (xCall (xACons (xN rfl rfl) (xACons xC (xACons (xOvv (xOs rfl oLen_l rfl) xC sub_i rfl) xANil))) e1))) zSkip
    · exact zExpr (xMthL rfl ins (xCallL xANil rfl (xACons xC (xACons (xOvv (xOss rfl rfl a1 rfl) (xOsv rfl (xOsv rfl xC rfl add_i rfl) rfl a2 rfl) a3 rfl) xANil)) rfl rfl e2 rfl rfl))
  have e3 : fn 2 3 [0, 1] b_Bench_drop [bnc w ss hist, .int (i : Int)] = .ok (.int (ss.getD i 0)) (keepL [0, 1] 2 [some (bnc w (dropAt i ss) (hist ++ [.tup [.str "drop", net false w ss]])), some (.int (i : Int)), some (.lst true (nums ss))]) := fn_go rfl hb
  exact ⟨some (.int (i : Int)), e3⟩
theorem place_ok {w : Nat} {ss : List Int} {hist : List D} {i : Nat} {s : Int} (h1 : 1 ≤ w) (h2 : w ≤ 40) (h : okS w ss) (hl : ss.length ≤ 900) (hh : hist.length < 100000) (hi : i ≤ ss.length) (s1 : 1 ≤ s) (s2 : s ≤ w - 1) : ∃ z1 z2, m_Bench_place [bnc w ss hist, .int (i : Int), .int s] = .ok (.int ((ss.length + 1 : Nat) : Int)) [some (bnc w (putAt i s ss) (hist ++ [.tup [.str "place", net false w ss]])), z1, z2] := by
  have e1 := is_integer_ok (i : Int) 0 ((ss.length : Nat) : Int)
  rw [decide_eq_true (by omega)] at e1
  obtain ⟨z, e2⟩ := keep_ok (ss := ss) (tt := putAt i s ss) (hist := hist) (wd := "place") true h1 h2 (putAt_ok h s1 s2) (by rw [putAt_len]; omega) hh
  rw [putAt_len] at e2
  have e3 := check_step_ok (w := (w : Int)) (ss := ss) (hist := hist) (s := s) (d := .non) s1 s2
  obtain ⟨p4, e4⟩ := count_ok' (n := ss.length + 1) (by omega)
  have e4 : m_check_count [.int (((ss.length : Nat) : Int) + 1)] = .ok .non p4 := e4
  have a1 : oS01 [.lst true (nums ss), .int (i : Int)] = some (.newL (nums (ss.take i))) := s01_n rfl (by omega)
  have a2 : oS10 [.lst true (nums ss), .int (i : Int)] = some (.newL (nums (ss.drop i))) := s10_n (k := i) rfl (by omega)
  have a3 : oAdd [.lst true (nums (ss.take i)), .lst true (nums [s])] = some (.newL (nums (ss.take i ++ [s]))) := add_l (by rw [List.length_take, List.length_singleton]; omega)
  have a5 : oAdd [.lst true (nums (ss.take i ++ [s])), .lst true (nums (ss.drop i))] = some (.newL (nums (putAt i s ss))) := add_l (by rw [List.length_append, List.length_take, List.length_singleton, List.length_drop]; omega)
  have lt : oList [.tup (nums ss)] = some (.newL (nums ss)) := lst_t (by omega)
  have ins : insOf 1 "keep" (bnc w ss hist) = true := ins_b (by decide +kernel) (by decide +kernel)
  have inc : insOf 1 "check_step" (bnc w ss hist) = true := ins_b (by decide +kernel) (by decide +kernel)
  have hb : b_Bench_place [some (bnc w ss hist), some (.int (i : Int)), some (.int s), none] = SR.ret (.int ((ss.length + 1 : Nat) : Int)) [some (bnc w (putAt i s ss) (hist ++ [.tup [.str "place", net false w ss]])), some (.int (i : Int)), some (.int s), some (.lst true (nums ss))] := by
    unfold b_Bench_place
    refine zSeq (st1 := [some (bnc w ss hist), some (.int (i : Int)), some (.int s), some (.lst true (nums ss))]) (zAsg (xOv (xOv (xOs rfl oFld_n rfl) oFld_s rfl) lt rfl) rfl) (zSeq (st1 := [some (bnc w ss hist), some (.int (i : Int)), some (.int s), some (.lst true (nums ss))]) ?_ (zSeq (st1 := [some (bnc w ss hist), some (.int (i : Int)), some (.int s), some (.lst true (nums ss))]) ?_ (zSeq (st1 := [some (bnc w ss hist), some (.int (i : Int)), some (.int s), some (.lst true (nums ss))]) ?_ (zRet ?_))))
    · exact zNo (cNotF (cE (xCall (xACons (xN rfl rfl) (xACons xC (xACons (xOs rfl oLen_l rfl) xANil))) e1))) zSkip
    · exact zExpr (xMthL rfl inc (xCallL xANil rfl (xACons (xN rfl rfl) (xACons xC xANil)) rfl rfl e3 rfl rfl))
    · exact zExpr (xCall (xACons (xOvv (xOs rfl oLen_l rfl) xC add_i rfl) xANil) e4)
    · exact xMthL rfl ins (xCallL xANil rfl (xACons xC (xACons (xOvv (xOvv (xOss rfl rfl a1 rfl) (xLst (xACons (xN rfl rfl) xANil) rfl) a3 rfl) (xOss rfl rfl a2 rfl) a5 rfl) xANil)) rfl rfl e2 rfl rfl)
  have e9 : fn 3 4 [0, 1, 2] b_Bench_place [bnc w ss hist, .int (i : Int), .int s] = .ok (.int ((ss.length + 1 : Nat) : Int)) (keepL [0, 1, 2] 3 [some (bnc w (putAt i s ss) (hist ++ [.tup [.str "place", net false w ss]])), some (.int (i : Int)), some (.int s), some (.lst true (nums ss))]) := fn_go rfl hb
  exact ⟨some (.int (i : Int)), some (.int s), e9⟩
theorem add_all_ok {w : Nat} {ss tt : List Int} {hist : List D} (h1 : 1 ≤ w) (h2 : w ≤ 40) (h : okS w ss) (ht : okS w tt) (hl : ss.length ≤ 900) (hl2 : tt.length ≤ 50) (hh : hist.length < 100000) : ∃ z1, m_Bench_add_all [bnc w ss hist, .tup (nums tt)] = .ok (.int ((ss.length + tt.length : Nat) : Int)) [some (bnc w (ss ++ tt) (hist ++ [.tup [.str "add", net false w ss]])), z1] := by
  have hU : okS w (ss ++ tt) := fun s hs => (List.mem_append.mp hs).elim (h s) (ht s)
  obtain ⟨z, e2⟩ := keep_ok (ss := ss) (tt := ss ++ tt) (hist := hist) (wd := "add") true h1 h2 hU (by rw [List.length_append]; omega) hh
  rw [List.length_append] at e2
  obtain ⟨p3, e3⟩ := len_ok (w : Int) ss
  obtain ⟨p4, e4⟩ := count_ok' (n := ss.length + tt.length) (by omega)
  have e4 : m_check_count [.int (((ss.length : Nat) : Int) + ((tt.length : Nat) : Int))] = .ok .non p4 := e4
  have ins : insOf 1 "keep" (bnc w ss hist) = true := ins_b (by decide +kernel) (by decide +kernel)
  have inc : insOf 1 "check_step" (bnc w ss hist) = true := ins_b (by decide +kernel) (by decide +kernel)
  obtain ⟨st', L, z2, z3, rfl⟩ := forD_ok (g := fg1_Bench_add_all) (body := fb1_Bench_add_all) (fun k st => ∃ z2 z3, st = [some (bnc w ss hist), some (.tup (nums tt)), z2, z3]) (enumD 0 (nums tt)) 0
    [some (bnc w ss hist), some (.tup (nums tt)), none, none] ⟨none, none, rfl⟩ (fun k d st e hI => by
      obtain ⟨z2, z3, rfl⟩ := hI
      obtain ⟨d', e1, rfl⟩ := enumD_get e
      obtain ⟨s, es, rfl⟩ := nums_get e1
      obtain ⟨s1, s2⟩ := okS_at ht es
      have ec := check_step_ok (w := (w : Int)) (ss := ss) (hist := hist) (s := s) (d := .int ((0 + k : Nat) : Int)) s1 s2
      refine ⟨[some (bnc w ss hist), some (.tup (nums tt)), some (.int ((0 + k : Nat) : Int)), some (.int s)], _, rfl, .inl ?_, some (.int ((0 + k : Nat) : Int)), some (.int s), rfl⟩
      unfold fb1_Bench_add_all
      exact zExpr (xMthL rfl inc (xCallL xANil rfl (xACons (xN rfl rfl) (xACons (xN rfl rfl) xANil)) rfl rfl ec rfl rfl)))
  have hb : b_Bench_add_all [some (bnc w ss hist), some (.tup (nums tt)), none, none] = SR.ret (.int ((ss.length + tt.length : Nat) : Int)) [some (bnc w (ss ++ tt) (hist ++ [.tup [.str "add", net false w ss]])), some (.tup (nums tt)), z2, z3] := by
    unfold b_Bench_add_all
    refine zSeq (zFor (wEnT (xN rfl rfl) (nums_colds _)) L) (zSeq (st1 := [some (bnc w ss hist), some (.tup (nums tt)), z2, z3]) ?_ (zRet ?_))
    · exact zExpr (xCall (xACons (xOvv (xLenI (xFz (xOs rfl oFld_n rfl) frz_net) rfl e3 (Nat.blt_eq.mpr (by omega))) (xOs rfl len_t rfl) add_i rfl) xANil) e4)
    · have ls : (eLst (aStar (eOp (oFld 0 "own_steps") [.v (eOp (oFld 1 "own_network") [.s 0])]) (aStar (eN 1) aNil))) [some (bnc w ss hist), some (.tup (nums tt)), z2, z3] = .ok (.lst true (nums (ss ++ tt))) [some (bnc w ss hist), some (.tup (nums tt)), z2, z3] := by
        have sq : ∀ l : List Int, seqD (frz (.tup (nums l))) = some (nums l) := fun l => by rw [fz_t]; rfl
        have e := xLst (xStar (ms := aStar (eN 1) aNil) (d := .tup (nums ss)) (xOv (st := [some (bnc w ss hist), some (.tup (nums tt)), z2, z3]) (xOs (i := 0) (a := bnc w ss hist) rfl oFld_n rfl) oFld_s rfl) (sq ss) (xStar (d := .tup (nums tt)) (xN (i := 1) rfl rfl) (sq tt) xANil)) (Nat.ble_eq.mpr (by rw [List.append_nil, List.length_append, nums_len, nums_len]; omega))
        rw [List.append_nil, ← nums_app] at e
        exact e
      exact xMthL rfl ins (xCallL xANil rfl (xACons xC (xACons ls xANil)) rfl rfl e2 rfl rfl)
  have e9 : fn 2 4 [0, 1] b_Bench_add_all [bnc w ss hist, .tup (nums tt)] = .ok (.int ((ss.length + tt.length : Nat) : Int)) (keepL [0, 1] 2 [some (bnc w (ss ++ tt) (hist ++ [.tup [.str "add", net false w ss]])), some (.tup (nums tt)), z2, z3]) := fn_go rfl hb
  exact ⟨some (.tup (nums tt)), e9⟩
theorem add_ok {w : Nat} {ss tt : List Int} {hist : List D} (h1 : 1 ≤ w) (h2 : w ≤ 40) (h : okS w ss) (ht : okS w tt) (hl : ss.length ≤ 900) (hl2 : tt.length ≤ 50) (hh : hist.length < 100000) : ∃ ps, m_Bench_add (bnc w ss hist :: nums tt) = .ok (.int ((ss.length + tt.length : Nat) : Int)) (some (bnc w (ss ++ tt) (hist ++ [.tup [.str "add", net false w ss]])) :: ps) := by
  obtain ⟨z1, e⟩ := add_all_ok h1 h2 h ht hl hl2 hh
  have ina : insOf 1 "add_all" (bnc w ss hist) = true := ins_b (by decide +kernel) (by decide +kernel)
  have hb : b_Bench_add [some (bnc w ss hist), some (.tup (nums tt))] = SR.ret (.int ((ss.length + tt.length : Nat) : Int)) [some (bnc w (ss ++ tt) (hist ++ [.tup [.str "add", net false w ss]])), some (.tup (nums tt))] := by
    unfold b_Bench_add
    exact zRet (xMthL rfl ina (xCallL xANil rfl (xACons (xN rfl rfl) xANil) rfl rfl e rfl rfl))
  have e2 : fn 2 2 [0, 1] b_Bench_add [bnc w ss hist, .tup (nums tt)] = .ok (.int ((ss.length + tt.length : Nat) : Int)) (keepL [0, 1] 2 [some (bnc w (ss ++ tt) (hist ++ [.tup [.str "add", net false w ss]])), some (.tup (nums tt))]) := fn_go rfl hb
  have e3 := mStar_ok (n := 1) (m := fn 2 2 [0, 1] b_Bench_add) (ds := bnc w ss hist :: nums tt) (by rw [List.length_cons]; omega) (by rw [List.length_cons, nums_len]; omega) (by
    show fn 2 2 [0, 1] b_Bench_add ([bnc w ss hist] ++ [.tup (frzL (nums tt))]) = _
    rw [nums_frz]
    exact e2)
  exact ⟨_, e3⟩
theorem perf_drop {w : Nat} {ss : List Int} {hist : List D} {i : Nat} (h1 : 1 ≤ w) (h2 : w ≤ 40) (h : okS w ss) (hl : ss.length ≤ 900) (hh : hist.length < 100000) (hi : i < ss.length) : ∃ z1, m__law_perform [bnc w ss hist, .tup [.str "drop", .int (i : Int)]] = .ok (.int (ss.getD i 0)) [some (bnc w (dropAt i ss) (hist ++ [.tup [.str "drop", net false w ss]])), z1] := by
  obtain ⟨z, e⟩ := drop_ok h1 h2 h hl hh hi
  have ind : insOf 1 "drop" (bnc w ss hist) = true := ins_b (by decide +kernel) (by decide +kernel)
  have x0 : oIx [.tup [.str "drop", .int (i : Int)], .int 0] = some (.val (.str "drop")) := rfl
  have x1 : oIx [.tup [.str "drop", .int (i : Int)], .int 1] = some (.val (.int (i : Int))) := rfl
  have q : f2 pEq [.str "drop", .str "drop"] = some (.val (.bl true)) := by kernel_rfl
  have hb : b__law_perform [some (bnc w ss hist), some (.tup [.str "drop", .int (i : Int)])] = SR.ret (.int (ss.getD i 0)) [some (bnc w (dropAt i ss) (hist ++ [.tup [.str "drop", net false w ss]])), some (.tup [.str "drop", .int (i : Int)])] := by
    unfold b__law_perform
    exact zSeqR (zYes (cE (xOvv (xOsv rfl xC rfl x0 rfl) xC q rfl)) (zRet (xMthL rfl ind (xCallL xANil rfl (xACons (xOsv rfl xC rfl x1 rfl) xANil) rfl rfl e rfl rfl))))
  have e2 : fn 2 2 [0, 1] b__law_perform [bnc w ss hist, .tup [.str "drop", .int (i : Int)]] = .ok (.int (ss.getD i 0)) (keepL [0, 1] 2 [some (bnc w (dropAt i ss) (hist ++ [.tup [.str "drop", net false w ss]])), some (.tup [.str "drop", .int (i : Int)])]) := fn_go rfl hb
  exact ⟨_, e2⟩
theorem perf_place {w : Nat} {ss : List Int} {hist : List D} {i : Nat} {s : Int} (h1 : 1 ≤ w) (h2 : w ≤ 40) (h : okS w ss) (hl : ss.length ≤ 900) (hh : hist.length < 100000) (hi : i ≤ ss.length) (s1 : 1 ≤ s) (s2 : s ≤ w - 1) : ∃ z1, m__law_perform [bnc w ss hist, .tup [.str "place", .int (i : Int), .int s]] = .ok (.int ((ss.length + 1 : Nat) : Int)) [some (bnc w (putAt i s ss) (hist ++ [.tup [.str "place", net false w ss]])), z1] := by
  obtain ⟨z, z', e⟩ := place_ok h1 h2 h hl hh hi s1 s2
  have ind : insOf 1 "place" (bnc w ss hist) = true := ins_b (by decide +kernel) (by decide +kernel)
  have x0 : oIx [.tup [.str "place", .int (i : Int), .int s], .int 0] = some (.val (.str "place")) := rfl
  have x1 : oIx [.tup [.str "place", .int (i : Int), .int s], .int 1] = some (.val (.int (i : Int))) := rfl
  have x2 : oIx [.tup [.str "place", .int (i : Int), .int s], .int 2] = some (.val (.int s)) := rfl
  have q : f2 pEq [.str "place", .str "place"] = some (.val (.bl true)) := by kernel_rfl
  have q0 : f2 pEq [.str "place", .str "drop"] = some (.val (.bl false)) := by kernel_rfl
  have hb : b__law_perform [some (bnc w ss hist), some (.tup [.str "place", .int (i : Int), .int s])] = SR.ret (.int ((ss.length + 1 : Nat) : Int)) [some (bnc w (putAt i s ss) (hist ++ [.tup [.str "place", net false w ss]])), some (.tup [.str "place", .int (i : Int), .int s])] := by
    unfold b__law_perform
    exact zSeq (zNo (cE (xOvv (xOsv rfl xC rfl x0 rfl) xC q0 rfl)) zSkip) (zSeqR (zYes (cE (xOvv (xOsv rfl xC rfl x0 rfl) xC q rfl)) (zRet (xMthL rfl ind (xCallL xANil rfl (xACons (xOsv rfl xC rfl x1 rfl) (xACons (xOsv rfl xC rfl x2 rfl) xANil)) rfl rfl e rfl rfl)))))
  have e2 : fn 2 2 [0, 1] b__law_perform [bnc w ss hist, .tup [.str "place", .int (i : Int), .int s]] = .ok (.int ((ss.length + 1 : Nat) : Int)) (keepL [0, 1] 2 [some (bnc w (putAt i s ss) (hist ++ [.tup [.str "place", net false w ss]])), some (.tup [.str "place", .int (i : Int), .int s])]) := fn_go rfl hb
  exact ⟨_, e2⟩
theorem perf_add {w : Nat} {ss tt : List Int} {hist : List D} (h1 : 1 ≤ w) (h2 : w ≤ 40) (h : okS w ss) (ht : okS w tt) (hl : ss.length ≤ 900) (hl2 : tt.length ≤ 2) (hh : hist.length < 100000) : ∃ z1, m__law_perform [bnc w ss hist, .tup [.str "add", .lst false (nums tt)]] = .ok (.int ((ss.length + tt.length : Nat) : Int)) [some (bnc w (ss ++ tt) (hist ++ [.tup [.str "add", net false w ss]])), z1] := by
  obtain ⟨ps, e⟩ := add_ok h1 h2 h ht hl (by omega) hh
  have ina : insOf 1 "add" (bnc w ss hist) = true := ins_b (by decide +kernel) (by decide +kernel)
  have x0 : oIx [.tup [.str "add", .lst false (nums tt)], .int 0] = some (.val (.str "add")) := rfl
  have x1 : oIx [.tup [.str "add", .lst false (nums tt)], .int 1] = some (.val (.lst false (nums tt))) := rfl
  have q0 : f2 pEq [.str "add", .str "drop"] = some (.val (.bl false)) := by kernel_rfl
  have q1 : f2 pEq [.str "add", .str "place"] = some (.val (.bl false)) := by kernel_rfl
  have ln : oLen [.lst false (nums tt)] = some (.val (.int ((tt.length : Nat) : Int))) := oLen_l
  have hb : b__law_perform [some (bnc w ss hist), some (.tup [.str "add", .lst false (nums tt)])] = SR.ret (.int ((ss.length + tt.length : Nat) : Int)) [some (bnc w (ss ++ tt) (hist ++ [.tup [.str "add", net false w ss]])), some (.tup [.str "add", .lst false (nums tt)])] := by
    unfold b__law_perform
    refine zSeq (zNo (cE (xOvv (xOsv rfl xC rfl x0 rfl) xC q0 rfl)) zSkip) (zSeq (zNo (cE (xOvv (xOsv rfl xC rfl x0 rfl) xC q1 rfl)) zSkip) ?_)
    rcases tt with _ | ⟨a, _ | ⟨b, _ | ⟨c, l⟩⟩⟩
    · have g : f2 pEq [.int (((([] : List Int).length : Nat)) : Int), .int 0] = some (.val (.bl true)) := by kernel_rfl
      exact zSeqR (zYes (cE (xOvv (xOv (xOsv rfl xC rfl x1 rfl) ln rfl) xC g rfl)) (zRet (xMthL rfl ina (xCallL xANil rfl xANil rfl rfl e rfl rfl))))
    · have g : f2 pEq [.int ((([a] : List Int).length : Nat) : Int), .int 0] = some (.val (.bl false)) := by kernel_rfl
      have g1 : f2 pEq [.int ((([a] : List Int).length : Nat) : Int), .int 1] = some (.val (.bl true)) := by kernel_rfl
      have i0 : oIx [.lst false (nums [a]), .int 0] = some (.val (.int a)) := rfl
      exact zSeq (zNo (cE (xOvv (xOv (xOsv rfl xC rfl x1 rfl) ln rfl) xC g rfl)) zSkip) (zRet (xIfT (cE (xOvv (xOv (xOsv rfl xC rfl x1 rfl) ln rfl) xC g1 rfl)) (xMthL rfl ina (xCallL xANil rfl (xACons (xOvv (xOsv rfl xC rfl x1 rfl) xC i0 rfl) xANil) rfl rfl e rfl rfl))))
    · have g : f2 pEq [.int ((([a, b] : List Int).length : Nat) : Int), .int 0] = some (.val (.bl false)) := by kernel_rfl
      have g1 : f2 pEq [.int ((([a, b] : List Int).length : Nat) : Int), .int 1] = some (.val (.bl false)) := by kernel_rfl
      have i0 : oIx [.lst false (nums [a, b]), .int 0] = some (.val (.int a)) := rfl
      have i1 : oIx [.lst false (nums [a, b]), .int 1] = some (.val (.int b)) := rfl
      exact zSeq (zNo (cE (xOvv (xOv (xOsv rfl xC rfl x1 rfl) ln rfl) xC g rfl)) zSkip) (zRet (xIfF (cE (xOvv (xOv (xOsv rfl xC rfl x1 rfl) ln rfl) xC g1 rfl)) (xMthL rfl ina (xCallL xANil rfl (xACons (xOvv (xOsv rfl xC rfl x1 rfl) xC i0 rfl) (xACons (xOvv (xOsv rfl xC rfl x1 rfl) xC i1 rfl) xANil)) rfl rfl e rfl rfl))))
    · simp at hl2
  have e2 : fn 2 2 [0, 1] b__law_perform [bnc w ss hist, .tup [.str "add", .lst false (nums tt)]] = .ok (.int ((ss.length + tt.length : Nat) : Int)) (keepL [0, 1] 2 [some (bnc w (ss ++ tt) (hist ++ [.tup [.str "add", net false w ss]])), some (.tup [.str "add", .lst false (nums tt)])]) := fn_go rfl hb
  exact ⟨_, e2⟩
theorem perf_ok {w : Nat} {ss T : List Int} {hist : List D} {v : D} {x : Str} {r : Int} (hc : Ch w ss v x T r) (h1 : 1 ≤ w) (h2 : w ≤ 40) (h : okS w ss) (hl : ss.length ≤ 900) (hh : hist.length < 100000) : ∃ z1, m__law_perform [bnc w ss hist, v] = .ok (.int r) [some (bnc w T (hist ++ [.tup [.str x, net false w ss]])), z1] := by
  cases hc with
  | drop i hi => exact perf_drop h1 h2 h hl hh hi
  | place i s hi s1 s2 => exact perf_place h1 h2 h hl hh hi s1 s2
  | add tt ht l2 => exact perf_add h1 h2 h ht hl l2 hh
theorem new_drop {wd : D} {ss : List Int} {i : Nat} (o : Bool) (hl : ss.length ≤ 900) : ∃ ps, m__law_new_steps [wd, .lst o (nums ss), .tup [.str "drop", .int (i : Int)]] = .ok (.lst true (nums (dropAt i ss))) ps := by
  have x0 : oIx [.tup [.str "drop", .int (i : Int)], .int 0] = some (.val (.str "drop")) := rfl
  have x1 : oIx [.tup [.str "drop", .int (i : Int)], .int 1] = some (.val (.int (i : Int))) := rfl
  have q0 : f2 pEq [.str "drop", .str "add"] = some (.val (.bl false)) := by kernel_rfl
  have q1 : f2 pEq [.str "drop", .str "place"] = some (.val (.bl false)) := by kernel_rfl
  have a1 : oS01 [.lst o (nums ss), .int (i : Int)] = some (.newL (nums (ss.take i))) := s01_n rfl (by omega)
  have a2 : oS10 [.lst o (nums ss), .int ((i : Int) + 1)] = some (.newL (nums (ss.drop (i + 1)))) := s10_n (k := i + 1) (by omega) (by omega)
  have a3 : oAdd [.lst true (nums (ss.take i)), .lst true (nums (ss.drop (i + 1)))] = some (.newL (nums (dropAt i ss))) := add_l (by rw [List.length_take, List.length_drop]; omega)
  refine ⟨_, fn_go rfl (?_ : b__law_new_steps [some wd, some (.lst o (nums ss)), some (.tup [.str "drop", .int (i : Int)]), none] = SR.ret (.lst true (nums (dropAt i ss))) [some wd, some (.lst o (nums ss)), some (.tup [.str "drop", .int (i : Int)]), some (.str "drop")])⟩
  unfold b__law_new_steps
  exact zSeq (zAsg (xOsv rfl xC rfl x0 rfl) rfl) (zSeq (zNo (cE (xOsv rfl xC rfl q0 rfl)) zSkip) (zSeq (zNo (cE (xOsv rfl xC rfl q1 rfl)) zSkip) (zRet (xOvv (xOsv rfl (xOsv rfl xC rfl x1 rfl) rfl a1 rfl) (xOsv rfl (xOvv (xOsv rfl xC rfl x1 rfl) xC add_i rfl) rfl a2 rfl) a3 rfl))))
theorem new_place {wd : D} {ss : List Int} {i : Nat} {s : Int} (o : Bool) (hl : ss.length ≤ 900) : ∃ ps, m__law_new_steps [wd, .lst o (nums ss), .tup [.str "place", .int (i : Int), .int s]] = .ok (.lst true (nums (putAt i s ss))) ps := by
  have x0 : oIx [.tup [.str "place", .int (i : Int), .int s], .int 0] = some (.val (.str "place")) := rfl
  have x1 : oIx [.tup [.str "place", .int (i : Int), .int s], .int 1] = some (.val (.int (i : Int))) := rfl
  have x2 : oIx [.tup [.str "place", .int (i : Int), .int s], .int 2] = some (.val (.int s)) := rfl
  have q0 : f2 pEq [.str "place", .str "add"] = some (.val (.bl false)) := by kernel_rfl
  have q1 : f2 pEq [.str "place", .str "place"] = some (.val (.bl true)) := by kernel_rfl
  have a1 : oS01 [.lst o (nums ss), .int (i : Int)] = some (.newL (nums (ss.take i))) := s01_n rfl (by omega)
  have a2 : oS10 [.lst o (nums ss), .int (i : Int)] = some (.newL (nums (ss.drop i))) := s10_n (k := i) rfl (by omega)
  have a3 : oAdd [.lst true (nums (ss.take i)), .lst true (nums [s])] = some (.newL (nums (ss.take i ++ [s]))) := add_l (by rw [List.length_take, List.length_singleton]; omega)
  have a5 : oAdd [.lst true (nums (ss.take i ++ [s])), .lst true (nums (ss.drop i))] = some (.newL (nums (putAt i s ss))) := add_l (by rw [List.length_append, List.length_take, List.length_singleton, List.length_drop]; omega)
  refine ⟨_, fn_go rfl (?_ : b__law_new_steps [some wd, some (.lst o (nums ss)), some (.tup [.str "place", .int (i : Int), .int s]), none] = SR.ret (.lst true (nums (putAt i s ss))) [some wd, some (.lst o (nums ss)), some (.tup [.str "place", .int (i : Int), .int s]), some (.str "place")])⟩
  unfold b__law_new_steps
  exact zSeq (zAsg (xOsv rfl xC rfl x0 rfl) rfl) (zSeq (zNo (cE (xOsv rfl xC rfl q0 rfl)) zSkip) (zSeqR (zYes (cE (xOsv rfl xC rfl q1 rfl)) (zRet (xOvv (xOvv (xOsv rfl (xOsv rfl xC rfl x1 rfl) rfl a1 rfl) (xLst (xACons (xOsv rfl xC rfl x2 rfl) xANil) rfl) a3 rfl) (xOsv rfl (xOsv rfl xC rfl x1 rfl) rfl a2 rfl) a5 rfl)))))
theorem new_add {wd : D} {ss tt : List Int} (o : Bool) (hl : ss.length ≤ 900) (hl2 : tt.length ≤ 50) : ∃ ps, m__law_new_steps [wd, .lst o (nums ss), .tup [.str "add", .lst false (nums tt)]] = .ok (.lst true (nums (ss ++ tt))) ps := by
  have x0 : oIx [.tup [.str "add", .lst false (nums tt)], .int 0] = some (.val (.str "add")) := rfl
  have x1 : oIx [.tup [.str "add", .lst false (nums tt)], .int 1] = some (.val (.lst false (nums tt))) := rfl
  have q0 : f2 pEq [.str "add", .str "add"] = some (.val (.bl true)) := by kernel_rfl
  have l1 : oList [.lst false (nums tt)] = some (.newL (nums tt)) := lst_o (by omega)
  have a3 : oAdd [.lst o (nums ss), .lst true (nums tt)] = some (.newL (nums (ss ++ tt))) := add_l (by omega)
  refine ⟨_, fn_go rfl (?_ : b__law_new_steps [some wd, some (.lst o (nums ss)), some (.tup [.str "add", .lst false (nums tt)]), none] = SR.ret (.lst true (nums (ss ++ tt))) [some wd, some (.lst o (nums ss)), some (.tup [.str "add", .lst false (nums tt)]), some (.str "add")])⟩
  unfold b__law_new_steps
  exact zSeq (zAsg (xOsv rfl xC rfl x0 rfl) rfl) (zSeqR (zYes (cE (xOsv rfl xC rfl q0 rfl)) (zRet (xOsv rfl (xOv (xOsv rfl xC rfl x1 rfl) l1 rfl) rfl a3 rfl))))
/-! ### the history as told -/
theorem new_ok {w : Nat} {ss T : List Int} {v : D} {x : Str} {r : Int} (hc : Ch w ss v x T r) (hl : ss.length ≤ 900) : ∃ ps, m__law_new_steps [.int (w : Int), .lst false (nums ss), v] = .ok (.lst true (nums T)) ps := by
  cases hc with
  | drop i hi => exact new_drop false hl
  | place i s hi s1 s2 => exact new_place false hl
  | add tt ht l2 => exact new_add false hl (by omega)
theorem changes_ok {w : Int} {ss : List Int} {hs : List (Str × List Int)} (hl : hs.length ≤ 100000) : m_Bench_changes [bnc w ss (HL w hs)] = .ok (.lst true (wds hs)) [some (bnc w ss (HL w hs))] := by
  have c : eLc (iE (eOp (oFld 1 "own_history") [.s 0]) lstItems) lg1_Bench_changes tYesM le1_Bench_changes [1, 2] [some (bnF w ss (HL w hs)), none, none] = .ok (.lst true (wds hs)) [some (bnF w ss (HL w hs)), none, none] :=
    xLc2n (fun p : Str × List Int => D.tup [.str p.1, net false w p.2]) (fun p => D.str p.1) (fun _ => true) hs (wE (xOs rfl oFld_hF rfl) lst_it (HL_cold w hs)) rfl (by omega) rfl (fun p hp => ⟨[some (bnF w ss (HL w hs)), some (.str p.1), some (net false w p.2)], [some (bnF w ss (HL w hs)), some (.str p.1), some (net false w p.2)], rfl, rfl, (fun h => by cases h), fun _ => ⟨[some (bnF w ss (HL w hs)), some (.str p.1), some (net false w p.2)], xN rfl rfl, rfl⟩⟩) (by rw [List.filter_eq_self.mpr (fun _ _ => rfl)]; rfl)
  have t : eThaw 0 (eLc (iE (eOp (oFld 1 "own_history") [.s 0]) lstItems) lg1_Bench_changes tYesM le1_Bench_changes [1, 2]) [some (bnc w ss (HL w hs)), none, none] = .ok (.lst true (wds hs)) [some (bnc w ss (HL w hs)), none, none] :=
    xThaw rfl frz_b c (wds_flat hs) rfl rfl
  have hb : b_Bench_changes [some (bnc w ss (HL w hs)), none, none] = SR.ret (.lst true (wds hs)) [some (bnc w ss (HL w hs)), none, none] := by
    unfold b_Bench_changes
    exact zRet t
  exact fn_go (n := 1) (w := 3) (L := [0]) (ds := [bnc w ss (HL w hs)]) rfl hb
theorem blen_ok {w : Int} {ss : List Int} {hist : List D} (hl : ss.length ≤ 1000) : ∃ ps, m_Bench___len__ [bnF w ss hist] = .ok (.int (ss.length : Nat)) ps := by
  obtain ⟨p3, e3⟩ := len_ok w ss
  refine ⟨_, fn_go rfl (?_ : b_Bench___len__ [some (bnF w ss hist)] = SR.ret (.int (ss.length : Nat)) [some (bnF w ss hist)])⟩
  unfold b_Bench___len__
  exact zRet (xLenI (xFz (xOs rfl oFld_nF rfl) frz_net) rfl e3 (Nat.blt_eq.mpr (by omega)))
theorem brepr_ok {w : Int} {ss : List Int} {hist : List D} (h1 : 0 ≤ w) (h2 : w ≤ 40) (hl : ss.length ≤ 1000) : ∃ ps, m_Bench___repr__ [bnF w ss hist] = .ok (.str (bT w (ss.length : Nat))) ps := by
  obtain ⟨p3, e3⟩ := len_ok w ss
  have n1 := tos_len2 (n := w) h1 (by omega)
  have n2 := tos_len2 (n := ((ss.length : Nat) : Int)) (by omega) (by omega)
  have c1 : (("Bench(" : Str)).length = 6 := by decide +kernel
  have c2 : ((", " : Str)).length = 2 := by decide +kernel
  have c3 : ((" steps)" : Str)).length = 7 := by decide +kernel
  refine ⟨_, fn_go rfl (?_ : b_Bench___repr__ [some (bnF w ss hist)] = SR.ret (.str (bT w (ss.length : Nat))) [some (bnF w ss hist)])⟩
  unfold b_Bench___repr__ bT
  apply zRet
  unfold eJ
  refine js_cons (y := "Bench(") (st1 := [some (bnF w ss hist)]) rfl (by rw [emp_app, c1]; decide) ?_
  rw [emp_app]
  refine js_cons (y := (toString w : String)) (st1 := [some (bnF w ss hist)]) (xOv (xOv (xOs rfl oFld_nF rfl) oFld_w rfl) (fmt_i2 h1 (by omega)) rfl) (by rw [len_app, c1]; omega) ?_
  refine js_cons (y := ", ") (st1 := [some (bnF w ss hist)]) rfl (by rw [len_app, len_app, c1, c2]; omega) ?_
  refine js_cons (y := (toString ((ss.length : Nat) : Int) : String)) (st1 := [some (bnF w ss hist)]) (xOv (xLenI (xFz (xOs rfl oFld_nF rfl) frz_net) rfl e3 (Nat.blt_eq.mpr (by omega))) (fmt_i2 (by omega) (by omega)) rfl) (by rw [len_app, len_app, len_app, c1, c2]; omega) ?_
  refine js_cons (y := " steps)") (st1 := [some (bnF w ss hist)]) rfl (by rw [len_app, len_app, len_app, len_app, c1, c2, c3]; omega) ?_
  exact js_nil
theorem state_ok {w : Int} {ss : List Int} {hs : List (Str × List Int)} (h1 : 0 ≤ w) (h2 : w ≤ 40) (hl : ss.length ≤ 1000) (hh : hs.length ≤ 100000) : m__law_state [bnc w ss (HL w hs)] = .ok (.lst true [net false w ss, .lst true (wds hs), .int (ss.length : Nat), .str (bT w (ss.length : Nat))]) [some (bnc w ss (HL w hs))] := by
  have ch := changes_ok (w := w) (ss := ss) (hs := hs) hh
  obtain ⟨p1, e1⟩ := blen_ok (w := w) (hist := HL w hs) hl
  obtain ⟨p2, e2⟩ := brepr_ok (w := w) (hist := HL w hs) h1 h2 hl
  have ins : insOf 1 "changes" (bnc w ss (HL w hs)) = true := ins_b (by decide +kernel) (by decide +kernel)
  have hb : b__law_state [some (bnc w ss (HL w hs))] = SR.ret (.lst true [net false w ss, .lst true (wds hs), .int (ss.length : Nat), .str (bT w (ss.length : Nat))]) [some (bnc w ss (HL w hs))] := by
    unfold b__law_state
    refine zRet (xLst (xACons (xOs rfl oFld_n rfl) (xACons (st1 := [some (bnc w ss (HL w hs))]) (xProp rfl ins rfl ch rfl) (xACons (st1 := [some (bnc w ss (HL w hs))]) ?_ (xACons (st1 := [some (bnc w ss (HL w hs))]) ?_ xANil)))) rfl)
    · exact xThaw rfl frz_b (st2 := [some (bnF w ss (HL w hs))]) (xLenI (xFz (xN rfl rfl) frz_F) rfl e1 (Nat.blt_eq.mpr (by omega))) rfl rfl rfl
    · exact xThaw rfl frz_b (st2 := [some (bnF w ss (HL w hs))]) (xReprI (xN rfl rfl) frz_F rfl e2) rfl rfl rfl
  exact fn_go (n := 1) (w := 1) (L := [0]) (ds := [bnc w ss (HL w hs)]) rfl hb
theorem states_eq {w : Nat} {ss : List Int} {hs : List (Str × List Int)} {n : Int} {t : Str} : itsOk 0 m_Network___eq__ [net false w ss, .lst false (wds hs), .int n, .str t] [net false w ss, .lst false (wds hs), .int n, .str t] = true := by
  obtain ⟨p4, e4⟩ := eq_ok w w ss ss
  rw [decide_eq_true ⟨rfl, rfl⟩] at e4
  have a : itOk 0 m_Network___eq__ (net false w ss) (net false w ss) = true := by
    unfold net at e4 ⊢
    unfold itOk
    dsimp only
    rw [e4]
    rfl
  have b : itOk 0 m_Network___eq__ (.lst false (wds hs)) (.lst false (wds hs)) = true := by
    unfold itOk
    exact flatsEq_wds hs
  have c : itOk 0 m_Network___eq__ (.int n) (.int n) = true := by simp [itOk, flat, eqF]
  have d : itOk 0 m_Network___eq__ (.str t) (.str t) = true := by simp [itOk, flat, eqF]
  rw [itsOk, itsOk, itsOk, itsOk, itsOk, a, b, c, d]
  rfl
theorem change_ok {w : Nat} {ss : List Int} (a b : Int) (h1 : 1 ≤ w) (h2 : w ≤ 40) (hl : ss.length ≤ 900) : ∃ v x T r a' b', Ch w ss v x T r ∧ m__law_change [.lst true [.int a, .int b], .int (w : Int), .lst false (nums ss)] = .ok v [some (.lst true [.int a', .int b']), some (.int (w : Int)), some (.lst false (nums ss))] := by
  obtain ⟨c, a1, b1, c1, c2, e1⟩ := draw_ok a b 4 (by decide) (by decide)
  have q : f2 pNe [.lst false (nums ss), .lst true []] = some (.val (.bl (!decide (ss = [])))) := ne_of (pNe_lst false true ss [])
  have t1 : sAsg (eCallL m__law_draw aNil 0 (aCons (eC (.int 4)) aNil)) (gN 3) [some (.lst true [.int a, .int b]), some (.int (w : Int)), some (.lst false (nums ss)), none] = .next [some (.lst true [.int a1, .int b1]), some (.int (w : Int)), some (.lst false (nums ss)), some (.int c)] := by walk_at "z"
  have hl0 : ss = [] ↔ ss.length = 0 := by rw [List.length_eq_zero_iff]
  have g1 : f2 pEq [.int c, .int 0] = some (.val (.bl (decide (c = 0)))) := eq_of (pEq_int _ _)
  have g2 : f2 pEq [.int c, .int 1] = some (.val (.bl (decide (c = 1)))) := eq_of (pEq_int _ _)
  have k1 : (tAndM (tE (eOp (f2 pEq) [.s 3, .v (eC (.int 0))])) (tE (eOp (f2 pNe) [.s 2, .v (eLst aNil)]))) [some (.lst true [.int a1, .int b1]), some (.int (w : Int)), some (.lst false (nums ss)), some (.int c)] = .ok (decide (c = 0) && !decide (ss = [])) [some (.lst true [.int a1, .int b1]), some (.int (w : Int)), some (.lst false (nums ss)), some (.int c)] := by
    by_cases hc : c = 0
    · rw [decide_eq_true hc] at g1 ⊢
      rw [Bool.true_and]
      exact cAndT (cE (xOsv rfl xC rfl g1 rfl)) (cE (xOsv rfl (xLst xANil rfl) rfl q rfl))
    · rw [decide_eq_false hc] at g1 ⊢
      rw [Bool.false_and]
      exact cAndF (cE (xOsv rfl xC rfl g1 rfl))
  have k2 : (tAndM (tE (eOp (f2 pEq) [.s 3, .v (eC (.int 1))])) (tE (eOp (f2 pGt) [.s 1, .v (eC (.int 1))]))) [some (.lst true [.int a1, .int b1]), some (.int (w : Int)), some (.lst false (nums ss)), some (.int c)] = .ok (decide (c = 1) && decide ((1 : Int) < w)) [some (.lst true [.int a1, .int b1]), some (.int (w : Int)), some (.lst false (nums ss)), some (.int c)] := by
    by_cases hc : c = 1
    · rw [decide_eq_true hc] at g2 ⊢
      rw [Bool.true_and]
      exact cAndT (cE (xOsv rfl xC rfl g2 rfl)) (cE (xOsv rfl xC rfl gt_i rfl))
    · rw [decide_eq_false hc] at g2 ⊢
      rw [Bool.false_and]
      exact cAndF (cE (xOsv rfl xC rfl g2 rfl))
  by_cases d1 : c = 0 ∧ ss ≠ []
  · have n0 : ss.length ≠ 0 := fun z => d1.2 (hl0.mpr z)
    obtain ⟨i, a2, b2, i1, i2, e2⟩ := draw_ok a1 b1 (ss.length : Nat) (by omega) (by omega)
    obtain ⟨n, rfl⟩ : ∃ n : Nat, i = (n : Int) := ⟨i.toNat, by omega⟩
    refine ⟨_, _, _, _, a2, b2, .drop n (by omega), ?_⟩
    rw [decide_eq_true d1.1, decide_eq_false d1.2] at k1
    refine fn_go (st := [some (.lst true [.int a2, .int b2]), some (.int (w : Int)), some (.lst false (nums ss)), some (.int c)]) rfl ?_
    unfold b__law_change
    exact zSeq t1 (zSeqR (zYes k1 (zRet (xTup (xACons xC (xACons (xCallL xANil rfl (xACons (xOs rfl oLen_l rfl) xANil) rfl rfl e2 rfl rfl) xANil)) rfl (fzL_c fz_s (fzL_c fz_i fzL_n))))))
  · have k1' : (decide (c = 0) && !decide (ss = [])) = false := by
      by_cases hc : c = 0
      · by_cases hs : ss = []
        · rw [decide_eq_true hs, Bool.not_true, Bool.and_false]
        · exact absurd ⟨hc, hs⟩ d1
      · rw [decide_eq_false hc, Bool.false_and]
    rw [k1'] at k1
    by_cases d2 : c = 1 ∧ (1 : Int) < w
    · obtain ⟨i, a2, b2, i1, i2, e2⟩ := draw_ok a1 b1 (((ss.length : Nat) : Int) + 1) (by omega) (by omega)
      obtain ⟨s, a3, b3, s1, s2, e3⟩ := draw_ok a2 b2 ((w : Int) - 1) (by omega) (by omega)
      obtain ⟨n, rfl⟩ : ∃ n : Nat, i = (n : Int) := ⟨i.toNat, by omega⟩
      refine ⟨_, _, _, _, a3, b3, .place n (1 + s) (by omega) (by omega) (by omega), ?_⟩
      rw [decide_eq_true d2.1, decide_eq_true d2.2] at k2
      refine fn_go (st := [some (.lst true [.int a3, .int b3]), some (.int (w : Int)), some (.lst false (nums ss)), some (.int c)]) rfl ?_
      unfold b__law_change
      exact zSeq t1 (zSeq (zNo k1 zSkip) (zSeqR (zYes k2 (zRet (xTup (xACons xC (xACons (xCallL xANil rfl (xACons (xOvv (xOs rfl oLen_l rfl) xC add_i rfl) xANil) rfl rfl e2 rfl rfl) (xACons (xOvv xC (xCallL xANil rfl (xACons (xOsv rfl xC rfl sub_i rfl) xANil) rfl rfl e3 rfl rfl) add_i rfl) xANil))) rfl (fzL_c fz_s (fzL_c fz_i (fzL_c fz_i fzL_n))))))))
    · have k2' : (decide (c = 1) && decide ((1 : Int) < w)) = false := by
        by_cases hc : c = 1
        · by_cases hs : (1 : Int) < w
          · exact absurd ⟨hc, hs⟩ d2
          · rw [decide_eq_false hs, Bool.and_false]
        · rw [decide_eq_false hc, Bool.false_and]
      rw [k2'] at k2
      obtain ⟨m, a2, b2, m1, m2, e2⟩ := draw_ok a1 b1 3 (by decide) (by decide)
      obtain ⟨tt, a3, b3, t2, t3, e3⟩ := steps3_ok a2 b2 (w : Int) m (by omega) (by omega) m1 (by omega)
      refine ⟨_, _, _, _, a3, b3, .add tt t2 (by omega), ?_⟩
      refine fn_go (st := [some (.lst true [.int a3, .int b3]), some (.int (w : Int)), some (.lst false (nums ss)), some (.int c)]) rfl ?_
      unfold b__law_change
      have cd : (eCallL m__law_steps aNil 0 (aCons (eN 1) (aCons (eCallL m__law_draw aNil 0 (aCons (eC (.int 3)) aNil)) aNil))) [some (.lst true [.int a1, .int b1]), some (.int (w : Int)), some (.lst false (nums ss)), some (.int c)] = .ok (.lst true (nums tt)) [some (.lst true [.int a3, .int b3]), some (.int (w : Int)), some (.lst false (nums ss)), some (.int c)] :=
        xCallL xANil rfl (xACons (xN rfl rfl) (xACons (xCallL xANil rfl (xACons xC xANil) rfl rfl e2 rfl rfl) xANil)) rfl rfl e3 rfl rfl
      exact zSeq t1 (zSeq (zNo k1 zSkip) (zSeq (zNo k2 zSkip) (zRet (xTup (xACons xC (xACons cd xANil)) rfl (fzL_c fz_s (fzL_c fz_l fzL_n))))))
theorem bench_ok {w : Nat} (h1 : 1 ≤ w) (h2 : w ≤ 40) : ∃ ps, m_Bench___init__ [.ins true 1 [], .int (w : Int)] = .ok .non (some (bnc w [] []) :: ps) := by
  obtain ⟨p1, e1⟩ := init_ok (w := (w : Int)) (ss := []) (by omega) (by omega) (fun s hs => by cases hs) (by decide) true
  have ee : ∃ ps, m_Network_empty [.cls 0, .int (w : Int)] = .ok (net true w []) ps := by
    refine ⟨_, fn_go rfl (?_ : b_Network_empty [some (.cls 0), some (.int (w : Int))] = SR.ret (net true w []) [some (.cls 0), some (.int (w : Int))])⟩
    unfold b_Network_empty
    apply zRet
    unfold eMakeV
    show eMake 0 m_Network___init__ (aCons (eN 1) (aCons (eLst aNil) aNil)) _ = _
    exact xMake (xACons (xN rfl rfl) (xACons (xLst xANil rfl) xANil)) e1
  obtain ⟨p2, e2⟩ := ee
  have v1 : (eFz (eCall m_Network_empty (aCons (eC (.cls 0)) (aCons (eN 1) aNil)))) [some (.ins true 1 []), some (.int (w : Int))] = .ok (net false w []) [some (.ins true 1 []), some (.int (w : Int))] := xFz (xCall (xACons xC (xACons (xN rfl rfl) xANil)) e2) frz_net
  have hb : b_Bench___init__ [some (.ins true 1 []), some (.int (w : Int))] = SR.next [some (bnc w [] []), some (.int (w : Int))] := by
    unfold b_Bench___init__
    refine zSeq (st1 := [some (.ins true 1 [("own_network", net false w [])]), some (.int (w : Int))]) ?_ ?_
    · unfold sFldO
      rw [v1]
      rfl
    · have n : ¬ (("own_network" : Str) = "own_history") := by decide +kernel
      unfold sFldO
      show (if 1 = 1 ∧ 1 < 1000 then SR.next ([some (.ins true 1 [("own_network", net false w [])]), some (.int (w : Int))].set 0 (some (.ins true 1 (putD "own_history" (.lst true []) [("own_network", net false w [])])))) else .fail) = _
      rw [if_pos ⟨rfl, by decide⟩, putD, if_neg n, putD]
      rfl
  exact ⟨_, fn_goN (n := 2) (w := 2) (L := [0, 1]) (ds := [.ins true 1 [], .int (w : Int)]) rfl hb⟩
/- m_Bench_undo -/
abbrev HS := List (Str × List Int)
/-- the steps at each moment -/
def rowL (hs : HS) (ss : List Int) : List (List Int) := hs.map (·.2) ++ [ss]
def rowS (hs : HS) (ss : List Int) (k : Nat) : List Int := (rowL hs ss).getD k []
theorem rowS_n (hs : HS) (ss : List Int) : rowS hs ss hs.length = ss := by
  unfold rowS rowL
  rw [List.getD_eq_getElem?_getD, List.getElem?_append_right (by rw [List.length_map]; exact Nat.le_refl _), List.length_map, Nat.sub_self]
  rfl
theorem rowS_lt {hs : HS} {ss : List Int} {k : Nat} (h : k < hs.length) : rowS hs ss k = (hs[k]).2 := by
  unfold rowS rowL
  rw [List.getD_eq_getElem?_getD, List.getElem?_append_left (by rw [List.length_map]; exact h), List.getElem?_map, List.getElem?_eq_getElem h]
  rfl
theorem wds_rev {hs : HS} {i : Nat} (h : i < hs.length) : (wds hs).reverse.take (i + 1) = (wds hs).reverse.take i ++ [.str (hs[hs.length - i - 1]).1] := by
  have l : i < (wds hs).reverse.length := by rw [List.length_reverse, wds_len]; exact h
  rw [List.take_succ_eq_append_getElem l]
  congr 2
  rw [List.getElem_reverse]
  unfold wds
  rw [List.getElem_map]
  simp only [List.length_map]
  congr 2
  have : hs.length - 1 - i = hs.length - i - 1 := by omega
  simp only [this]
theorem fPop_h {w : Int} {hs : HS} {x : Str} {s : List Int} : fPop (HL w (hs ++ [(x, s)])) = some (.tup [.str x, net false w s], HL w hs) := by
  unfold fPop
  rw [if_pos (HL_cold w _), ← HL_app, List.length_append, List.length_singleton, Nat.add_sub_cancel, List.getElem?_append_right (Nat.le_refl _), Nat.sub_self, List.dropLast_concat]
  rfl
theorem pop_ok {w : Int} {ss s : List Int} {hs : HS} {x : Str} (r : Sl) : eFM0 1 0 "own_history" fPop (some (bnc w ss (HL w (hs ++ [(x, s)]))) :: r) = .ok (.tup [.str x, net false w s]) (some (bnc w ss (HL w hs)) :: r) := by
  show (if 1 = 1 then (match List.lookup ("own_history" : Str) (flds w ss (HL w (hs ++ [(x, s)]))) with
    | some (.lst true xs) => (match fPop xs with
      | some (d, ys) => Res.ok d ((some (bnc w ss (HL w (hs ++ [(x, s)]))) :: r).set 0 (some (.ins true 1 (putD "own_history" (.lst true ys) (flds w ss (HL w (hs ++ [(x, s)])))))))
      | none => .fail)
    | _ => .fail) else .fail) = _
  rw [if_pos rfl, lookH]
  dsimp only
  rw [fPop_h]
  dsimp only
  rw [putH]
  rfl
theorem fop_len {w : Int} {ss : List Int} {h : List D} (r : Sl) : eFOp 1 0 "own_history" oLen (some (bnc w ss h) :: r) = .ok (.int (h.length : Nat)) (some (bnc w ss h) :: r) := by
  show (if 1 = 1 then (match List.lookup ("own_history" : Str) (flds w ss h) with
    | some d => (match oLen [d] with
      | some o => Res.ok o.d (some (bnc w ss h) :: r)
      | none => .fail)
    | none => .fail) else .fail) = _
  rw [if_pos rfl, lookH]
  rfl
theorem tg_ok {w : Int} {ss s : List Int} {h : List D} {x : Str} (y1 y2 y3 y4 : Option D) : gT [(gN 4), (gFldM 1 0 "own_network")] (.tup [.str x, net false w s]) [some (bnc w ss h), y1, y2, y3, y4] = .ok () [some (bnc w s h), y1, y2, y3, some (.str x)] := by
  have e1 : gFldM 1 0 "own_network" (net false w s) [some (bnc w ss h), y1, y2, y3, some (.str x)] = .ok () [some (bnc w s h), y1, y2, y3, some (.str x)] := by
    show (if 1 = 1 ∧ 2 < 1000 then Res.ok () ([some (bnc w ss h), y1, y2, y3, some (.str x)].set 0 (some (.ins true 1 (putD "own_network" (net false w s) (flds w ss h))))) else .fail) = _
    rw [if_pos ⟨rfl, by decide⟩, putN]
    rfl
  show ((gFldM 1 0 "own_network" (net false w s)) [some (bnc w ss h), y1, y2, y3, some (.str x)]).bind (fun _ st1 => gTupM [] [] st1) = _
  rw [e1]
  rfl
/-- t changes undone -/
theorem undo_ok {w : Int} {ss : List Int} {hs : HS} {t : Nat} (hl : hs.length ≤ 1200) (ht : t ≤ hs.length) : m_Bench_undo [bnc w ss (HL w hs), .int (t : Int)] = .ok (.lst true ((wds hs).reverse.take t)) [some (bnc w (rowS hs ss (hs.length - t)) (HL w (hs.take (hs.length - t)))), some (.int (t : Int))] := by
  have ea := is_any_ok (t : Int)
  obtain ⟨st', L, y3, y4, rfl⟩ := forD_ok (g := fg1_Bench_undo) (body := fb1_Bench_undo) (fun i st => ∃ y3 y4, st = [some (bnc w (rowS hs ss (hs.length - i)) (HL w (hs.take (hs.length - i)))), some (.int (t : Int)), some (.lst true ((wds hs).reverse.take i)), y3, y4]) (rangeD 0 t) 0
    [some (bnc w ss (HL w hs)), some (.int (t : Int)), some (.lst true []), none, none] ⟨none, none, by rw [Nat.sub_zero, rowS_n, List.take_length, List.take_zero]⟩ (fun i d st e hI => by
      obtain ⟨y3, y4, rfl⟩ := hI
      obtain ⟨hi, rfl⟩ := rangeD_get e
      rw [Nat.zero_add]
      obtain ⟨m, hm⟩ : ∃ m, hs.length - i = m + 1 := ⟨hs.length - i - 1, by omega⟩
      have m1 : m < hs.length := by omega
      have m2 : hs.length - (i + 1) = m := by omega
      have m3 : hs.length - i - 1 = m := by omega
      have et : hs.take (m + 1) = hs.take m ++ [((hs[m]).1, (hs[m]).2)] := List.take_succ_eq_append_getElem m1
      have wr := wds_rev (hs := hs) (i := i) (by omega)
      have hx : (hs[hs.length - i - 1]).1 = (hs[m]).1 := by simp only [m3]
      rw [hx] at wr
      have hn : ((wds hs).reverse.take i).length < 16777216 := by
        have := List.length_take_le i (wds hs).reverse
        omega
      refine ⟨[some (bnc w (rowS hs ss (m + 1)) (HL w (hs.take (m + 1)))), some (.int (t : Int)), some (.lst true ((wds hs).reverse.take i)), some (.int (0 + (i : Int))), y4], [some (bnc w (rowS hs ss m) (HL w (hs.take m))), some (.int (t : Int)), some (.lst true ((wds hs).reverse.take (i + 1))), some (.int (0 + (i : Int))), some (.str (hs[m]).1)], by rw [hm]; rfl, .inl ?_, some (.int (0 + (i : Int))), some (.str (hs[m]).1), by rw [m2]⟩
      unfold fb1_Bench_undo
      rw [rowS_lt m1, et, wr]
      exact zSeq (zAsg (pop_ok _) (tg_ok _ _ _ _)) (zExpr (xApp rfl rfl (xN rfl rfl) rfl hn rfl)))
  have rl : (rangeD 0 t).length = t := rangeD_len _ _
  rw [Nat.zero_add, rl] at L
  have c2 : f2 pGt [.int (t : Int), .int ((HL w hs).length : Nat)] = some (.val (.bl false)) := by
    rw [HL_len]
    exact congrArg (fun b => some (Out.val (D.bl b))) (decide_eq_false (by omega))
  have c1 : f2 pLt [.int (t : Int), .int 0] = some (.val (.bl false)) := congrArg (fun b => some (Out.val (D.bl b))) (decide_eq_false (by omega))
  have hb : b_Bench_undo [some (bnc w ss (HL w hs)), some (.int (t : Int)), none, none, none] = SR.ret (.lst true ((wds hs).reverse.take t)) [some (bnc w (rowS hs ss (hs.length - t)) (HL w (hs.take (hs.length - t)))), some (.int (t : Int)), none, y3, y4] := by
    unfold b_Bench_undo
    refine zSeq (st1 := [some (bnc w ss (HL w hs)), some (.int (t : Int)), none, none, none]) (zNo (cOrF (cNotF (cE (xCall (xACons (xN rfl rfl) xANil) ea))) (cE (xOsv rfl xC rfl c1 rfl))) zSkip) ?_
    refine zSeq (st1 := [some (bnc w ss (HL w hs)), some (.int (t : Int)), none, none, none]) (zNo (cE (xOsv rfl (fop_len _) rfl c2 rfl)) zSkip) ?_
    refine zSeq (st1 := [some (bnc w ss (HL w hs)), some (.int (t : Int)), some (.lst true []), none, none]) (zAsg (xLst xANil rfl) rfl) ?_
    refine zSeq (zFor (wR1 (n := t) (xN rfl rfl) rfl (by unfold small62; exact decide_eq_true (by omega))) L) (zRet (xMv rfl rfl))
  refine mDef_f (by show ¬ 2 = 1; decide) ?_
  exact fn_go (n := 2) (w := 5) (L := [0, 1]) (ds := [bnc w ss (HL w hs), .int (t : Int)]) rfl hb
theorem undo_dflt {w : Int} {ss : List Int} {hs : HS} (hl : hs.length ≤ 1200) (ht : 1 ≤ hs.length) : m_Bench_undo [bnc w ss (HL w hs)] = .ok (.lst true ((wds hs).reverse.take 1)) [some (bnc w (rowS hs ss (hs.length - 1)) (HL w (hs.take (hs.length - 1))))] := by
  have e := undo_ok (w := w) (ss := ss) (hs := hs) (t := 1) hl ht
  unfold m_Bench_undo at e
  have e2 : mDef 1 (.int 1) (fn 2 5 [0, 1] b_Bench_undo) [bnc w ss (HL w hs), .int 1] = fn 2 5 [0, 1] b_Bench_undo [bnc w ss (HL w hs), .int 1] := mDef_f (by show ¬ 2 = 1; decide) rfl
  have e3 : mDef 1 (.int 1) (fn 2 5 [0, 1] b_Bench_undo) [bnc w ss (HL w hs), .int 1] = _ := e
  rw [e2] at e3
  exact mDef_d (n := 1) (dd := .int 1) (m := fn 2 5 [0, 1] b_Bench_undo) (ds := [bnc w ss (HL w hs)]) rfl e3
/- m_Bench_copy -/
theorem copy_ok {w : Nat} {ss : List Int} {hs : List (Str × List Int)} (h1 : 1 ≤ w) (h2 : w ≤ 40) (hh : hs.length ≤ 100000) : m_Bench_copy [bnc w ss (HL w hs)] = .ok (bnc w ss (HL w hs)) [some (bnc w ss (HL w hs))] := by
  obtain ⟨p3, e3⟩ := bench_ok h1 h2
  have hl : oList [.lst true (HL w hs)] = some (.newL (HL w hs)) := by
    show newLc (HL w hs) = _
    unfold newLc
    rw [HL_cold, HL_len]
    exact if_pos (by simp; omega)
  have fo : eFOp 1 0 "own_history" oList [some (bnc w ss (HL w hs)), some (bnc w ss [])] = .ok (.lst true (HL w hs)) [some (bnc w ss (HL w hs)), some (bnc w ss [])] := by
    show (if 1 = 1 then (match List.lookup ("own_history" : Str) (flds w ss (HL w hs)) with
      | some d => (match oList [d] with
        | some o => Res.ok o.d [some (bnc w ss (HL w hs)), some (bnc w ss [])]
        | none => .fail)
      | none => .fail) else .fail) = _
    rw [if_pos rfl, lookH]
    dsimp only
    rw [hl]
    rfl
  have hb : b_Bench_copy [some (bnc w ss (HL w hs)), none] = SR.ret (bnc w ss (HL w hs)) [some (bnc w ss (HL w hs)), none] := by
    unfold b_Bench_copy
    refine zSeq (st1 := [some (bnc w ss (HL w hs)), some (bnc w [] [])]) (zAsg (xMake (xACons (xOv (xOs rfl oFld_n rfl) oFld_w rfl) xANil) e3) rfl) ?_
    refine zSeq (st1 := [some (bnc w ss (HL w hs)), some (bnc w ss [])]) ?_ (zSeq (st1 := [some (bnc w ss (HL w hs)), some (bnc w ss (HL w hs))]) ?_ (zRet (xMv rfl rfl)))
    · have v : eOp (oFld 1 "own_network") [.s 0] [some (bnc w ss (HL w hs)), some (bnc w [] [])] = .ok (net false w ss) [some (bnc w ss (HL w hs)), some (bnc w [] [])] := xOs rfl oFld_n rfl
      unfold sFldO
      rw [v]
      show (if 1 = 1 ∧ 2 < 1000 then SR.next ([some (bnc w ss (HL w hs)), some (bnc w [] [])].set 1 (some (.ins true 1 (putD "own_network" (net false w ss) (flds w [] []))))) else .fail) = _
      rw [if_pos ⟨rfl, by decide⟩, putN]
      rfl
    · unfold sFldO
      rw [fo]
      show (if 1 = 1 ∧ 2 < 1000 then SR.next ([some (bnc w ss (HL w hs)), some (bnc w ss [])].set 1 (some (.ins true 1 (putD "own_history" (.lst true (HL w hs)) (flds w ss []))))) else .fail) = _
      rw [if_pos ⟨rfl, by decide⟩, putH]
      rfl
  exact fn_go (n := 1) (w := 2) (L := [0]) (ds := [bnc w ss (HL w hs)]) rfl hb
end Lw70

namespace Lw70
open PySem (Str)
open DL Nw
local macro_rules | `(tactic| walk_at "g") => `(tactic| first | exact rfl | (with_reducible assumption))
local macro_rules | `(tactic| walk_at "s") => `(tactic| first | (with_reducible exact set_0) | ((with_reducible apply set_s); walk_at "s") | (with_reducible assumption) | exact rfl)
local macro_rules | `(tactic| walk_at "fl") => `(tactic| first | (with_reducible exact nums_frz _) | (with_reducible exact fzL_n) | ((with_reducible apply fzL_c); walk_at "f"; walk_at "fl") | (with_reducible assumption))
local macro_rules | `(tactic| walk_at "f") => `(tactic| first | (with_reducible exact fz_i) | (with_reducible exact fz_b) | (with_reducible exact fz_n) | (with_reducible exact fz_s) | (with_reducible exact fz_l) | (with_reducible exact fz_t) | ((with_reducible apply fz_lst); walk_at "fl") | ((with_reducible apply fz_tup); walk_at "fl") | (with_reducible assumption) | exact rfl)
local macro_rules | `(tactic| walk_at "k") => `(tactic| first | (with_reducible assumption) | (with_reducible exact rfl) | omega | (intro z; omega) | decide)
local macro_rules | `(tactic| walk_at "d") => `(tactic| first | (with_reducible exact od_val) | (with_reducible exact od_newL) | (with_reducible exact od_newT) | ((with_reducible apply od_eq); first | (with_reducible exact rfl) | ((with_reducible apply nbl_n); walk_at "k") | ((with_reducible apply bl_n); walk_at "k") | ((with_reducible apply bl_y); walk_at "k") | ((with_reducible apply nbl_y); walk_at "k")))
local macro_rules | `(tactic| walk_at "h") => `(tactic| first | (with_reducible assumption) | (simp only [List.nil_append, List.cons_append]; with_reducible assumption))
local macro_rules | `(tactic| walk_at "o") => `(tactic| first | (with_reducible assumption) | (with_reducible exact add_i) | (with_reducible exact sub_i) | (with_reducible exact lt_i) | (with_reducible exact le_i) | (with_reducible exact gt_i) | (with_reducible exact ge_i) | (with_reducible exact int_i) | (with_reducible exact int_b) | (with_reducible exact abs_i) | (with_reducible exact neg_i) | (with_reducible exact oLen_l) | (with_reducible exact oLen_scr _) | (with_reducible exact len_t) | (with_reducible exact tup_t) | (with_reducible exact oSorted_l) | (with_reducible exact oSum_nums _ _) | (with_reducible exact eq_of (pEq_int _ _)) | (with_reducible exact ne_of (pNe_int _ _)) | (with_reducible exact eq_of (pEq_lst _ _ _ _)) | (with_reducible exact ne_of (pNe_lst _ _ _ _)) | (with_reducible exact eq_of (pEq_tup _ _)) | (with_reducible exact ne_of (pNe_tup _ _)) | (with_reducible exact eq_of (pEq_bl _ _)) | (with_reducible exact ne_of (pNe_bl _ _)) | ((with_reducible apply lst_o); omega) | ((with_reducible apply lst_t); omega) | ((with_reducible apply tup_l); omega) | ((with_reducible apply oMod_v); omega) | ((with_reducible apply oDiv_v); omega; omega) | ((with_reducible apply oDiv_w); omega; omega) | ((with_reducible apply oMul_v); omega) | ((with_reducible apply oMul_l); omega) | ((with_reducible apply oIx_nums); omega; omega) | ((with_reducible apply oIx_tup); omega; omega))
local macro_rules | `(tactic| walk_at "a") => `(tactic| first | (with_reducible exact xANil) | ((with_reducible apply xACons); walk_at "e"; walk_at "a"))
local macro_rules | `(tactic| walk_at "it") => `(tactic| first | (with_reducible exact lst_it) | (with_reducible exact tup_it) | exact rfl)
local macro_rules | `(tactic| walk_at "cd") => `(tactic| first | (with_reducible exact nums_colds _) | (with_reducible exact colds_range _ _) | (with_reducible assumption) | exact rfl)
local macro_rules | `(tactic| walk_at "w") => `(tactic| first | ((with_reducible apply wE); walk_at "e"; walk_at "it"; walk_at "cd") | (with_reducible assumption))
local macro_rules | `(tactic| walk_at "e") => `(tactic| first | (with_reducible assumption) | (with_reducible exact xC) | ((with_reducible apply xN); walk_at "g"; exact rfl) | ((with_reducible apply xNf); walk_at "g"; exact rfl; walk_at "f"; walk_at "s") | ((with_reducible apply xMv); walk_at "g"; walk_at "s") | ((with_reducible apply xOvv); walk_at "e"; walk_at "e"; walk_at "o"; walk_at "d") | ((with_reducible apply xOvs); walk_at "e"; walk_at "g"; walk_at "o"; walk_at "d") | ((with_reducible apply xOsv); walk_at "g"; walk_at "e"; walk_at "g"; walk_at "o"; walk_at "d") | ((with_reducible apply xOss); walk_at "g"; walk_at "g"; walk_at "o"; walk_at "d") | ((with_reducible apply xOv); walk_at "e"; walk_at "o"; walk_at "d") | ((with_reducible apply xOs); walk_at "g"; walk_at "o"; walk_at "d") | ((with_reducible apply xCall); walk_at "a"; walk_at "h") | ((with_reducible apply xCallL); walk_at "a"; walk_at "g"; walk_at "a"; walk_at "g"; exact rfl; walk_at "h"; exact rfl; walk_at "s") | ((with_reducible apply xCallLc); walk_at "a"; walk_at "g"; walk_at "a"; walk_at "g"; exact rfl; walk_at "h") | ((with_reducible apply xMake); walk_at "a"; walk_at "h") | ((with_reducible apply xFz); walk_at "e"; walk_at "f") | ((with_reducible apply xMth); walk_at "e"; walk_at "m"; walk_at "a"; walk_at "h") | ((with_reducible apply xLst); walk_at "a"; exact rfl) | ((with_reducible apply xTup); walk_at "a"; exact rfl; walk_at "fl") | ((with_reducible apply xNot); walk_at "e") | ((with_reducible apply xAndB); walk_at "e"; walk_at "e") | ((with_reducible apply xOrB); walk_at "e"; walk_at "e") | ((with_reducible apply xIfT); walk_at "c"; walk_at "e") | ((with_reducible apply xIfF); walk_at "c"; walk_at "e") | ((with_reducible apply xApp); walk_at "g"; exact rfl; walk_at "e"; walk_at "g"; walk_at "n"; walk_at "s") | ((with_reducible apply xExt); walk_at "g"; exact rfl; walk_at "e"; walk_at "g"; walk_at "n"; walk_at "s") | ((with_reducible apply xExtT); walk_at "g"; exact rfl; walk_at "e"; walk_at "g"; walk_at "n"; walk_at "s") | ((with_reducible apply xMtS); walk_at "g"; exact rfl; walk_at "g"; walk_at "o"; walk_at "d") | ((with_reducible apply xEqI); walk_at "e"; walk_at "e"; exact rfl; exact rfl; walk_at "h"; walk_at "i") | ((with_reducible apply xLenI); walk_at "e"; exact rfl; walk_at "h"; walk_at "n"))
local macro_rules | `(tactic| walk_at "i") => `(tactic| first | exact rfl | (show D.bl (decide _) = _; apply bl_y; walk_at "k") | (show D.bl (!decide _) = _; apply nbl_n; walk_at "k"))
local macro_rules | `(tactic| walk_at "n") => `(tactic| first | (simp only [nums_len, List.length_append, List.length_cons, List.length_nil]; omega) | omega | exact rfl)
local macro_rules | `(tactic| walk_at "c") => `(tactic| first | ((with_reducible apply cE); walk_at "e") | ((with_reducible apply cNotF); walk_at "c") | ((with_reducible apply cNotT); walk_at "c") | ((with_reducible apply cOrT); walk_at "c") | ((with_reducible apply cAndF); walk_at "c") | ((with_reducible apply cOrF); walk_at "c"; walk_at "c") | ((with_reducible apply cAndT); walk_at "c"; walk_at "c"))
local macro_rules | `(tactic| walk_at "t") => `(tactic| first | ((with_reducible apply gN_r); walk_at "s") | ((with_reducible apply gIx_r); exact rfl; walk_at "g"; walk_at "e"; walk_at "g"; walk_at "j"; walk_at "s"))
local macro_rules | `(tactic| walk_at "j") => `(tactic| first | exact rfl | (simp only [nums_len]; apply ixN_nat <;> omega))
local macro_rules | `(tactic| walk_at "z") => `(tactic| first | ((with_reducible apply zAsg); walk_at "e"; walk_at "t") | ((with_reducible apply zExpr); walk_at "e") | ((with_reducible apply zRet); walk_at "e") | ((with_reducible apply zPar); walk_at "a"; walk_at "s"; walk_at "s") | ((with_reducible apply zAug); walk_at "g"; exact rfl; walk_at "e"; walk_at "o"; walk_at "s") | (with_reducible exact zSkip) | ((with_reducible apply zNo); walk_at "c"; walk_at "z") | ((with_reducible apply zYes); walk_at "c"; walk_at "z") | ((with_reducible apply zSeq); walk_at "z"; walk_at "z") | ((with_reducible apply zSeqR); walk_at "z"))
local macro_rules | `(tactic| walk_at "m") => `(tactic| first | (with_reducible assumption) | exact rfl)

local macro_rules | `(tactic| walk_at "f") => `(tactic| with_reducible exact frz_net)
local macro_rules | `(tactic| walk_at "o") => `(tactic| first | (with_reducible exact oFld_w) | (with_reducible exact oFld_s) | (with_reducible exact repr_bl _))
theorem ins_undo {w : Int} {ss : List Int} {h : List D} : insOf 1 "undo" (bnc w ss h) = true := ins_b (by decide +kernel) (by decide +kernel)
theorem ins_add {w : Int} {ss : List Int} {h : List D} : insOf 1 "add" (bnc w ss h) = true := ins_b (by decide +kernel) (by decide +kernel)
theorem ins_place {w : Int} {ss : List Int} {h : List D} : insOf 1 "place" (bnc w ss h) = true := ins_b (by decide +kernel) (by decide +kernel)
theorem ins_copy {w : Int} {ss : List Int} {h : List D} : insOf 1 "copy" (bnc w ss h) = true := ins_b (by decide +kernel) (by decide +kernel)
--@@ beq
/-! ### benches compared -/
theorem nums_flat (l : List Int) : (nums l).all flat = true := List.all_eq_true.mpr fun d hd => by
  unfold nums at hd
  obtain ⟨x, _, rfl⟩ := List.mem_map.mp hd
  rfl
theorem base_net {w : Int} {s t : List Int} : baseB 0 m_Network___eq__ (net false w s) (net false w t) = some (decide (s = t)) := by
  obtain ⟨p1, e1⟩ := eq_ok w w s t
  obtain ⟨p2, e2⟩ := eq_ok w w s s
  rw [decide_eq_true ⟨rfl, rfl⟩] at e2
  have d1 : decide (w = w ∧ s = t) = decide (s = t) := decide_eq_decide.mpr ⟨fun h => h.2, fun h => ⟨rfl, h⟩⟩
  rw [d1] at e1
  have n1 := nums_flat s
  have n2 := nums_flat t
  unfold net at e1 e2 ⊢
  unfold baseB
  dsimp only
  have pl : ∀ l : List Int, (nums l).all flat = true → plainI [("own_width", D.int w), ("own_steps", .tup (nums l))] = true := fun l h => by
    unfold plainI
    rw [List.all_cons, List.all_cons, List.all_nil]
    show (true && ((nums l).all flat && true)) = true
    rw [h]
    rfl
  rw [pl s n1, pl t n2, if_pos (show (decide (0 = 0) && decide (0 = 0) && true && true) = true from rfl), e1, e2]
theorem base_str (x y : Str) : baseB 0 m_Network___eq__ (.str x) (.str y) = some (decide (x = y)) := by
  have : eqF (.str x) (.str y) = decide (x = y) := by
    show (x == y) = decide (x = y)
    by_cases h : x = y
    · subst h
      rw [decide_eq_true rfl]
      exact beq_self_eq_true x
    · rw [decide_eq_false h]
      exact beq_eq_false_iff_ne.mpr h
  show (if (true && true) = true then some (eqF (.str x) (.str y)) else none) = _
  rw [this]
  rfl
theorem it_entry {w : Int} (p q : Str × List Int) : itB 0 m_Network___eq__ 1 (.tup [.str p.1, net false w p.2]) (.tup [.str q.1, net false w q.2]) = some (decide (p = q)) := by
  have e : zipL (itB 0 m_Network___eq__ 0) [.str p.1, net false w p.2] [.str q.1, net false w q.2] = some [decide (p.1 = q.1), decide (p.2 = q.2)] := by
    have a : itB 0 m_Network___eq__ 0 (.str p.1) (.str q.1) = some (decide (p.1 = q.1)) := base_str _ _
    have b : itB 0 m_Network___eq__ 0 (net false w p.2) (net false w q.2) = some (decide (p.2 = q.2)) := base_net
    rw [zipL, a, zipL, b, zipL]
  show ((zipL (itB 0 m_Network___eq__ 0) [.str p.1, net false w p.2] [.str q.1, net false w q.2]).map fun bs => bs.all id) = _
  rw [e]
  obtain ⟨p1, p2⟩ := p
  obtain ⟨q1, q2⟩ := q
  by_cases h1 : p1 = q1 <;> by_cases h2 : p2 = q2 <;> simp [h1, h2]
theorem zip_HL {w : Int} : ∀ {hs hs' : List (Str × List Int)}, hs.length = hs'.length → ∃ bs, zipL (itB 0 m_Network___eq__ 1) (HL w hs) (HL w hs') = some bs ∧ bs.all id = decide (hs = hs')
  | [], [], _ => ⟨[], rfl, by simp⟩
  | [], _ :: _, h => by cases h
  | _ :: _, [], h => by cases h
  | p :: hs, q :: hs', h => by
    obtain ⟨bs, e1, e2⟩ := zip_HL (w := w) (hs := hs) (hs' := hs') (by simpa using h)
    have e := it_entry (w := w) p q
    refine ⟨decide (p = q) :: bs, ?_, ?_⟩
    · show zipL _ (.tup [.str p.1, net false w p.2] :: HL w hs) (.tup [.str q.1, net false w q.2] :: HL w hs') = _
      rw [zipL, e, e1]
    · rw [List.all_cons, e2]
      by_cases h1 : p = q <;> by_cases h2 : hs = hs' <;> simp [h1, h2]
theorem beq_ok {w : Nat} {ss ss' : List Int} {hs hs' : List (Str × List Int)} : ∃ ps, m_Bench___eq__ [bnF w ss (HL w hs), bnF w ss' (HL w hs')] = .ok (.bl (decide (ss = ss' ∧ hs = hs'))) ps := by
  obtain ⟨p4, e4⟩ := eq_ok w w ss ss'
  have isi : oIsiC 1 isi_Bench [bnF w ss' (HL w hs'), .cls 1] = some (.val (.bl true)) := rfl
  have fH : ∀ z : List (Str × List Int), frz (.lst false (HL w z)) = .lst false (HL w z) := fun z => fz_lst (HL_frz w z)
  refine ⟨_, fn_go rfl (?_ : b_Bench___eq__ [some (bnF w ss (HL w hs)), some (bnF w ss' (HL w hs'))] = SR.ret (.bl (decide (ss = ss' ∧ hs = hs'))) [some (bnF w ss (HL w hs)), some (bnF w ss' (HL w hs'))])⟩
  unfold b_Bench___eq__
  refine zSeq (zNo (cNotF (cE (xOsv rfl xC rfl isi rfl))) zSkip) (zRet ?_)
  by_cases h1 : ss = ss'
  · have d1 : decide ((w : Int) = w ∧ ss = ss') = true := decide_eq_true ⟨rfl, h1⟩
    rw [d1] at e4
    have d2 : decide (ss = ss' ∧ hs = hs') = decide (hs = hs') := decide_eq_decide.mpr ⟨fun h => h.2, fun h => ⟨h1, h⟩⟩
    rw [d2]
    refine xAndT (xEqI (p := true) (xFz (xOs rfl oFld_nF rfl) frz_net) (xFz (xOs rfl oFld_nF rfl) frz_net) rfl rfl e4 rfl) ?_
    by_cases hl : hs.length = hs'.length
    · obtain ⟨bs, z1, z2⟩ := zip_HL (w := (w : Int)) hl
      exact xEqD (xFz (xOs rfl oFld_hF rfl) (fH hs)) (xFz (xOs rfl oFld_hF rfl) (fH hs')) (by rw [HL_len, HL_len]; exact hl) z1 (by rw [z2]; rfl)
    · rw [decide_eq_false fun e => hl (by rw [e])]
      exact xEqDL (xFz (xOs rfl oFld_hF rfl) (fH hs)) (xFz (xOs rfl oFld_hF rfl) (fH hs')) (by rw [HL_len, HL_len]; exact hl)
  · have d1 : decide ((w : Int) = w ∧ ss = ss') = false := decide_eq_false fun h => h1 h.2
    rw [d1] at e4
    rw [decide_eq_false fun h => h1 h.1]
    exact xAndF (xEqI (p := false) (xFz (xOs rfl oFld_nF rfl) frz_net) (xFz (xOs rfl oFld_nF rfl) frz_net) rfl rfl e4 rfl)
theorem xnR {st : Sl} {i : Nat} {w : Int} {ss : List Int} {hs : List (Str × List Int)} (g : getS st i = some (bnc w ss (HL w hs))) : getS (frzS st) i = some (bnF w ss (HL w hs)) := by
  rw [getS_frzS, g]
  show some (frz (bnc w ss (HL w hs))) = _
  rw [frz_b]
theorem eqR {st : Sl} {i j : Nat} (neg : Bool) {w : Nat} {ss ss' : List Int} {hs hs' : List (Str × List Int)} (g1 : getS st i = some (bnc w ss (HL w hs))) (g2 : getS st j = some (bnc w ss' (HL w hs'))) :
    eRo (eEqI neg 1 m_Bench___eq__ (.v (eFz (eN i))) (.v (eFz (eN j)))) st = .ok (.bl (if neg then !decide (ss = ss' ∧ hs = hs') else decide (ss = ss' ∧ hs = hs'))) st := by
  obtain ⟨p, e⟩ := beq_ok (w := w) (ss := ss) (ss' := ss') (hs := hs) (hs' := hs')
  exact xRo (xEqI (xFz (xN (xnR g1) rfl) frz_F) (xFz (xN (xnR g2) rfl) frz_F) rfl rfl e rfl) rfl
--@@ end
theorem unlike_ok {w : Nat} {ss ss' : List Int} {hs hs' : List (Str × List Int)} (h : ¬ (ss = ss' ∧ hs = hs')) : ∃ ps, m__law_unlike [bnF w ss (HL w hs), bnF w ss' (HL w hs')] = .ok (.bl true) ps := by
  obtain ⟨p1, e1⟩ := beq_ok (w := w) (ss := ss) (ss' := ss') (hs := hs) (hs' := hs')
  obtain ⟨p2, e2⟩ := beq_ok (w := w) (ss := ss') (ss' := ss) (hs := hs') (hs' := hs)
  rw [decide_eq_false h] at e1
  rw [decide_eq_false fun z => h ⟨z.1.symm, z.2.symm⟩] at e2
  refine ⟨_, fn_go rfl (?_ : b__law_unlike [some (bnF w ss (HL w hs)), some (bnF w ss' (HL w hs'))] = SR.ret (.bl true) [some (bnF w ss (HL w hs)), some (bnF w ss' (HL w hs'))])⟩
  unfold b__law_unlike
  refine zRet (xAndT (xEqI (p := false) (xFz (xN rfl rfl) frz_F) (xFz (xN rfl rfl) frz_F) rfl rfl e1 rfl) (xAndT (xNot (p := false) (xEqI (p := false) (xFz (xN rfl rfl) frz_F) (xFz (xN rfl rfl) frz_F) rfl rfl e1 rfl)) ?_))
  exact xEqI (p := false) (xFz (xN rfl rfl) frz_F) (xFz (xN rfl rfl) frz_F) rfl rfl e2 rfl
theorem unR {st : Sl} {i j : Nat} {w : Nat} {ss ss' : List Int} {hs hs' : List (Str × List Int)} (g1 : getS st i = some (bnc w ss (HL w hs))) (g2 : getS st j = some (bnc w ss' (HL w hs'))) (h : ¬ (ss = ss' ∧ hs = hs')) :
    eRo (eCall m__law_unlike (aCons (eN i) (aCons (eN j) aNil))) st = .ok (.bl true) st := by
  obtain ⟨p, e⟩ := unlike_ok (w := w) h
  exact xRo (xCall (xACons (xN (xnR g1) rfl) (xACons (xN (xnR g2) rfl) xANil)) e) rfl
theorem undo_one {w : Int} {ss T : List Int} {hs : List (Str × List Int)} {x : Str} (hl : hs.length ≤ 1000) : m_Bench_undo [bnc w T (HL w (hs ++ [(x, ss)]))] = .ok (.lst true [.str x]) [some (bnc w ss (HL w hs))] := by
  have e := undo_dflt (w := w) (ss := T) (hs := hs ++ [(x, ss)]) (by rw [List.length_append, List.length_singleton]; omega) (by rw [List.length_append, List.length_singleton]; omega)
  have n : (hs ++ [(x, ss)]).length - 1 = hs.length := by rw [List.length_append, List.length_singleton]; omega
  have lt : hs.length < (hs ++ [(x, ss)]).length := by rw [List.length_append, List.length_singleton]; omega
  have r : rowS (hs ++ [(x, ss)]) T hs.length = ss := by
    rw [rowS_lt lt]
    simp
  have t : (hs ++ [(x, ss)]).take hs.length = hs := List.take_left
  have wv : (wds (hs ++ [(x, ss)])).reverse.take 1 = [.str x] := by
    rw [← wds_app, List.reverse_append]
    rfl
  rw [n, r, t, wv] at e
  exact e
/-! ### the bench made -/
inductive Pa (w : Nat) : List Int → List (Str × List Int) → List D → List Int → List (Str × List Int) → Prop
  | nil (ss : List Int) (hs : List (Str × List Int)) : Pa w ss hs [] ss hs
  | cons {ss T U : List Int} {hs hs' : List (Str × List Int)} {v : D} {x : Str} {r : Int} {vs : List D} (h : Ch w ss v x T r) (p : Pa w T (hs ++ [(x, ss)]) vs U hs') : Pa w ss hs (v :: vs) U hs'
theorem Pa.snoc {w : Nat} {ss U T : List Int} {hs hs' : List (Str × List Int)} {vs : List D} {v : D} {x : Str} {r : Int} (p : Pa w ss hs vs U hs') (h : Ch w U v x T r) : Pa w ss hs (vs ++ [v]) T (hs' ++ [(x, U)]) := by
  induction p with
  | nil ss hs => exact .cons h (.nil _ _)
  | cons h0 p ih => exact .cons h0 (ih h)
theorem Ch.cold {w : Nat} {ss T : List Int} {v : D} {x : Str} {r : Int} (h : Ch w ss v x T r) : DL.cold v = true := by cases h <;> rfl
theorem Ch.frz {w : Nat} {ss T : List Int} {v : D} {x : Str} {r : Int} (h : Ch w ss v x T r) : frz v = v := by
  cases h with
  | drop i hi => exact fz_tup (fzL_c fz_s (fzL_c fz_i fzL_n))
  | place i s hi h1 h2 => exact fz_tup (fzL_c fz_s (fzL_c fz_i (fzL_c fz_i fzL_n)))
  | add tt ht hl => exact fz_tup (fzL_c fz_s (fzL_c fz_l fzL_n))
theorem Pa.all {w : Nat} {ss U : List Int} {hs hs' : List (Str × List Int)} {vs : List D} (p : Pa w ss hs vs U hs') : (∀ v ∈ vs, DL.cold v = true ∧ frz v = v) ∧ U.length ≤ ss.length + 2 * vs.length ∧ hs'.length = hs.length + vs.length ∧ (okS w ss → okS w U) := by
  induction p with
  | nil => exact ⟨(fun v hv => by cases hv), by simp, by simp, id⟩
  | cons h p ih =>
    obtain ⟨a, b, c, d⟩ := ih
    have l := h.lenT
    refine ⟨fun v hv => ?_, by rw [List.length_cons]; omega, by rw [c, List.length_append, List.length_cons, List.length_cons]; show _ + (0 + 1) + _ = _; omega, fun hS => d (h.okT hS)⟩
    rcases List.mem_cons.mp hv with rfl | hv
    · exact ⟨h.cold, h.frz⟩
    · exact a v hv
theorem vs_frz : ∀ {vs : List D}, (∀ v ∈ vs, frz v = v) → frzL vs = vs
  | [], _ => by rw [frzL]
  | v :: vs, h => by rw [frzL, vs_frz fun x hx => h x (List.mem_cons_of_mem _ hx), h v List.mem_cons_self]
theorem mades {w : Nat} (h1 : 1 ≤ w) (h2 : w ≤ 40) (x0 x1 : Option D) : ∀ {vs : List D} {ss U : List Int} {hs hs' : List (Str × List Int)}, Pa w ss hs vs U hs' → okS w ss → ss.length + 2 * vs.length ≤ 900 → hs.length + vs.length ≤ 90000 → ∀ y3, ∃ z3, forD fg1__law_made fb1__law_made vs [x0, x1, some (bnc w ss (HL w hs)), y3] = .next [x0, x1, some (bnc w U (HL w hs')), z3]
  | _, _, _, _, _, .nil ss hs, _, _, _, y3 => ⟨y3, rfl⟩
  | v :: vs, ss, U, hs, hs', .cons (T := T) (x := x) c r, hS, hl, hh, y3 => by
    rw [List.length_cons] at hl hh
    have lT := c.lenT
    obtain ⟨z, e⟩ := perf_ok (hist := HL w hs) c h1 h2 hS (by omega) (by rw [HL_len]; omega)
    rw [HL_app] at e
    obtain ⟨z3, q⟩ := mades h1 h2 x0 x1 r (c.okT hS) (by omega) (by rw [List.length_append, List.length_singleton]; omega) (some v)
    refine ⟨z3, forD_cons (st1 := [x0, x1, some (bnc w ss (HL w hs)), some v]) (st2 := [x0, x1, some (bnc w T (HL w (hs ++ [(x, ss)]))), some v]) rfl ?_ q⟩
    unfold fb1__law_made
    exact zExpr (xCallL xANil rfl (xACons (xN rfl c.hot) xANil) rfl rfl e rfl rfl)
theorem made_ok {w : Nat} {vs : List D} {U : List Int} {hs' : List (Str × List Int)} (h1 : 1 ≤ w) (h2 : w ≤ 40) (p : Pa w [] [] vs U hs') (hl : vs.length ≤ 100) : ∃ ps, m__law_made [.int (w : Int), .lst false vs] = .ok (bnc w U (HL w hs')) ps := by
  obtain ⟨p3, e3⟩ := bench_ok h1 h2
  have hc : colds vs = true := List.all_eq_true.mpr fun v hv => (p.all.1 v hv).1
  obtain ⟨z3, q⟩ := mades h1 h2 (some (.int (w : Int))) (some (.lst false vs)) p (fun s hs => by cases hs) (by show 0 + _ ≤ _; omega) (by show 0 + _ ≤ _; omega) none
  refine ⟨_, fn_go rfl (?_ : b__law_made [some (.int (w : Int)), some (.lst false vs), none, none] = SR.ret (bnc w U (HL w hs')) [some (.int (w : Int)), some (.lst false vs), none, z3])⟩
  unfold b__law_made
  exact zSeq (zAsg (xMake (xACons (xN rfl rfl) xANil) e3) rfl) (zSeq (zFor (wE (xN rfl rfl) lst_it hc) q) (zRet (xMv rfl rfl)))
theorem n5' {x0 x1 x2 x3 x4 x6 x7 x8 x9 x10 x11 x12 : Option D} {ss : List Int} (o : Bool) : eN 5 [x0, x1, x2, x3, x4, some (.lst o (nums ss)), x6, x7, x8, x9, x10, x11, x12] = .ok (.lst false (nums ss)) [x0, x1, x2, x3, x4, some (.lst false (nums ss)), x6, x7, x8, x9, x10, x11, x12] := by
  cases o
  · exact xN rfl rfl
  · exact xNf rfl rfl fz_l rfl
theorem n4' {x0 x1 x2 x3 x5 x6 x7 x8 x9 x10 x11 x12 : Option D} {vs : List D} (o : Bool) (h : frzL vs = vs) : eN 4 [x0, x1, x2, x3, some (.lst o vs), x5, x6, x7, x8, x9, x10, x11, x12] = .ok (.lst false vs) [x0, x1, x2, x3, some (.lst false vs), x5, x6, x7, x8, x9, x10, x11, x12] := by
  cases o
  · exact xN rfl rfl
  · exact xNf rfl rfl (fz_lst h) rfl
/-! ### a case -/
theorem other_ok : m__law_other_index_holds [] = .ok (.bl true) [] := by kernel_rfl
theorem case_ok {w : Nat} {vs : List D} {ss : List Int} {hs : List (Str × List Int)} (h1 : 2 ≤ w) (h2 : w ≤ 40) (p : Pa w [] [] vs ss hs) (hl : vs.length ≤ 20) (o4 : Bool) (x0 x1 x2 x5 x6 x7 x8 x9 x10 x11 x12 : Option D) :
    ∃ z8 z9 z10 z11 z12, (sSeq st8_law (sSeq st9_law (sSeq st11_law (sSeq st12_law (sSeq st13_law (sSeq st15_law (sSeq st17_law (sSeq st18_law (sSeq st19_law (sSeq st21_law (sSeq st22_law (sSeq st23_law (sSeq st24_law (sSeq st25_law (sSeq st27_law (sSeq st28_law (sSeq st29_law st31_law))))))))))))))))) [x0, x1, x2, some (.int (w : Int)), some (.lst o4 vs), x5, x6, x7, x8, x9, x10, x11, x12] = .next [x0, x1, x2, some (.int (w : Int)), some (.lst false vs), x5, x6, x7, z8, z9, z10, z11, z12] := by
  obtain ⟨pf, pl, pn, po⟩ := p.all
  have hS : okS w ss := po fun s hs => by cases hs
  have lS : ss.length ≤ 40 := by simpa using (Nat.le_trans pl (by simp; omega))
  have lH : hs.length ≤ 20 := by rw [pn]; simpa using hl
  have vf : frzL vs = vs := vs_frz fun v hv => (pf v hv).2
  obtain ⟨pm, em⟩ := made_ok (by omega) h2 p (by omega)
  have o1 : okS w [1] := fun s hs => by rw [List.mem_singleton.mp hs]; omega
  have o11 : okS w [1, 1] := fun s hs => by
    rcases List.mem_cons.mp hs with rfl | hs
    · omega
    · rw [List.mem_singleton.mp hs]; omega
  have o0 : okS w [] := fun s hs => by cases hs
  have ec := copy_ok (w := w) (ss := ss) (hs := hs) (by omega) h2 (by omega)
  have es := state_ok (w := (w : Int)) (ss := ss) (hs := hs) (by omega) (by omega) (by omega) (by omega)
  -- the additions
  obtain ⟨q1, a1⟩ := add_ok (w := w) (ss := ss) (tt := [1]) (hist := HL w hs) (by omega) h2 hS o1 (by omega) (by decide) (by rw [HL_len]; omega)
  obtain ⟨q2, a11⟩ := add_ok (w := w) (ss := ss) (tt := [1, 1]) (hist := HL w hs) (by omega) h2 hS o11 (by omega) (by decide) (by rw [HL_len]; omega)
  obtain ⟨q0, a0⟩ := add_ok (w := w) (ss := ss) (tt := []) (hist := HL w hs) (by omega) h2 hS o0 (by omega) (by decide) (by rw [HL_len]; omega)
  rw [HL_app] at a1 a11 a0
  rw [List.append_nil] at a0
  have a1 : m_Bench_add [bnc w ss (HL w hs), .int 1] = .ok (.int ((ss.length + 1 : Nat) : Int)) (some (bnc w (ss ++ [1]) (HL w (hs ++ [(("add" : Str), ss)]))) :: q1) := a1
  have a11 : m_Bench_add [bnc w ss (HL w hs), .int 1, .int 1] = .ok (.int ((ss.length + 2 : Nat) : Int)) (some (bnc w (ss ++ [1, 1]) (HL w (hs ++ [(("add" : Str), ss)]))) :: q2) := a11
  have a0 : m_Bench_add [bnc w ss (HL w hs)] = .ok (.int ((ss.length + 0 : Nat) : Int)) (some (bnc w ss (HL w (hs ++ [(("add" : Str), ss)]))) :: q0) := a0
  have hS1 : okS w (ss ++ [1]) := fun s hs => (List.mem_append.mp hs).elim (hS s) (o1 s)
  obtain ⟨z1, z2, p2⟩ := place_ok (w := w) (ss := ss ++ [1]) (hist := HL w (hs ++ [(("add" : Str), ss)])) (i := 0) (s := 1) (by omega) h2 hS1 (by rw [List.length_append, List.length_singleton]; omega) (by rw [HL_len, List.length_append, List.length_singleton]; omega) (Nat.zero_le _) (by omega) (by omega)
  rw [HL_app] at p2
  obtain ⟨z3, z4, p1⟩ := place_ok (w := w) (ss := ss) (hist := HL w hs) (i := 0) (s := 1) (by omega) h2 hS (by omega) (by rw [HL_len]; omega) (Nat.zero_le _) (by omega) (by omega)
  rw [HL_app] at p1
  have hS2 : okS w (putAt 0 1 ss) := putAt_ok hS (by omega) (by omega)
  have lP := putAt_len (ss := ss) (i := 0) (s := 1)
  obtain ⟨q3, a3⟩ := add_ok (w := w) (ss := putAt 0 1 ss) (tt := [1]) (hist := HL w (hs ++ [(("place" : Str), ss)])) (by omega) h2 hS2 o1 (by omega) (by decide) (by rw [HL_len, List.length_append, List.length_singleton]; omega)
  rw [HL_app] at a3
  have a3 : m_Bench_add [bnc w (putAt 0 1 ss) (HL w (hs ++ [(("place" : Str), ss)])), .int 1] = .ok (.int (((putAt 0 1 ss).length + 1 : Nat) : Int)) (some (bnc w (putAt 0 1 ss ++ [1]) (HL w (hs ++ [(("place" : Str), ss)] ++ [(("add" : Str), putAt 0 1 ss)]))) :: q3) := a3
  have u1 := undo_one (w := (w : Int)) (ss := ss) (T := ss ++ [1]) (hs := hs) (x := "add") (by omega)
  have u11 := undo_one (w := (w : Int)) (ss := ss) (T := ss ++ [1, 1]) (hs := hs) (x := "add") (by omega)
  have u0 := undo_one (w := (w : Int)) (ss := ss) (T := ss) (hs := hs) (x := "add") (by omega)
  have same : D.bl (decide (ss = ss ∧ hs = hs)) = .bl true := bl_y ⟨rfl, rfl⟩
  have sameN : D.bl (!decide (ss = ss ∧ hs = hs)) = .bl false := nbl_n ⟨rfl, rfl⟩
  have hne : hs ≠ hs ++ [(("add" : Str), ss)] := fun e => by
    have := congrArg List.length e
    rw [List.length_append, List.length_singleton] at this
    omega
  have sne1 : ss ≠ ss ++ [1] := fun e => by
    have := congrArg List.length e
    rw [List.length_append, List.length_singleton] at this
    omega
  have sne2 : ss ++ [1, 1] ≠ ss ++ [1] := fun e => by
    have := congrArg List.length e
    rw [List.length_append, List.length_append] at this
    simp at this
  have sne3 : ss ++ [1, 1] ≠ ss := fun e => by
    have := congrArg List.length e
    rw [List.length_append] at this
    simp at this
  have add1 : frz (.lst true [.str "add"]) = .lst false [.str "add"] := fz_lst (fzL_c fz_s fzL_n)
  have addq : itsOk 0 m_Network___eq__ [.str "add"] [.str "add"] = true := by kernel_rfl
  have f1 : frz (.lst true [net false w ss, .lst true (wds hs), .int (ss.length : Nat), .str (bT w (ss.length : Nat))]) = .lst false [net false w ss, .lst false (wds hs), .int (ss.length : Nat), .str (bT w (ss.length : Nat))] :=
    fz_lst (fzL_c frz_net (fzL_c (fz_lst (wds_frz hs)) (fzL_c fz_i (fzL_c fz_s fzL_n))))
  have f2 : frz (.lst false [net false w ss, .lst false (wds hs), .int (ss.length : Nat), .str (bT w (ss.length : Nat))]) = .lst false [net false w ss, .lst false (wds hs), .int (ss.length : Nat), .str (bT w (ss.length : Nat))] :=
    fz_lst (fzL_c frz_net (fzL_c (fz_lst (wds_frz hs)) (fzL_c fz_i (fzL_c fz_s fzL_n))))
  generalize hST : D.lst true [net false w ss, .lst true (wds hs), .int (ss.length : Nat), .str (bT w (ss.length : Nat))] = STt at es f1
  obtain ⟨STl, hSL, sq⟩ : ∃ l, D.lst false [net false w ss, .lst false (wds hs), .int (ss.length : Nat), .str (bT w (ss.length : Nat))] = .lst false l ∧ itsOk 0 m_Network___eq__ l l = true := ⟨_, rfl, states_eq⟩
  rw [hSL] at f1 f2
  have hST2 : hot STt = true := by rw [← hST]; rfl
  -- the text of a bench, the network: other kinds
  obtain ⟨pr, er⟩ := brepr_ok (w := (w : Int)) (ss := ss) (hist := HL w hs) (by omega) (by omega) (by omega)
  have no1 : ∃ ps, m_Bench___eq__ [bnF w ss (HL w hs), net false w ss] = .ok (.bl false) ps := by
    have isi : oIsiC 1 isi_Bench [net false w ss, .cls 1] = some (.val (.bl false)) := rfl
    refine ⟨_, fn_go rfl (?_ : b_Bench___eq__ [some (bnF w ss (HL w hs)), some (net false w ss)] = SR.ret (.bl false) [some (bnF w ss (HL w hs)), some (net false w ss)])⟩
    unfold b_Bench___eq__
    exact zSeqR (zYes (cNotT (cE (xOsv rfl xC rfl isi rfl))) (zRet xC))
  have no2 : ∀ t : Str, ∃ ps, m_Bench___eq__ [bnF w ss (HL w hs), .str t] = .ok (.bl false) ps := fun t => by
    have isi : oIsiC 1 isi_Bench [.str t, .cls 1] = some (.val (.bl false)) := rfl
    refine ⟨_, fn_go rfl (?_ : b_Bench___eq__ [some (bnF w ss (HL w hs)), some (.str t)] = SR.ret (.bl false) [some (bnF w ss (HL w hs)), some (.str t)])⟩
    unfold b_Bench___eq__
    exact zSeqR (zYes (cNotT (cE (xOsv rfl xC rfl isi rfl))) (zRet xC))
  obtain ⟨pn1, en1⟩ := no1
  obtain ⟨pn2, en2⟩ := no2 (bT w (ss.length : Nat))
  have neq : okS w ss := hS
  obtain ⟨pe, ee⟩ := eq_ok (w : Int) w (putAt 0 1 ss ++ [1]) (putAt 0 1 (ss ++ [1]))
  rw [decide_eq_true ⟨rfl, rfl⟩] at ee
  refine ⟨some (bnc w (putAt 0 1 ss ++ [1]) (HL w (hs ++ [(("place" : Str), ss)] ++ [(("add" : Str), putAt 0 1 ss)]))), some (bnc w (putAt 0 1 (ss ++ [1])) (HL w (hs ++ [(("add" : Str), ss)] ++ [(("place" : Str), ss ++ [1])]))), some (bnc w ss (HL w hs)), some (.lst false STl), some (bnc w ss (HL w hs)), ?_⟩
  refine zSeq (st1 := [x0, x1, x2, some (.int (w : Int)), some (.lst false vs), x5, x6, x7, some (bnc w ss (HL w hs)), some (bnc w ss (HL w hs)), x10, x11, x12]) ?_ ?_
  · unfold st8_law
    exact zPar (xACons (xCall (xACons (xN rfl rfl) (xACons (n4' o4 vf) xANil)) em) (xACons (xCall (xACons (xN rfl rfl) (xACons (n4' false vf) xANil)) em) xANil)) rfl rfl
  refine zSeq (st1 := [x0, x1, x2, some (.int (w : Int)), some (.lst false vs), x5, x6, x7, some (bnc w ss (HL w hs)), some (bnc w ss (HL w hs)), some (bnc w ss (HL w hs)), x11, x12]) ?_ ?_
  · unfold st9_law
    exact zAsg (xMthL rfl ins_copy (xCallL xANil rfl xANil rfl rfl ec rfl rfl)) rfl
  refine zSeq (st1 := [x0, x1, x2, some (.int (w : Int)), some (.lst false vs), x5, x6, x7, some (bnc w ss (HL w hs)), some (bnc w ss (HL w hs)), some (bnc w ss (HL w hs)), x11, x12]) ?_ ?_
  · unfold st11_law
    have e1 := eqR (st := [x0, x1, x2, some (.int (w : Int)), some (.lst false vs), x5, x6, x7, some (bnc w ss (HL w hs)), some (bnc w ss (HL w hs)), some (bnc w ss (HL w hs)), x11, x12]) (i := 8) (j := 9) false rfl rfl
    have e2 := eqR (st := [x0, x1, x2, some (.int (w : Int)), some (.lst false vs), x5, x6, x7, some (bnc w ss (HL w hs)), some (bnc w ss (HL w hs)), some (bnc w ss (HL w hs)), x11, x12]) (i := 8) (j := 10) true rfl rfl
    have g8 := xnR (st := [x0, x1, x2, some (.int (w : Int)), some (.lst false vs), x5, x6, x7, some (bnc w ss (HL w hs)), some (bnc w ss (HL w hs)), some (bnc w ss (HL w hs)), x11, x12]) (i := 8) rfl
    rw [show (if false = true then !decide (ss = ss ∧ hs = hs) else decide (ss = ss ∧ hs = hs)) = true from decide_eq_true ⟨rfl, rfl⟩] at e1
    rw [show (if true = true then !decide (ss = ss ∧ hs = hs) else decide (ss = ss ∧ hs = hs)) = false from by rw [decide_eq_true ⟨rfl, rfl⟩]; rfl] at e2
    exact zNo (cOrF (cNotF (cE e1)) (cOrF (cE e2) (cOrF (cE (xRo (xEqJ (p := false) (d := .bl false) (xFz (xN g8 rfl) frz_F) (xFz (xOs g8 oFld_nF rfl) frz_net) rfl rfl en1 rfl) rfl)) (cE (xRo (xEqX (xFz (xN g8 rfl) frz_F) (xFz (xReprI (xN g8 rfl) frz_F rfl er) fz_s) rfl rfl rfl rfl en2) rfl))))) zSkip
  refine zSeq (st1 := [x0, x1, x2, some (.int (w : Int)), some (.lst false vs), x5, x6, x7, some (bnc w ss (HL w hs)), some (bnc w ss (HL w hs)), some (bnc w ss (HL w hs)), some STt, x12]) ?_ ?_
  · unfold st12_law
    exact zAsg (xCallL xANil rfl xANil rfl rfl es rfl rfl) rfl
  refine zSeq (st1 := [x0, x1, x2, some (.int (w : Int)), some (.lst false vs), x5, x6, x7, some (bnc w ss (HL w hs)), some (bnc w ss (HL w hs)), some (bnc w (ss ++ [1]) (HL w (hs ++ [(("add" : Str), ss)]))), some STt, x12]) ?_ ?_
  · unfold st13_law
    exact zExpr (xMthL rfl ins_add (xCallL xANil rfl (xACons xC xANil) rfl rfl a1 rfl rfl))
  refine zSeq (st1 := [x0, x1, x2, some (.int (w : Int)), some (.lst false vs), x5, x6, x7, some (bnc w ss (HL w hs)), some (bnc w ss (HL w hs)), some (bnc w (ss ++ [1]) (HL w (hs ++ [(("add" : Str), ss)]))), some (.lst false STl), x12]) ?_ ?_
  · unfold st15_law
    exact zNo (cOrF (cNotF (cE (unR rfl rfl fun z => sne1 z.1))) (cE (xNeI (xFz (xCallL xANil rfl xANil rfl rfl es rfl rfl) f1) (xFz (xNf rfl hST2 f1 rfl) f2) sq))) zSkip
  refine zSeq (st1 := [x0, x1, x2, some (.int (w : Int)), some (.lst false vs), x5, x6, x7, some (bnc w ss (HL w hs)), some (bnc w ss (HL w hs)), some (bnc w ss (HL w hs)), some (.lst false STl), x12]) ?_ ?_
  · unfold st17_law
    have e1 := eqR (st := [x0, x1, x2, some (.int (w : Int)), some (.lst false vs), x5, x6, x7, some (bnc w ss (HL w hs)), some (bnc w ss (HL w hs)), some (bnc w ss (HL w hs)), some (.lst false STl), x12]) (i := 8) (j := 10) false rfl rfl
    rw [show (if false = true then !decide (ss = ss ∧ hs = hs) else decide (ss = ss ∧ hs = hs)) = true from decide_eq_true ⟨rfl, rfl⟩] at e1
    exact zNo (cOrF (cE (xNeI (xFz (xMthL rfl ins_undo (xCallL xANil rfl xANil rfl rfl u1 rfl rfl)) add1) (xFz (xLst (xACons xC xANil) rfl) add1) addq)) (cNotF (cE e1))) zSkip
  refine zSeq (st1 := [x0, x1, x2, some (.int (w : Int)), some (.lst false vs), x5, x6, x7, some (bnc w (ss ++ [1, 1]) (HL w (hs ++ [(("add" : Str), ss)]))), some (bnc w ss (HL w hs)), some (bnc w ss (HL w hs)), some (.lst false STl), x12]) ?_ ?_
  · unfold st18_law
    exact zExpr (xMthL rfl ins_add (xCallL xANil rfl (xACons xC (xACons xC xANil)) rfl rfl a11 rfl rfl))
  refine zSeq (st1 := [x0, x1, x2, some (.int (w : Int)), some (.lst false vs), x5, x6, x7, some (bnc w (ss ++ [1, 1]) (HL w (hs ++ [(("add" : Str), ss)]))), some (bnc w (ss ++ [1]) (HL w (hs ++ [(("add" : Str), ss)]))), some (bnc w ss (HL w hs)), some (.lst false STl), x12]) ?_ ?_
  · unfold st19_law
    exact zExpr (xMthL rfl ins_add (xCallL xANil rfl (xACons xC xANil) rfl rfl a1 rfl rfl))
  refine zSeq (st1 := [x0, x1, x2, some (.int (w : Int)), some (.lst false vs), x5, x6, x7, some (bnc w (ss ++ [1, 1]) (HL w (hs ++ [(("add" : Str), ss)]))), some (bnc w (ss ++ [1]) (HL w (hs ++ [(("add" : Str), ss)]))), some (bnc w ss (HL w hs)), some (.lst false STl), x12]) ?_ ?_
  · unfold st21_law
    exact zNo (cOrF (cE (xNeI (xFz (xCallL xANil rfl xANil rfl rfl es rfl rfl) f1) (xFz (xN rfl rfl) f2) sq)) (cOrF (cNotF (cE (unR rfl rfl fun z => sne2 z.1))) (cNotF (cE (unR rfl rfl fun z => sne3 z.1))))) zSkip
  refine zSeq (st1 := [x0, x1, x2, some (.int (w : Int)), some (.lst false vs), x5, x6, x7, some (bnc w (ss ++ [1, 1]) (HL w (hs ++ [(("add" : Str), ss)]))), some (bnc w (putAt 0 1 (ss ++ [1])) (HL w (hs ++ [(("add" : Str), ss)] ++ [(("place" : Str), ss ++ [1])]))), some (bnc w ss (HL w hs)), some (.lst false STl), x12]) ?_ ?_
  · unfold st22_law
    exact zExpr (xMthL rfl ins_place (xCallL xANil rfl (xACons xC (xACons xC xANil)) rfl rfl p2 rfl rfl))
  refine zSeq (st1 := [x0, x1, x2, some (.int (w : Int)), some (.lst false vs), x5, x6, x7, some (bnc w ss (HL w hs)), some (bnc w (putAt 0 1 (ss ++ [1])) (HL w (hs ++ [(("add" : Str), ss)] ++ [(("place" : Str), ss ++ [1])]))), some (bnc w ss (HL w hs)), some (.lst false STl), x12]) ?_ ?_
  · unfold st23_law
    exact zExpr (xMthL rfl ins_undo (xCallL xANil rfl xANil rfl rfl u11 rfl rfl))
  refine zSeq (st1 := [x0, x1, x2, some (.int (w : Int)), some (.lst false vs), x5, x6, x7, some (bnc w (putAt 0 1 ss) (HL w (hs ++ [(("place" : Str), ss)]))), some (bnc w (putAt 0 1 (ss ++ [1])) (HL w (hs ++ [(("add" : Str), ss)] ++ [(("place" : Str), ss ++ [1])]))), some (bnc w ss (HL w hs)), some (.lst false STl), x12]) ?_ ?_
  · unfold st24_law
    exact zExpr (xMthL rfl ins_place (xCallL xANil rfl (xACons xC (xACons xC xANil)) rfl rfl p1 rfl rfl))
  refine zSeq (st1 := [x0, x1, x2, some (.int (w : Int)), some (.lst false vs), x5, x6, x7, some (bnc w (putAt 0 1 ss ++ [1]) (HL w (hs ++ [(("place" : Str), ss)] ++ [(("add" : Str), putAt 0 1 ss)]))), some (bnc w (putAt 0 1 (ss ++ [1])) (HL w (hs ++ [(("add" : Str), ss)] ++ [(("place" : Str), ss ++ [1])]))), some (bnc w ss (HL w hs)), some (.lst false STl), x12]) ?_ ?_
  · unfold st25_law
    exact zExpr (xMthL rfl ins_add (xCallL xANil rfl (xACons xC xANil) rfl rfl a3 rfl rfl))
  refine zSeq (st1 := [x0, x1, x2, some (.int (w : Int)), some (.lst false vs), x5, x6, x7, some (bnc w (putAt 0 1 ss ++ [1]) (HL w (hs ++ [(("place" : Str), ss)] ++ [(("add" : Str), putAt 0 1 ss)]))), some (bnc w (putAt 0 1 (ss ++ [1])) (HL w (hs ++ [(("add" : Str), ss)] ++ [(("place" : Str), ss ++ [1])]))), some (bnc w ss (HL w hs)), some (.lst false STl), x12]) ?_ ?_
  · unfold st27_law
    refine zNo (cAndT (cE (xEqI (p := true) (xFz (xOs rfl oFld_n rfl) frz_net) (xFz (xOs rfl oFld_n rfl) frz_net) rfl rfl ee rfl)) (cNotF (cE (unR rfl rfl fun z => ?_)))) zSkip
    have h := z.2
    rw [List.append_assoc, List.append_assoc] at h
    have h := List.append_cancel_left h
    simp at h
    have : ("place" : Str) ≠ "add" := by decide +kernel
    exact this h.1
  refine zSeq (st1 := [x0, x1, x2, some (.int (w : Int)), some (.lst false vs), x5, x6, x7, some (bnc w (putAt 0 1 ss ++ [1]) (HL w (hs ++ [(("place" : Str), ss)] ++ [(("add" : Str), putAt 0 1 ss)]))), some (bnc w (putAt 0 1 (ss ++ [1])) (HL w (hs ++ [(("add" : Str), ss)] ++ [(("place" : Str), ss ++ [1])]))), some (bnc w ss (HL w hs)), some (.lst false STl), some (bnc w ss (HL w hs))]) ?_ ?_
  · unfold st28_law
    exact zAsg (xCall (xACons (xN rfl rfl) (xACons (n4' false vf) xANil)) em) rfl
  refine zSeq (st1 := [x0, x1, x2, some (.int (w : Int)), some (.lst false vs), x5, x6, x7, some (bnc w (putAt 0 1 ss ++ [1]) (HL w (hs ++ [(("place" : Str), ss)] ++ [(("add" : Str), putAt 0 1 ss)]))), some (bnc w (putAt 0 1 (ss ++ [1])) (HL w (hs ++ [(("add" : Str), ss)] ++ [(("place" : Str), ss ++ [1])]))), some (bnc w ss (HL w hs)), some (.lst false STl), some (bnc w ss (HL w (hs ++ [(("add" : Str), ss)])))]) ?_ ?_
  · unfold st29_law
    exact zExpr (xMthL rfl ins_add (xCallL xANil rfl xANil rfl rfl a0 rfl rfl))
  · unfold st31_law
    have e1 := eqR (st := [x0, x1, x2, some (.int (w : Int)), some (.lst false vs), x5, x6, x7, some (bnc w (putAt 0 1 ss ++ [1]) (HL w (hs ++ [(("place" : Str), ss)] ++ [(("add" : Str), putAt 0 1 ss)]))), some (bnc w (putAt 0 1 (ss ++ [1])) (HL w (hs ++ [(("add" : Str), ss)] ++ [(("place" : Str), ss ++ [1])]))), some (bnc w ss (HL w hs)), some (.lst false STl), some (bnc w ss (HL w hs))]) (i := 12) (j := 10) false rfl rfl
    rw [show (if false = true then !decide (ss = ss ∧ hs = hs) else decide (ss = ss ∧ hs = hs)) = true from decide_eq_true ⟨rfl, rfl⟩] at e1
    exact zNo (cOrF (cNotF (cE (unR rfl rfl fun z => hne z.2.symm))) (cOrF (cE (xNeI (xFz (xMthL rfl ins_undo (xCallL xANil rfl xANil rfl rfl u0 rfl rfl)) add1) (xFz (xLst (xACons xC xANil) rfl) add1) addq)) (cNotF (cE e1)))) zSkip
theorem body_ok (ns : List Int) (hns : ns.length ≤ 63) (i : Int) (h0 : 0 ≤ i) (hi : i < 6) (x2 x3 x4 x5 x6 x7 x8 x9 x10 x11 x12 : Option D) :
    ∃ y2 y3 y4 y5 y6 y7 y8 y9 y10 y11 y12, fb32_law [some (.scr ns), some (.int i), x2, x3, x4, x5, x6, x7, x8, x9, x10, x11, x12] = .next [some (.scr ns), some (.int i), y2, y3, y4, y5, y6, y7, y8, y9, y10, y11, y12] := by
  obtain ⟨a, b, ps, e1⟩ := source_ok ns i h0 (by omega) hns
  obtain ⟨r, a1, b1, r1, r2, e2⟩ := draw_ok a b 8 (by decide) (by decide)
  obtain ⟨w, hw⟩ : ∃ w : Nat, 2 + r = (w : Int) := ⟨(2 + r).toNat, by omega⟩
  obtain ⟨m, a2, b2, m1, m2, e3⟩ := draw_ok a1 b1 8 (by decide) (by decide)
  obtain ⟨N, rfl⟩ : ∃ N : Nat, m = (N : Int) := ⟨m.toNat, by omega⟩
  obtain ⟨st', L, vs, ss, hs, a', b', o4, o5, y6, y7, p, lv, rfl⟩ := forD_ok (g := fg6_law) (body := fb6_law) (fun k st => ∃ vs ss hs a' b' o4 o5 y6 y7, Pa w [] [] vs ss hs ∧ vs.length = k ∧ st = [some (.scr ns), some (.int i), some (.lst true [.int a', .int b']), some (.int (w : Int)), some (.lst o4 vs), some (.lst o5 (nums ss)), y6, y7, x8, x9, x10, x11, x12]) (rangeD 0 N) 0
    [some (.scr ns), some (.int i), some (.lst true [.int a2, .int b2]), some (.int (w : Int)), some (.lst true []), some (.lst true (nums [])), x6, x7, x8, x9, x10, x11, x12] ⟨[], [], [], a2, b2, true, true, _, _, .nil _ _, rfl, rfl⟩ (fun k d st e hI => by
      obtain ⟨vs, ss, hs, a', b', o4, o5, y6, y7, p, lv, rfl⟩ := hI
      obtain ⟨hk, rfl⟩ := rangeD_get e
      obtain ⟨pf, pl, pn, po⟩ := p.all
      have hS : okS w ss := po fun s hs => by cases hs
      have lS : ss.length ≤ 40 := by simpa using (Nat.le_trans pl (by simp; omega))
      obtain ⟨v, x, T, r, a3, b3, ch, ec⟩ := change_ok (w := w) (ss := ss) a' b' (by omega) (by omega) (by omega)
      obtain ⟨pnw, en⟩ := new_ok ch (by omega)
      have hv := ch.hot
      have ad : oAdd [.lst o4 vs, .lst true [v]] = some (.newL (vs ++ [v])) := add_any (List.all_eq_true.mpr fun z hz => ((p.snoc ch).all.1 z hz).1) (by show vs.length + 1 ≤ _; omega)
      refine ⟨_, _, rfl, .inl (?_ : _ = SR.next [some (.scr ns), some (.int i), some (.lst true [.int a3, .int b3]), some (.int (w : Int)), some (.lst true (vs ++ [v])), some (.lst true (nums T)), some (.int (0 + (k : Int))), some v, x8, x9, x10, x11, x12]), vs ++ [v], T, _, a3, b3, true, true, _, _, p.snoc ch, by rw [List.length_append, List.length_singleton, lv], rfl⟩
      unfold fb6_law
      refine zSeq (st1 := [some (.scr ns), some (.int i), some (.lst true [.int a3, .int b3]), some (.int (w : Int)), some (.lst o4 vs), some (.lst false (nums ss)), some (.int (0 + (k : Int))), some v, x8, x9, x10, x11, x12]) ?_ ?_
      · unfold st4_law
        exact zAsg (xCallL xANil rfl (xACons (xN rfl rfl) (xACons (n5' o5) xANil)) rfl rfl ec rfl rfl) rfl
      · unfold st5_law
        exact zPar (xACons (xOsv rfl (xLst (xACons (xN rfl hv) xANil) rfl) rfl ad rfl) (xACons (xCall (xACons (xN rfl rfl) (xACons (n5' false) (xACons (xN rfl hv) xANil))) en) xANil)) rfl rfl)
  have rl : (rangeD 0 N).length = N := rangeD_len _ _
  rw [Nat.zero_add, rl] at lv
  obtain ⟨z8, z9, z10, z11, z12, ec⟩ := case_ok (w := w) (by omega) (by omega) p (by omega) o4 (some (.scr ns)) (some (.int i)) (some (.lst true [.int a', .int b'])) (some (.lst o5 (nums ss))) y6 y7 x8 x9 x10 x11 x12
  refine ⟨_, _, _, _, _, _, _, _, _, _, _, (?_ : _ = SR.next [some (.scr ns), some (.int i), some (.lst true [.int a', .int b']), some (.int (w : Int)), some (.lst false vs), some (.lst o5 (nums ss)), y6, y7, z8, z9, z10, z11, z12])⟩
  unfold fb32_law
  apply zSeq
  · unfold st1_law
    walk_at "z"
  apply zSeq
  · unfold st2_law
    walk_at "z"
  rw [hw]
  refine zSeq (st1 := [some (.scr ns), some (.int i), some (.lst true [.int a1, .int b1]), some (.int (w : Int)), some (.lst true []), some (.lst true (nums [])), x6, x7, x8, x9, x10, x11, x12]) ?_ ?_
  · unfold st3_law
    exact zPar (xACons (xLst xANil rfl) (xACons (xLst xANil rfl) xANil)) rfl rfl
  refine zSeq (zFor (wR1 (n := N) (xCallL xANil rfl (xACons xC xANil) rfl rfl e3 rfl rfl) rfl (by unfold small62; exact decide_eq_true (by omega))) L) ec
theorem last_ok (y0 y1 y2 y3 y4 y5 y6 y7 y8 y9 y10 y11 y12 : Option D) : st36_law [y0, y1, y2, y3, y4, y5, y6, y7, y8, y9, y10, y11, y12] = .ret (.bl true) [y0, y1, y2, y3, y4, y5, y6, y7, y8, y9, y10, y11, y12] := by kernel_rfl
theorem law_ok (ns : List Int) (hns : ns.length ≤ 63) : ∃ ps, m_law [.scr ns] = .ok (.bl true) ps := by
  obtain ⟨N, hN, e0⟩ := count_ok ns 6 (by decide) (by decide) (st := [some (.scr ns), none, none, none, none, none, none, none, none, none, none, none, none]) rfl
  obtain ⟨st', L, ⟨y1, y2, y3, y4, y5, y6, y7, y8, y9, y10, y11, y12, rfl⟩⟩ := forD_inv (g := fg32_law) (body := fb32_law) (fun st => ∃ y1 y2 y3 y4 y5 y6 y7 y8 y9 y10 y11 y12, st = [some (.scr ns), y1, y2, y3, y4, y5, y6, y7, y8, y9, y10, y11, y12]) (rangeD 0 N) [some (.scr ns), none, none, none, none, none, none, none, none, none, none, none, none] ⟨none, none, none, none, none, none, none, none, none, none, none, none, rfl⟩ (fun d st hd hI => by
    obtain ⟨y1, y2, y3, y4, y5, y6, y7, y8, y9, y10, y11, y12, rfl⟩ := hI
    obtain ⟨i, hi, rfl⟩ := rangeD_mem hd
    rw [Int.zero_add]
    obtain ⟨z2, z3, z4, z5, z6, z7, z8, z9, z10, z11, z12, e⟩ := body_ok ns hns (i : Int) (by omega) (by omega) y2 y3 y4 y5 y6 y7 y8 y9 y10 y11 y12
    exact ⟨_, _, rfl, e, _, _, _, _, _, _, _, _, _, _, _, _, rfl⟩)
  have hb : b_law [some (.scr ns), none, none, none, none, none, none, none, none, none, none, none, none] = SR.ret (.bl true) [some (.scr ns), y1, y2, y3, y4, y5, y6, y7, y8, y9, y10, y11, y12] := by
    unfold b_law
    refine zSeq (zFor e0 L) (zSeq (st1 := [some (.scr ns), y1, y2, y3, y4, y5, y6, y7, y8, y9, y10, y11, y12]) ?_ (last_ok _ _ _ _ _ _ _ _ _ _ _ _ _))
    unfold st35_law
    exact zNo (cNotF (cE (xCall xANil other_ok))) zSkip
  exact ⟨_, fn_go (n := 1) (w := 13) (L := [0]) (ds := [.scr ns]) rfl hb⟩
end Lw70

set_option maxRecDepth 100000 in
set_option maxHeartbeats 0 in
theorem PySem.Challenge.cw_nearswap_k70_bench_equality_and_copies_holds : PySem.Challenge.rw_nearswap_k70_bench_equality_and_copies.Holds := by
  w_on; o_law; k_head; (case hw => w_witness2)
  k_fill
  refine DL.walk_lawG (l := PySem.Challenge.rw_nearswap_k70_bench_equality_and_copies) (k := 10) (m := Lw70.m_law) rfl rfl ⟨rfl, by decide, by decide⟩ (fun w h Y => PySem.W.kIn_of Y) ?F Lw70.law_ok
  case F =>
    intro w mg fa h KX G hmg
    refine' Lw70.walk_fact (Lw70.all_mk KX G hmg ?a_Network ?a_Bench ?a__law_source ?l__law_source ?q__law_source ?k__law_source ?a__law_draw ?l__law_draw ?q__law_draw ?k__law_draw ?a__law_steps ?l__law_steps ?q__law_steps ?k__law_steps ?a__law_change ?l__law_change ?q__law_change ?k__law_change ?a__law_new_steps ?l__law_new_steps ?q__law_new_steps ?k__law_new_steps ?a_is_integer ?l_is_integer ?q_is_integer ?k_is_integer ?a_check_width ?l_check_width ?q_check_width ?k_check_width ?a_check_steps ?l_check_steps ?q_check_steps ?k_check_steps ?a_Network___init__ ?i_Network___init__ ?l_Network___init__ ?q_Network___init__ ?k_Network___init__ ?a_Network_empty ?rc_Network_empty ?i_Network_empty ?l_Network_empty ?q_Network_empty ?k_Network_empty ?a_Bench___init__ ?i_Bench___init__ ?l_Bench___init__ ?q_Bench___init__ ?k_Bench___init__ ?a_Bench_keep ?i_Bench_keep ?l_Bench_keep ?q_Bench_keep ?k_Bench_keep ?a_Bench_drop ?i_Bench_drop ?l_Bench_drop ?q_Bench_drop ?k_Bench_drop ?a_Bench_check_step ?i_Bench_check_step ?l_Bench_check_step ?q_Bench_check_step ?k_Bench_check_step ?a_check_count ?l_check_count ?q_check_count ?k_check_count ?a_Bench_place ?i_Bench_place ?l_Bench_place ?q_Bench_place ?k_Bench_place ?a_Network___len__ ?i_Network___len__ ?l_Network___len__ ?q_Network___len__ ?k_Network___len__ ?a_Bench_add_all ?i_Bench_add_all ?l_Bench_add_all ?q_Bench_add_all ?k_Bench_add_all ?a_Bench_add ?i_Bench_add ?l_Bench_add ?q_Bench_add ?k_Bench_add ?a__law_perform ?l__law_perform ?q__law_perform ?k__law_perform ?a__law_made ?l__law_made ?q__law_made ?k__law_made ?a_Bench_copy ?i_Bench_copy ?l_Bench_copy ?q_Bench_copy ?k_Bench_copy ?a_Network___eq__ ?i_Network___eq__ ?l_Network___eq__ ?q_Network___eq__ ?k_Network___eq__ ?a_Bench___eq__ ?i_Bench___eq__ ?l_Bench___eq__ ?q_Bench___eq__ ?k_Bench___eq__ ?a_Bench___repr__ ?i_Bench___repr__ ?l_Bench___repr__ ?q_Bench___repr__ ?k_Bench___repr__ ?a_Bench___len__ ?i_Bench___len__ ?l_Bench___len__ ?q_Bench___len__ ?k_Bench___len__ ?a_Bench_changes ?ge_Bench_changes ?ta_Bench_changes ?rc_Bench_changes ?l_Bench_changes ?q_Bench_changes ?k_Bench_changes ?a__law_state ?l__law_state ?q__law_state ?k__law_state ?a__law_unlike ?l__law_unlike ?q__law_unlike ?k__law_unlike ?a_is_any_integer ?l_is_any_integer ?q_is_any_integer ?k_is_any_integer ?a_Bench_undo ?i_Bench_undo ?l_Bench_undo ?q_Bench_undo ?k_Bench_undo ?t_Bench_undo ?a__law_other_index_holds ?l__law_other_index_holds ?q__law_other_index_holds ?k__law_other_index_holds ?a_law ?l_law ?q_law ?k_law ?a_Bench_network ?ge_Bench_network ?ta_Bench_network ?rc_Bench_network ?l_Bench_network ?q_Bench_network ?k_Bench_network ?a_Network_steps ?ge_Network_steps ?ta_Network_steps ?rc_Network_steps ?l_Network_steps ?q_Network_steps ?k_Network_steps ?a_Network_width ?ge_Network_width ?ta_Network_width ?rc_Network_width ?l_Network_width ?q_Network_width ?k_Network_width ?pg_Network ?hd_Network ?po_Network ?sa_Network ?mk_Network ?kc_Network ?xl_Network ?xn_Network ?ss_Network ?ne_Network ?nn_Network ?nl_Network ?pg_Bench ?hd_Bench ?po_Bench ?sa_Bench ?mk_Bench ?kc_Bench ?xl_Bench ?xn_Bench ?ss_Bench ?ne_Bench ?nn_Bench ?nl_Bench ?na_Bench_own_history ?na_Bench_own_network ?na_Network_own_steps ?na_Network_own_width ?rd_Network ?ga_Network ?sb_Network_Bench ?cv_Network_MAX_STEPS ?cv_Network_MAX_WIDTH ?ha_Bench ?hn_Bench ?ht_Bench ?hm_Bench ?ki_Bench ?kj_Bench ?kt_Bench_NoneType ?kt_Bench_bool ?kt_Bench_int ?kt_Bench_str ?kt_Bench_list ?kt_Bench_tuple ?kt_Bench_dict ?kxs_Network_Bench ?kn_Network_Bench ?ha_Network ?hn_Network ?ht_Network ?hm_Network ?ki_Network ?kj_Network ?kt_Network_NoneType ?kt_Network_bool ?kt_Network_int ?kt_Network_str ?kt_Network_list ?kt_Network_tuple ?kt_Network_dict ?a_ADD ?a_DROP ?a_PLACE ?z_abs ?z_bool ?z_enumerate ?z_int ?z_isinstance ?z_len ?z_list ?z_max ?z_min ?z_range ?z_repr ?z_sum ?z_tuple)
    (case a_Network => k_is)
    (case a_Bench => k_is)
    (case a__law_source => k_is)
    (case l__law_source => k_is)
    (case q__law_source => k_is)
    (case k__law_source => k_is)
    (case a__law_draw => k_is)
    (case l__law_draw => k_is)
    (case q__law_draw => k_is)
    (case k__law_draw => k_is)
    (case a__law_steps => k_is)
    (case l__law_steps => k_is)
    (case q__law_steps => k_is)
    (case k__law_steps => k_is)
    (case a__law_change => k_is)
    (case l__law_change => k_is)
    (case q__law_change => k_is)
    (case k__law_change => k_is)
    (case a__law_new_steps => k_is)
    (case l__law_new_steps => k_is)
    (case q__law_new_steps => k_is)
    (case k__law_new_steps => k_is)
    (case a_is_integer => k_is)
    (case l_is_integer => k_is)
    (case q_is_integer => k_is)
    (case k_is_integer => k_is)
    (case a_check_width => k_is)
    (case l_check_width => k_is)
    (case q_check_width => k_is)
    (case k_check_width => k_is)
    (case a_check_steps => k_is)
    (case l_check_steps => k_is)
    (case q_check_steps => k_is)
    (case k_check_steps => k_is)
    (case a_Network___init__ => k_is)
    (case i_Network___init__ => k_is)
    (case l_Network___init__ => k_is)
    (case q_Network___init__ => k_is)
    (case k_Network___init__ => k_is)
    (case a_Network_empty => k_is)
    (case rc_Network_empty => k_is)
    (case i_Network_empty => k_is)
    (case l_Network_empty => k_is)
    (case q_Network_empty => k_is)
    (case k_Network_empty => k_is)
    (case a_Bench___init__ => k_is)
    (case i_Bench___init__ => k_is)
    (case l_Bench___init__ => k_is)
    (case q_Bench___init__ => k_is)
    (case k_Bench___init__ => k_is)
    (case a_Bench_keep => k_is)
    (case i_Bench_keep => k_is)
    (case l_Bench_keep => k_is)
    (case q_Bench_keep => k_is)
    (case k_Bench_keep => k_is)
    (case a_Bench_drop => k_is)
    (case i_Bench_drop => k_is)
    (case l_Bench_drop => k_is)
    (case q_Bench_drop => k_is)
    (case k_Bench_drop => k_is)
    (case a_Bench_check_step => k_is)
    (case i_Bench_check_step => k_is)
    (case l_Bench_check_step => k_is)
    (case q_Bench_check_step => k_is)
    (case k_Bench_check_step => k_is)
    (case a_check_count => k_is)
    (case l_check_count => k_is)
    (case q_check_count => k_is)
    (case k_check_count => k_is)
    (case a_Bench_place => k_is)
    (case i_Bench_place => k_is)
    (case l_Bench_place => k_is)
    (case q_Bench_place => k_is)
    (case k_Bench_place => k_is)
    (case a_Network___len__ => k_is)
    (case i_Network___len__ => k_is)
    (case l_Network___len__ => k_is)
    (case q_Network___len__ => k_is)
    (case k_Network___len__ => k_is)
    (case a_Bench_add_all => k_is)
    (case i_Bench_add_all => k_is)
    (case l_Bench_add_all => k_is)
    (case q_Bench_add_all => k_is)
    (case k_Bench_add_all => k_is)
    (case a_Bench_add => k_is)
    (case i_Bench_add => k_is)
    (case l_Bench_add => k_is)
    (case q_Bench_add => k_is)
    (case k_Bench_add => k_is)
    (case a__law_perform => k_is)
    (case l__law_perform => k_is)
    (case q__law_perform => k_is)
    (case k__law_perform => k_is)
    (case a__law_made => k_is)
    (case l__law_made => k_is)
    (case q__law_made => k_is)
    (case k__law_made => k_is)
    (case a_Bench_copy => k_is)
    (case i_Bench_copy => k_is)
    (case l_Bench_copy => k_is)
    (case q_Bench_copy => k_is)
    (case k_Bench_copy => k_is)
    (case a_Network___eq__ => k_is)
    (case i_Network___eq__ => k_is)
    (case l_Network___eq__ => k_is)
    (case q_Network___eq__ => k_is)
    (case k_Network___eq__ => k_is)
    (case a_Bench___eq__ => k_is)
    (case i_Bench___eq__ => k_is)
    (case l_Bench___eq__ => k_is)
    (case q_Bench___eq__ => k_is)
    (case k_Bench___eq__ => k_is)
    (case a_Bench___repr__ => k_is)
    (case i_Bench___repr__ => k_is)
    (case l_Bench___repr__ => k_is)
    (case q_Bench___repr__ => k_is)
    (case k_Bench___repr__ => k_is)
    (case a_Bench___len__ => k_is)
    (case i_Bench___len__ => k_is)
    (case l_Bench___len__ => k_is)
    (case q_Bench___len__ => k_is)
    (case k_Bench___len__ => k_is)
    (case a_Bench_changes => k_is)
    (case ge_Bench_changes => k_is)
    (case ta_Bench_changes => k_is)
    (case rc_Bench_changes => k_is)
    (case l_Bench_changes => k_is)
    (case q_Bench_changes => k_is)
    (case k_Bench_changes => k_is)
    (case a__law_state => k_is)
    (case l__law_state => k_is)
    (case q__law_state => k_is)
    (case k__law_state => k_is)
    (case a__law_unlike => k_is)
    (case l__law_unlike => k_is)
    (case q__law_unlike => k_is)
    (case k__law_unlike => k_is)
    (case a_is_any_integer => k_is)
    (case l_is_any_integer => k_is)
    (case q_is_any_integer => k_is)
    (case k_is_any_integer => k_is)
    (case a_Bench_undo => k_is)
    (case i_Bench_undo => k_is)
    (case l_Bench_undo => k_is)
    (case q_Bench_undo => k_is)
    (case k_Bench_undo => k_is)
    (case t_Bench_undo => k_is)
    (case a__law_other_index_holds => k_is)
    (case l__law_other_index_holds => k_is)
    (case q__law_other_index_holds => k_is)
    (case k__law_other_index_holds => k_is)
    (case a_law => k_is)
    (case l_law => k_is)
    (case q_law => k_is)
    (case k_law => k_is)
    (case a_Bench_network => k_is)
    (case ge_Bench_network => k_is)
    (case ta_Bench_network => k_is)
    (case rc_Bench_network => k_is)
    (case l_Bench_network => k_is)
    (case q_Bench_network => k_is)
    (case k_Bench_network => k_is)
    (case a_Network_steps => k_is)
    (case ge_Network_steps => k_is)
    (case ta_Network_steps => k_is)
    (case rc_Network_steps => k_is)
    (case l_Network_steps => k_is)
    (case q_Network_steps => k_is)
    (case k_Network_steps => k_is)
    (case a_Network_width => k_is)
    (case ge_Network_width => k_is)
    (case ta_Network_width => k_is)
    (case rc_Network_width => k_is)
    (case l_Network_width => k_is)
    (case q_Network_width => k_is)
    (case k_Network_width => k_is)
    (case pg_Network => k_is)
    (case hd_Network => k_is)
    (case po_Network => k_is)
    (case sa_Network => k_is)
    (case mk_Network => k_is)
    (case kc_Network => k_is)
    (case xl_Network => k_is)
    (case xn_Network => k_is)
    (case ss_Network => kernel_rfl)
    (case ne_Network => k_is)
    (case nn_Network => k_is)
    (case nl_Network => k_is)
    (case pg_Bench => k_is)
    (case hd_Bench => k_is)
    (case po_Bench => k_is)
    (case sa_Bench => k_is)
    (case mk_Bench => k_is)
    (case kc_Bench => k_is)
    (case xl_Bench => k_is)
    (case xn_Bench => k_is)
    (case ss_Bench => kernel_rfl)
    (case ne_Bench => k_is)
    (case nn_Bench => k_is)
    (case nl_Bench => k_is)
    (case na_Bench_own_history => k_is)
    (case na_Bench_own_network => k_is)
    (case na_Network_own_steps => k_is)
    (case na_Network_own_width => k_is)
    (case rd_Network => k_is)
    (case ga_Network => k_is)
    (case sb_Network_Bench => k_is)
    (case cv_Network_MAX_STEPS => k_is)
    (case cv_Network_MAX_WIDTH => k_is)
    (case ha_Bench => k_is)
    (case hn_Bench => k_is)
    (case ht_Bench => k_is)
    (case hm_Bench => k_is)
    (case ki_Bench => k_is)
    (case kj_Bench => k_is)
    (case kt_Bench_NoneType => k_is)
    (case kt_Bench_bool => k_is)
    (case kt_Bench_int => k_is)
    (case kt_Bench_str => k_is)
    (case kt_Bench_list => k_is)
    (case kt_Bench_tuple => k_is)
    (case kt_Bench_dict => k_is)
    (case kxs_Network_Bench => k_is)
    (case kn_Network_Bench => kernel_rfl)
    (case ha_Network => k_is)
    (case hn_Network => k_is)
    (case ht_Network => k_is)
    (case hm_Network => k_is)
    (case ki_Network => k_is)
    (case kj_Network => k_is)
    (case kt_Network_NoneType => k_is)
    (case kt_Network_bool => k_is)
    (case kt_Network_int => k_is)
    (case kt_Network_str => k_is)
    (case kt_Network_list => k_is)
    (case kt_Network_tuple => k_is)
    (case kt_Network_dict => k_is)
    (case a_ADD => k_is)
    (case a_DROP => k_is)
    (case a_PLACE => k_is)
    (case z_abs => k_is)
    (case z_bool => k_is)
    (case z_enumerate => k_is)
    (case z_int => k_is)
    (case z_isinstance => k_is)
    (case z_len => k_is)
    (case z_list => k_is)
    (case z_max => k_is)
    (case z_min => k_is)
    (case z_range => k_is)
    (case z_repr => k_is)
    (case z_sum => k_is)
    (case z_tuple => k_is)
