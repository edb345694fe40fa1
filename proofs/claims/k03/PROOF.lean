import PyProof.Rows.All
import Wide.All
import OpenK.AllK
import Wide.FinOn
import HandS.ForExc
import HandS.Wide
import HandS.TupAny
import HandS.Deep
import HandS.IsInst
import HandS.Property
import HandS.Defaults
import PyProof.EqLayable
import HandS.Dict
import HandS.CallSlots
import HandS.Comp
import HandS.Star
import HandS.Spec
import KE.KOpsOwn
import HandS.TryOnly
import HandS.TryMany
import HandS.ExcIs
import HandS.List
import HandS.Small
import HandS.Style
import HandS.HeadHook1
import KE.KSuper
import HandS.NestedK
import HandS.ClsMeth
import HandS.HeadHook2
import HandS.Head0
import HandS.Head1
import HandS.Head2
import HandS.HeadEnd
import PySem.Challenge.RW_backsame_k03_whole_steps
set_option Elab.async false
set_option linter.all false
set_option autoImplicit false
set_option maxRecDepth 100000
set_option maxHeartbeats 0
/-! Mi, part A: data, results, the parts of small programs as functions. -/
namespace Mi
open PySem

/-- a value: tuples by value; lists, dicts, instances at abstract addresses -/
inductive D where
  | non | bl (b : Bool) | int (i : Int) | str (s : Str) | tup (xs : List D) | ref (n : Nat) | cls (c : Nat)
/-- what stands at an abstract address (rol: a list that is only read) -/
inductive AO where
  | lst (xs : List D) | rol (xs : List D) | dk (kvs : List (Sum Int Str × D)) | ins (c : Nat) (fs : List (Str × D)) | oth
abbrev Hh := List AO
/-- an exception: its class, its own attributes -/
structure Xc where
  c : Nat
  fs : List (Str × D)
inductive RE (α : Type) where
  | ok (a : α) (h : Hh) | ex (x : Xc) (h : Hh) | no
def RE.bind {α β : Type} (r : RE α) (f : α → Hh → RE β) : RE β := match r with
  | .ok a h => f a h
  | .ex x h => .ex x h
  | .no => .no
/-- nothing is let out -/
def RE.noex {α : Type} : RE α → RE α
  | .ex _ _ => .no
  | r => r
abbrev Dl := List (Option D)
abbrev ME := Dl → Hh → RE D
abbrev MT := Dl → Hh → RE Bool
abbrev MEs := Dl → Hh → RE (List D)
abbrev Sem := List D → Hh → RE D
inductive RS where
  | nx (δ : Dl) (h : Hh) | rt (d : D) (h : Hh) | bk (δ : Dl) (h : Hh) | ct (δ : Dl) (h : Hh) | ex (x : Xc) (δ : Dl) (h : Hh) | no
abbrev MS := Dl → Hh → RS
/-- an expression's result within a statement -/
def RE.st {α : Type} (r : RE α) (δ : Dl) (f : α → Hh → RS) : RS := match r with
  | .ok a h => f a h
  | .ex x h => .ex x δ h
  | .no => .no

/-! ### data seen deep -/
mutual
def toPy (h : Hh) : Nat → D → Option PyData
  | _, .non => some .none
  | _, .bl b => some (.bool b)
  | _, .int i => some (.int i)
  | _, .str s => some (.str s)
  | 0, _ => none
  | n + 1, .tup ds => (toPys h n ds).map .tuple
  | n + 1, .ref k => match h[k]? with
    | some (.lst ds) => (toPys h n ds).map .list
    | some (.rol ds) => (toPys h n ds).map .list
    | _ => none
  | _, _ => none
def toPys (h : Hh) : Nat → List D → Option (List PyData)
  | _, [] => some []
  | 0, _ => none
  | n + 1, d :: ds => match toPy h n d, toPys h n ds with
    | some p, some ps => some (p :: ps)
    | _, _ => none
end
abbrev deepF : Nat := 100000
def maxLen : Nat := 1000000

/-! ### operations on values -/
abbrev O2 := D → D → Hh → RE D
def opAdd : O2 := fun x y h => match x, y with
  | .int i, .int j => .ok (.int (i + j)) h
  | .str a, .str b => if a.length + b.length ≤ maxLen then .ok (.str (a ++ b)) h else .no
  | .tup a, .tup b => if a.length + b.length ≤ maxLen then .ok (.tup (a ++ b)) h else .no
  | .ref m, .ref n => match h[m]?, h[n]? with
    | some (.lst a), some (.lst b) => if a.length + b.length ≤ maxLen then .ok (.ref h.length) (h ++ [.lst (a ++ b)]) else .no
    | _, _ => .no
  | _, _ => .no
def opSub : O2 := fun x y h => match x, y with
  | .int i, .int j => .ok (.int (i - j)) h
  | _, _ => .no
def opMul : O2 := fun x y h => match x, y with
  | .int i, .int j => if i.natAbs.log2 + j.natAbs.log2 < 1000000 then .ok (.int (i * j)) h else .no
  | _, _ => .no
def opFdiv : O2 := fun x y h => match x, y with
  | .int i, .int j => if 0 < j ∧ j.natAbs.log2 < 9000 then .ok (.int (i / j)) h else .no
  | _, _ => .no
def opMod : O2 := fun x y h => match x, y with
  | .int i, .int j => if 0 < j then .ok (.int (i % j)) h else .no
  | _, _ => .no
def opPow : O2 := fun x y h => match x, y with
  | .int i, .int j => if 0 ≤ j ∧ j ≤ 1000000 ∧ i.natAbs < 2 ^ 64 then .ok (.int (i ^ j.toNat)) h else .no
  | _, _ => .no
def opShl : O2 := fun x y h => match x, y with
  | .int i, .int j => if 0 ≤ j ∧ j ≤ 1000000 ∧ i.natAbs < 2 ^ 64 then .ok (.int (i * 2 ^ j.toNat)) h else .no
  | _, _ => .no
def opShr : O2 := fun x y h => match x, y with
  | .int i, .int j => if 0 ≤ j then .ok (.int (i / 2 ^ j.toNat)) h else .no
  | _, _ => .no
def opAnd : O2 := fun x y h => match x, y with
  | .int i, .int j => .ok (.int (Builtin.bitAnd i j)) h
  | _, _ => .no
def opNo : O2 := fun _ _ _ => .no
def opB : Operator → O2
  | .Add => opAdd
  | .Sub => opSub
  | .Mult => opMul
  | .FloorDiv => opFdiv
  | .Mod => opMod
  | .Pow => opPow
  | .LShift => opShl
  | .RShift => opShr
  | .BitAnd => opAnd
  | _ => opNo
/-- the class of an instance -/
def clsAt (h : Hh) : D → Option Nat
  | .ref n => match h[n]? with
    | some (.ins c _) => some c
    | _ => none
  | _ => none
def unNeg : D → Hh → RE D := fun x h => match x with
  | .int i => .ok (.int (-i)) h
  | _ => .no

/-! ### comparisons -/
def eqPy (h : Hh) (x y : D) : Option Bool := match toPy h deepF x, toPy h deepF y with
  | some d, some e => if SeqAt.shaped d && SeqAt.shaped e then some (PyData.eqv d e) else none
  | _, _ => none
def cmEq : O2 := fun x y h => match eqPy h x y with
  | some b => .ok (.bl b) h
  | none => .no
def cmNe : O2 := fun x y h => match eqPy h x y with
  | some b => .ok (.bl (!b)) h
  | none => .no
def cmI (p : Int → Int → Bool) : O2 := fun x y h => match x, y with
  | .int i, .int j => .ok (.bl (p i j)) h
  | _, _ => .no
def cmIs : O2 := fun x y h => match y with
  | .non => .ok (.bl (match x with | .non => true | _ => false)) h
  | _ => .no
def cmIsNot : O2 := fun x y h => match y with
  | .non => .ok (.bl (match x with | .non => false | _ => true)) h
  | _ => .no
def flatD : D → Bool
  | .non | .bl _ | .int _ | .str _ => true
  | _ => false
def eqFl : D → D → Bool
  | .non, .non => true
  | .bl a, .bl b => a == b
  | .bl a, .int b => (if a then 1 else 0) == b
  | .int a, .bl b => a == (if b then 1 else 0)
  | .int a, .int b => a == b
  | .str a, .str b => a == b
  | _, _ => false
def inFl (x : D) (xs : List D) : Bool := xs.any fun y => eqFl y x
def valD {κ : Type} [DecidableEq κ] (kvs : List (κ × D)) (k : κ) : Option D := (kvs.find? fun kv => decide (kv.1 = k)).map (·.2)
def keyOfD : D → Option (Sum Int Str)
  | .int i => some (.inl i)
  | .str s => some (.inr s)
  | _ => none
/-- x in y -/
def isIn (x y : D) (h : Hh) : Option Bool := match y with
  | .tup ds => if flatD x && ds.all flatD then some (inFl x ds) else none
  | .ref n => match h[n]? with
    | some (.lst ds) => if flatD x && ds.all flatD then some (inFl x ds) else match toPy h deepF x, toPy h deepF y with
        | some d, some (.list es) => if SeqAt.shaped d && SeqAt.shaped (.list es) then some (es.any fun z => PyData.eqv z d) else none
        | _, _ => none
    | some (.dk kvs) => match keyOfD x with
      | some k => some (valD kvs k).isSome
      | none => none
    | _ => none
  | .str t => match x with
    | .str s => some (!(Builtin.Str.occurrences t s 0 t.length 1).isEmpty)
    | _ => none
  | _ => none
def cmIn : O2 := fun x y h => match isIn x y h with
  | some b => .ok (.bl b) h
  | none => .no
def cmNotIn : O2 := fun x y h => match isIn x y h with
  | some b => .ok (.bl (!b)) h
  | none => .no
def cmp : CmpOp → O2
  | .Eq => cmEq
  | .NotEq => cmNe
  | .Lt => cmI fun i j => decide (i < j)
  | .LtE => cmI fun i j => decide (i ≤ j)
  | .Gt => cmI fun i j => decide (j < i)
  | .GtE => cmI fun i j => decide (j ≤ i)
  | .Is => cmIs
  | .IsNot => cmIsNot
  | .In => cmIn
  | .NotIn => cmNotIn

/-! ### expressions -/
def mVar (i : Nat) : ME := fun δ h => match δ[i]? with
  | some (some d) => .ok d h
  | _ => .no
def mLit (d : D) : ME := fun _ h => .ok d h
def mNil : MEs := fun _ h => .ok [] h
def mCons (m : ME) (ms : MEs) : MEs := fun δ h => (m δ h).bind fun d h1 => (ms δ h1).bind fun ds h2 => .ok (d :: ds) h2
def mTup (ms : MEs) : ME := fun δ h => (ms δ h).bind fun ds h1 => if ds.length ≤ maxLen then .ok (.tup ds) h1 else .no
def mLst (ms : MEs) : ME := fun δ h => (ms δ h).bind fun ds h1 => if ds.length ≤ maxLen then .ok (.ref h1.length) (h1 ++ [.lst ds]) else .no
def mBin (o : O2) (a b : ME) : ME := fun δ h => (a δ h).bind fun x h1 => (b δ h1).bind fun y h2 => o x y h2
def mUn (o : D → Hh → RE D) (a : ME) : ME := fun δ h => (a δ h).bind fun x h1 => o x h1
/-- a op b op2 c -/
def mChain (o o2 : O2) (a b c : ME) : ME := fun δ h => (a δ h).bind fun x h1 => (b δ h1).bind fun y h2 => (o x y h2).bind fun z h3 => match z with
  | .bl true => (c δ h3).bind fun w h4 => o2 y w h4
  | .bl false => .ok (.bl false) h3
  | _ => .no
def mIf (t : MT) (a b : ME) : ME := fun δ h => (t δ h).bind fun k h1 => if k then a δ h1 else b δ h1
def mAnd (a b : ME) : ME := fun δ h => (a δ h).bind fun x h1 => match x with
  | .bl true => b δ h1
  | .bl false => .ok (.bl false) h1
  | _ => .no
def mOr (a b : ME) : ME := fun δ h => (a δ h).bind fun x h1 => match x with
  | .bl true => .ok (.bl true) h1
  | .bl false => b δ h1
  | _ => .no
def mNot (a : ME) : ME := fun δ h => (a δ h).bind fun x h1 => match x with
  | .bl k => .ok (.bl (!k)) h1
  | _ => .no
/-- a call of what is known by name -/
def mCall (f : Sem) (ms : MEs) : ME := fun δ h => (ms δ h).bind fun ds h1 => f ds h1
/-- a def's call: np parameters, the last of them filled up by defaults -/
def semCall (f : Sem) (np : Nat) (dfl : List D) : Sem := fun ds h => if ds.length ≤ np ∧ np - ds.length ≤ dfl.length then f (ds ++ dfl.drop (dfl.length - (np - ds.length))) h else .no
/-- a new instance, then its __init__ -/
def mkIns (c : Nat) (f : Sem) : Sem := fun ds h => (f (.ref h.length :: ds) (h ++ [.ins c []])).bind fun d h1 => match d with
  | .non => .ok (.ref h.length) h1
  | _ => .no

/-! ### tests -/
def tE (m : ME) : MT := fun δ h => (m δ h).bind fun x h1 => match x with
  | .bl k => .ok k h1
  | _ => .no
def tAnd (a b : MT) : MT := fun δ h => (a δ h).bind fun k h1 => if k then b δ h1 else .ok false h1
def tOr (a b : MT) : MT := fun δ h => (a δ h).bind fun k h1 => if k then .ok true h1 else b δ h1
def tNot (a : MT) : MT := fun δ h => (a δ h).bind fun k h1 => .ok (!k) h1

/-! ### attributes -/
/-- a class, as seen by the defs that use it: its number, the attributes of its instances, constants, properties, methods (with the defaults behind the written arguments) -/
structure CI where
  id : Nat
  fields : List Str
  consts : List (Str × D)
  props : List (Str × Sem)
  meths : List (Str × Sem)
  below : List Nat
def attrOf (cs : List CI) (f : Str) : D → Hh → RE D := fun x h => match x with
  | .ref n => match h[n]? with
    | some (.ins c fs) => match cs.find? fun ci => ci.id == c with
      | some ci => if ci.fields.contains f then (match fs.lookup f with
          | some d => .ok d h
          | none => .no) else match ci.props.lookup f with
        | some p => (p [x] h).noex
        | none => match ci.consts.lookup f with
          | some d => if (fs.lookup f).isSome then .no else .ok d h
          | none => .no
      | none => .no
    | _ => .no
  | _ => .no
def mAttr (cs : List CI) (f : Str) (a : ME) : ME := mUn (attrOf cs f) a
/-- o.m(..): the object, then the arguments -/
def methAt (cs : List CI) (c : Nat) (m : Str) : Option Sem := (cs.find? fun ci => ci.id == c).bind fun ci => ci.meths.lookup m
def mMeth (cs : List CI) (m : Str) (a : ME) (ms : MEs) : ME := fun δ h => (a δ h).bind fun x h1 => match x with
  | .ref n => match h1[n]? with
    | some (.ins c fs) => if (fs.lookup m).isSome then .no else match methAt cs c m with
      | some f => (ms δ h1).bind fun ds h2 => f (x :: ds) h2
      | none => .no
    | _ => .no
  | _ => .no

/-- the type of a datum: a built-in one, an own class -/
inductive Tg where
  | b (s : String) | c (n : Nat)
  deriving DecidableEq
def tgOf (h : Hh) : D → Option Tg
  | .non => some (.b "NoneType")
  | .bl _ => some (.b "bool")
  | .int _ => some (.b "int")
  | .str _ => some (.b "str")
  | .tup _ => some (.b "tuple")
  | .cls _ => none
  | .ref n => match h[n]? with
    | some (.lst _) => some (.b "list")
    | some (.rol _) => some (.b "list")
    | some (.dk _) => some (.b "dict")
    | some (.ins c _) => some (.c c)
    | _ => none
def tagB : List Tg := [.b "NoneType", .b "bool", .b "int", .b "str", .b "tuple", .b "list", .b "dict"]
def tagF : List Tg := [.b "NoneType", .b "bool", .b "int", .b "str"]
def tagsOf (cs : List CI) : List Tg := tagB ++ cs.map fun ci => .c ci.id
/-- the right one is of no class below -/
def notBelow (ci : CI) : Tg → Bool
  | .c m => !ci.below.contains m
  | _ => true
def tagIn (cs : List CI) (c : Nat) (h : Hh) (y : D) : Bool := match tgOf h y with
  | some t => decide (t ∈ tagsOf cs) && match cs.find? fun ci => ci.id == c with
    | some ci => notBelow ci t
    | none => false
  | none => false
/-- an instance's call -/
def callI (cs : List CI) (x : D) (ds : List D) (h : Hh) : RE D := match clsAt h x with
  | some c => match methAt cs c "__call__" with
    | some f => f (x :: ds) h
    | none => .no
  | none => .no
def mCallI (cs : List CI) (a : ME) (ms : MEs) : ME := fun δ h => (a δ h).bind fun x h1 => match x with
  | .ref _ => (ms δ h1).bind fun ds h2 => callI cs x ds h2
  | _ => .no
/-- by the left one's own method, else by the built-in rule -/
def opOwn (cs : List CI) (nm : Str) (o : O2) : O2 := fun x y h => match clsAt h x with
  | some c => match methAt cs c nm with
    | some f => if tagIn cs c h y then f [x, y] h else .no
    | none => .no
  | none => o x y h
/-- the same for a + b: the right one is of the same class, or of a built-in type -/
def opArith (cs : List CI) (nm : Str) (o : O2) : O2 := fun x y h => match clsAt h x with
  | some c => match methAt cs c nm with
    | some f => match tgOf h y with
      | some (.c c') => if c' = c then f [x, y] h else .no
      | some (.b t) => if Tg.b t ∈ tagF then f [x, y] h else .no
      | none => .no
    | none => .no
  | none => o x y h
def opNe (cs : List CI) : O2 := fun x y h => match clsAt h x with
  | some c => match methAt cs c "__eq__" with
    | some f => if tagIn cs c h y then (f [x, y] h).bind fun r h1 => match r with
        | .bl k => .ok (.bl (!k)) h1
        | _ => .no
      else .no
    | none => .no
  | none => cmNe x y h
def unOwn (cs : List CI) (nm : Str) (o : D → Hh → RE D) : D → Hh → RE D := fun x h => match clsAt h x with
  | some c => match methAt cs c nm with
    | some f => f [x] h
    | none => .no
  | none => o x h

/-! ### items -/
def ixD (n : Nat) (i : Int) : Option Nat := if 0 ≤ i then (if i < n then some i.toNat else none) else if -(n : Int) ≤ i then some (i + n).toNat else none
def atD {α : Type} (xs : List α) (i : Int) : Option α := (ixD xs.length i).bind fun j => xs[j]?
def lstAt (h : Hh) (n : Nat) : Option (List D) := match h[n]? with
  | some (.lst ds) => some ds
  | some (.rol ds) => some ds
  | _ => none
def opIx : O2 := fun x y h => match x, y with
  | .tup ds, .int i => match atD ds i with
    | some d => .ok d h
    | none => .no
  | .ref n, .int i => match lstAt h n with
    | some ds => match atD ds i with
      | some d => .ok d h
      | none => .no
    | none => .no
  | .str s, .int i => if s.length ≤ maxLen then (match atD s.cps.toList i with
    | some c => .ok (.str ⟨#[c]⟩) h
    | none => .no) else .no
  | _, _ => .no
def opDk : O2 := fun x y h => match x, keyOfD y with
  | .ref n, some k => match h[n]? with
    | some (.dk kvs) => match valD kvs k with
      | some d => .ok d h
      | none => .no
    | _ => .no
  | _, _ => .no
def isDk (h : Hh) : D → Bool
  | .ref n => match h[n]? with
    | some (.dk _) => true
    | _ => false
  | _ => false
def opSub' : O2 := fun x y h => if isDk h x then opDk x y h else opIx x y h

/-! ### statements -/
abbrev MG := D → Dl → Option Dl
abbrev MGs := List D → Dl → Option Dl
def gNm (i : Nat) : MG := fun d δ => some (δ.set i (some d))
def gNil' : MGs := fun ds δ => match ds with
  | [] => some δ
  | _ => none
def gCons' (g : MG) (gs : MGs) : MGs := fun ds δ => match ds with
  | [] => none
  | d :: ds => (g d δ).bind (gs ds)
def gTp (gs : MGs) : MG := fun d δ => match d with
  | .tup ds => gs ds δ
  | _ => none
def sNil : MS := fun δ h => .nx δ h
def sSeq (a b : MS) : MS := fun δ h => match a δ h with
  | .nx δ1 h1 => b δ1 h1
  | r => r
def sExpr (m : ME) : MS := fun δ h => (m δ h).st δ fun _ h1 => .nx δ h1
def sRet (m : ME) : MS := fun δ h => (m δ h).st δ fun d h1 => .rt d h1
def sRetN : MS := fun _ h => .rt .non h
def sAsg (m : ME) (g : MG) : MS := fun δ h => (m δ h).st δ fun d h1 => match g d δ with
  | some δ1 => .nx δ1 h1
  | none => .no
/-- a, b = x, y with plain local names -/
def sPar (is : List Nat) (ms : MEs) : MS := fun δ h => (ms δ h).st δ fun ds h1 => if ds.length = is.length then .nx ((is.zip ds).foldl (fun δ p => δ.set p.1 (some p.2)) δ) h1 else .no
def putD (f : Str) (v : D) : List (Str × D) → List (Str × D)
  | [] => [(f, v)]
  | (g, x) :: r => if g = f then (g, v) :: r else (g, x) :: putD f v r
/-- a.f = m -/
def sFld (cs : List CI) (a : ME) (f : Str) (m : ME) : MS := fun δ h => (m δ h).st δ fun d h1 => (a δ h1).st δ fun x h2 => match x with
  | .ref n => match h2[n]? with
    | some (.ins c fs) => match cs.find? fun ci => ci.id == c with
      | some ci => if ci.fields.contains f && decide (fs.length < 900) then .nx δ (h2.set n (.ins c (putD f d fs))) else .no
      | none => .no
    | _ => .no
  | _ => .no
def sIf (t : MT) (a b : MS) : MS := fun δ h => (t δ h).st δ fun k h1 => if k then a δ h1 else b δ h1
/-- a loop, n turns at most -/
def wh (t : MT) (b : MS) : Nat → MS
  | 0 => fun _ _ => .no
  | n + 1 => fun δ h => (t δ h).st δ fun k h1 => if k then (match b δ h1 with
      | .nx δ2 h2 => wh t b n δ2 h2
      | .ct δ2 h2 => wh t b n δ2 h2
      | .bk δ2 h2 => .nx δ2 h2
      | r => r) else .nx δ h1
def sWhile (μ : Dl → Hh → Nat) (t : MT) (b : MS) : MS := fun δ h => wh t b (μ δ h + 1) δ h
/-- what is walked: given items, or a list as it stands at each turn -/
inductive It where
  | fix (ds : List D) | ls (n : Nat)
abbrev MI := Dl → Hh → RE It
def iList (m : ME) : MI := fun δ h => (m δ h).bind fun x h1 => match x with
  | .ref n => match lstAt h1 n with
    | some _ => .ok (.ls n) h1
    | none => .no
  | .tup ds => .ok (.fix ds) h1
  | _ => .no
def rangeL (lo : Int) (n : Nat) : List D := (List.range n).map fun i => D.int (lo + (i : Nat))
def iRange1 (m : ME) : MI := fun δ h => (m δ h).bind fun x h1 => match x with
  | .int j => if -(2 ^ 62) ≤ j ∧ j < 2 ^ 62 then .ok (.fix (rangeL 0 j.toNat)) h1 else .no
  | _ => .no
def iRange2 (a b : ME) : MI := fun δ h => (a δ h).bind fun x h1 => (b δ h1).bind fun y h2 => match x, y with
  | .int i, .int j => if -(2 ^ 62) ≤ i ∧ i < 2 ^ 62 ∧ -(2 ^ 62) ≤ j ∧ j < 2 ^ 62 then .ok (.fix (rangeL i (j - i).toNat)) h2 else .no
  | _, _ => .no
def forFix (g : MG) (b : MS) : List D → MS
  | [] => fun δ h => .nx δ h
  | d :: ds => fun δ h => match g d δ with
    | some δ1 => (match b δ1 h with
      | .nx δ2 h2 => forFix g b ds δ2 h2
      | .ct δ2 h2 => forFix g b ds δ2 h2
      | .bk δ2 h2 => .nx δ2 h2
      | r => r)
    | none => .no
/-- turn i of the list at n; k turns at most -/
def forLs (g : MG) (b : MS) (n : Nat) : Nat → Nat → MS
  | 0, _ => fun _ _ => .no
  | k + 1, i => fun δ h => match lstAt h n with
    | some ds => (match ds[i]? with
      | none => .nx δ h
      | some d => match g d δ with
        | some δ1 => (match b δ1 h with
          | .nx δ2 h2 => forLs g b n k (i + 1) δ2 h2
          | .ct δ2 h2 => forLs g b n k (i + 1) δ2 h2
          | .bk δ2 h2 => .nx δ2 h2
          | r => r)
        | none => .no)
    | none => .no
def lenAt (h : Hh) (n : Nat) : Nat := match lstAt h n with
  | some ds => ds.length
  | none => 0
def sFor (it : MI) (g : MG) (b : MS) : MS := fun δ h => (it δ h).st δ fun J h1 => match J with
  | .fix ds => forFix g b ds δ h1
  | .ls n => forLs g b n (lenAt h1 n + 1) 0 δ h1
/-- raise C(..) of an own class without attributes -/
def sRaise (c : Nat) (m : MEs) : MS := fun δ h => (m δ h).st δ fun ds h1 => if ds.length ≤ maxLen then .ex ⟨c, []⟩ δ h1 else .no
/-- a try whose body lets nothing out -/
def sTry0 (b : MS) : MS := fun δ h => match b δ h with
  | .ex _ _ _ => .no
  | r => r

/-! ### a def -/
def startD (n : Nat) (ds : List D) : Dl := ds.map some ++ List.replicate (n - ds.length) none
def mkDef (n p : Nat) (b : MS) : Sem := fun ds h => if ds.length = p then (match b (startD n ds) h with
  | .nx _ h1 => .ok .non h1
  | .rt d h1 => .ok d h1
  | .ex x _ h1 => .ex x h1
  | _ => .no) else .no
/-! ### list comprehensions: the new list stands at r -/
def wipeD (δ : Dl) : List Nat → Dl
  | [] => δ
  | v :: vs => (wipeD δ vs).set v none
def app1 (r : Nat) (d : D) (h : Hh) : Option Hh := match h[r]? with
  | some (.lst ds) => if ds.length < maxLen then some (h.set r (.lst (ds ++ [d]))) else none
  | _ => none
def lcPut (r : Nat) (x : D) (h : Hh) : RE Unit := match app1 r x h with
  | some h3 => .ok () h3
  | none => .no
def lcElt (e : ME) (r : Nat) (δ : Dl) (k : Bool) (h : Hh) : RE Unit := if k then (e δ h).bind (lcPut r) else .ok () h
def lcTurn (g : MG) (t : MT) (e : ME) (r : Nat) (d : D) (δ : Dl) (h : Hh) : RE Unit := match g d δ with
  | some δ1 => (t δ1 h).bind (lcElt e r δ1)
  | none => .no
def RE.then (r : RE Unit) (P : Hh → Prop) : Prop := match r with
  | .ok _ h => P h
  | _ => False
def lcFix (g : MG) (t : MT) (e : ME) (r : Nat) : List D → Dl → Hh → RE D
  | [], _, h => .ok (.ref r) h
  | d :: ds, δ, h => match lcTurn g t e r d δ h with
    | .ok _ h1 => lcFix g t e r ds δ h1
    | _ => .no
def lcLs (g : MG) (t : MT) (e : ME) (r n : Nat) : Nat → Nat → Dl → Hh → RE D
  | 0, _, _, _ => .no
  | k + 1, i, δ, h => match lstAt h n with
    | some ds => (match ds[i]? with
      | none => .ok (.ref r) h
      | some d => match lcTurn g t e r d δ h with
        | .ok _ h1 => lcLs g t e r n k (i + 1) δ h1
        | _ => .no)
    | none => .no
/-- [e for g in it if t]; vs: the block's own names -/
def mComp (it : MI) (g : MG) (t : MT) (e : ME) (vs : List Nat) : ME := fun δ h => (it δ h).bind fun J h1 => match J with
  | .fix ds => lcFix g t e h1.length ds (wipeD δ vs) (h1 ++ [.lst []])
  | .ls n => lcLs g t e h1.length n (lenAt h1 n + 1) 0 (wipeD δ vs) (h1 ++ [.lst []])
def tTrue : MT := fun _ h => .ok true h

/-! ### built-in functions -/
def bAbs : Sem := fun ds h => match ds with
  | [.int i] => .ok (.int (if i < 0 then -i else i)) h
  | _ => .no
def bLen : Sem := fun ds h => match ds with
  | [.str s] => if s.length ≤ maxLen then .ok (.int (s.length : Nat)) h else .no
  | [.tup xs] => .ok (.int (xs.length : Nat)) h
  | [.ref n] => match h[n]? with
    | some (.lst xs) => .ok (.int (xs.length : Nat)) h
    | some (.rol xs) => .ok (.int (xs.length : Nat)) h
    | _ => .no
  | _ => .no
def boolsOf : List D → Option (List Bool)
  | [] => some []
  | .bl b :: ds => (boolsOf ds).map (b :: ·)
  | _ => none
def intsOf : List D → Option (List Int)
  | [] => some []
  | .int b :: ds => (intsOf ds).map (b :: ·)
  | _ => none
def bAny : Sem := fun ds h => match ds with
  | [.ref n] => match (lstAt h n).bind boolsOf with
    | some bs => .ok (.bl (bs.any id)) h
    | none => .no
  | _ => .no
def bAll : Sem := fun ds h => match ds with
  | [.ref n] => match (lstAt h n).bind boolsOf with
    | some bs => .ok (.bl (bs.all id)) h
    | none => .no
  | _ => .no
def bSum : Sem := fun ds h => match ds with
  | [.ref n] => match (lstAt h n).bind intsOf with
    | some is => .ok (.int is.sum) h
    | none => .no
  | _ => .no
def bList : Sem := fun ds h => match ds with
  | [.tup xs] => .ok (.ref h.length) (h ++ [.lst xs])
  | [.ref n] => match lstAt h n with
    | some xs => .ok (.ref h.length) (h ++ [.lst xs])
    | none => .no
  | _ => .no
def bTuple : Sem := fun ds h => match ds with
  | [.tup xs] => .ok (.tup xs) h
  | [.ref n] => match lstAt h n with
    | some xs => .ok (.tup xs) h
    | none => .no
  | _ => .no
/-- t is asked whether it is c; sub: the own classes, each with the ones above it -/
def isSubT (sub : List (Nat × Nat)) (t c : Tg) : Bool := decide (t = c) || match t, c with
  | .b x, .b y => x == "bool" && y == "int"
  | .c m, .c n => sub.contains (m, n)
  | _, _ => false
def opIs (sub : List (Nat × Nat)) (tgs cs : List Tg) : D → Hh → RE D := fun x h => match tgOf h x with
  | some t => if t ∈ tgs then .ok (.bl (cs.any fun c => isSubT sub t c)) h else .no
  | none => .no
end Mi

/-! Mi, part B: how data stand in the abstract heap; the parts of programs by HandS's judgements. -/
namespace Mi
open PySem PySem.Spec PyProof.Rows L2

section
variable (T : Nat → Addr) (K : PySem.W.Frag)
mutual
/-- the value v, in the abstract heap H, is the datum d; ρ: where the abstract addresses are -/
inductive RepV (ρ : List Addr) (H : Hp) : D → V → Prop
  | non : RepV ρ H .non .non
  | bl (b : Bool) : RepV ρ H (.bl b) (.bl b)
  | int (i : Int) : RepV ρ H (.int i) (.int i)
  | str (s : Str) : RepV ρ H (.str s) (.str s)
  | tup {ds : List D} {xs : List V} {a : Addr} : SqT K H a xs → RepVs ρ H ds xs → RepV ρ H (.tup ds) (.ref a)
  | ref {n : Nat} {a : Addr} : ρ[n]? = some a → RepV ρ H (.ref n) (.ref a)
  | cls (c : Nat) : RepV ρ H (.cls c) (.ref (T c))
inductive RepVs (ρ : List Addr) (H : Hp) : List D → List V → Prop
  | nil : RepVs ρ H [] []
  | cons {d : D} {v : V} {ds : List D} {vs : List V} : RepV ρ H d v → RepVs ρ H ds vs → RepVs ρ H (d :: ds) (v :: vs)
end
/-- the later state knows what the earlier one knew -/
def Grow (ρ : List Addr) (H : Hp) (ρ' : List Addr) (H' : Hp) : Prop := (∃ t, ρ' = ρ ++ t) ∧ ∀ a xs, Rd H a (.tup xs) → Rd H' a (.tup xs)
end
theorem Grow.refl {ρ : List Addr} {H : Hp} : Grow ρ H ρ H := ⟨⟨[], by simp⟩, fun _ _ h => h⟩
theorem Grow.trans {ρ ρ1 ρ2 : List Addr} {H H1 H2 : Hp} (a : Grow ρ H ρ1 H1) (b : Grow ρ1 H1 ρ2 H2) : Grow ρ H ρ2 H2 := by
  obtain ⟨⟨t, rfl⟩, h1⟩ := a
  obtain ⟨⟨t', rfl⟩, h2⟩ := b
  exact ⟨⟨t ++ t', by simp⟩, fun a xs h => h2 a xs (h1 a xs h)⟩
theorem Grow.at_ {ρ ρ1 : List Addr} {H H1 : Hp} (g : Grow ρ H ρ1 H1) {n : Nat} {a : Addr} (h : ρ[n]? = some a) : ρ1[n]? = some a := by
  obtain ⟨⟨t, rfl⟩, _⟩ := g
  rw [List.getElem?_append_left (List.getElem?_eq_some_iff.mp h).1]
  exact h
theorem Grow.tup {K : PySem.W.Frag} {ρ ρ1 : List Addr} {H H1 : Hp} (g : Grow ρ H ρ1 H1) {a : Addr} {xs : List V} (h : SqT K H a xs) : SqT K H1 a xs := by
  rcases h with h | h
  · exact .inl (g.2 a xs h)
  · exact .inr h

section
variable {T : Nat → Addr} {K : PySem.W.Frag} {ρ ρ' : List Addr} {H H' : Hp}
mutual
theorem RepV.mono (g : Grow ρ H ρ' H') : ∀ {d : D} {v : V}, RepV T K ρ H d v → RepV T K ρ' H' d v
  | _, _, .non => .non
  | _, _, .bl b => .bl b
  | _, _, .int i => .int i
  | _, _, .str s => .str s
  | _, _, .tup h r => .tup (g.tup h) (RepVs.mono g r)
  | _, _, .ref h => .ref (g.at_ h)
  | _, _, .cls c => .cls c
theorem RepVs.mono (g : Grow ρ H ρ' H') : ∀ {ds : List D} {vs : List V}, RepVs T K ρ H ds vs → RepVs T K ρ' H' ds vs
  | _, _, .nil => .nil
  | _, _, .cons h r => .cons (RepV.mono g h) (RepVs.mono g r)
end
theorem RepVs.length : ∀ {ds : List D} {vs : List V}, RepVs T K ρ H ds vs → ds.length = vs.length
  | _, _, .nil => rfl
  | _, _, .cons _ r => congrArg Nat.succ (RepVs.length r)
theorem RepVs.append : ∀ {ds es : List D} {vs ws : List V}, RepVs T K ρ H ds vs → RepVs T K ρ H es ws → RepVs T K ρ H (ds ++ es) (vs ++ ws)
  | _, _, _, _, .nil, r => r
  | _, _, _, _, .cons h t, r => .cons h (RepVs.append t r)
theorem RepVs.get : ∀ {ds : List D} {vs : List V} {i : Nat} {d : D}, RepVs T K ρ H ds vs → ds[i]? = some d → ∃ v, vs[i]? = some v ∧ RepV T K ρ H d v
  | _, _, _, _, .nil, e => by simp at e
  | _, _, 0, _, .cons h _, e => by simp at e; subst e; exact ⟨_, rfl, h⟩
  | _, _, i + 1, d, .cons _ t, e => by
    obtain ⟨v, h1, h2⟩ := RepVs.get (i := i) (d := d) t (by simpa using e)
    exact ⟨v, by simpa using h1, h2⟩
theorem RepVs.get' : ∀ {ds : List D} {vs : List V} {i : Nat} {v : V}, RepVs T K ρ H ds vs → vs[i]? = some v → ∃ d, ds[i]? = some d ∧ RepV T K ρ H d v
  | _, _, _, _, .nil, e => by simp at e
  | _, _, 0, _, .cons h _, e => by simp at e; subst e; exact ⟨_, rfl, h⟩
  | _, _, i + 1, v, .cons _ t, e => by
    obtain ⟨d, h1, h2⟩ := RepVs.get' (i := i) (v := v) t (by simpa using e)
    exact ⟨d, by simpa using h1, h2⟩
theorem RepVs.take : ∀ {ds : List D} {vs : List V} (n : Nat), RepVs T K ρ H ds vs → RepVs T K ρ H (ds.take n) (vs.take n)
  | _, _, 0, _ => .nil
  | _, _, _ + 1, .nil => .nil
  | _, _, n + 1, .cons h t => .cons h (RepVs.take n t)
theorem RepVs.drop : ∀ {ds : List D} {vs : List V} (n : Nat), RepVs T K ρ H ds vs → RepVs T K ρ H (ds.drop n) (vs.drop n)
  | _, _, 0, r => r
  | _, _, _ + 1, .nil => .nil
  | _, _, n + 1, .cons _ t => RepVs.drop n t
theorem RepVs.set {d : D} {v : V} (h : RepV T K ρ H d v) : ∀ {ds : List D} {vs : List V} (n : Nat), RepVs T K ρ H ds vs → RepVs T K ρ H (ds.set n d) (vs.set n v)
  | _, _, _, .nil => .nil
  | _, _, 0, .cons _ t => .cons h t
  | _, _, n + 1, .cons q t => .cons q (RepVs.set h n t)
end

section
variable (T : Nat → Addr) (K : PySem.W.Frag)
/-- the attributes -/
inductive RepF (ρ : List Addr) (H : Hp) : List (Str × D) → List (Str × V) → Prop
  | nil : RepF ρ H [] []
  | cons {f : Str} {d : D} {v : V} {fs : List (Str × D)} {gs : List (Str × V)} : RepV T K ρ H d v → RepF ρ H fs gs → RepF ρ H ((f, d) :: fs) ((f, v) :: gs)
inductive RepK (ρ : List Addr) (H : Hp) : List (Key × D) → List (Key × V) → Prop
  | nil : RepK ρ H [] []
  | cons {f : Key} {d : D} {v : V} {fs : List (Key × D)} {gs : List (Key × V)} : RepV T K ρ H d v → RepK ρ H fs gs → RepK ρ H ((f, d) :: fs) ((f, v) :: gs)
/-- a list that stands in the written part -/
def KLst (K : PySem.W.Frag) (a : Addr) (xs : List V) : Prop := ∃ (o : Obj) (its : Array Value) (n : Nat), K.lookup a = some o ∧ o.cls = .type "list" ∧ o.dict = none ∧ o.data = .seq its n ∧ its.size ≤ sizeLine ∧ Vals xs its.toList
def RepO (ρ : List Addr) (H : Hp) (a : Addr) : AO → Prop
  | .lst ds => ∃ xs, H a = some (.lst xs) ∧ RepVs T K ρ H ds xs
  | .rol ds => ∃ xs, ((∃ ob, H a = some (.frz ob (.lst xs))) ∨ KLst K a xs) ∧ RepVs T K ρ H ds xs
  | .dk kvs => ∃ kx, H a = some (.dK kx) ∧ RepK T K ρ H kvs kx
  | .ins c fs => ∃ dx gs, H a = some (.ins (T c) dx gs) ∧ RepF T K ρ H fs gs
  | .oth => H a ≠ none
structure Rel (ρ : List Addr) (h : Hh) (H : Hp) : Prop where
  nd : ∀ (m n : Nat) (a : Addr), ρ[m]? = some a → ρ[n]? = some a → m = n ∨ (∃ ds, h[m]? = some (.rol ds)) ∨ ∃ ds, h[n]? = some (.rol ds)
  len : ρ.length = h.length
  ob : ∀ (n : Nat) (o : AO), h[n]? = some o → ∃ a, ρ[n]? = some a ∧ RepO T K ρ H a o
def RepS (ρ : List Addr) (H : Hp) (δ : Dl) (σ : L2.St) : Prop := δ.length = σ.length ∧ ∀ (i : Nat) (d : D), δ[i]? = some (some d) → ∃ v, σ[i]? = some (some v) ∧ RepV T K ρ H d v
end
section
variable {T : Nat → Addr} {K : PySem.W.Frag} {ρ ρ' : List Addr} {h : Hh} {H H' : Hp} {δ : Dl} {σ : L2.St}
theorem RepF.mono (g : Grow ρ H ρ' H') : ∀ {fs : List (Str × D)} {gs : List (Str × V)}, RepF T K ρ H fs gs → RepF T K ρ' H' fs gs
  | _, _, .nil => .nil
  | _, _, .cons q r => .cons (q.mono g) (RepF.mono g r)
theorem RepK.mono (g : Grow ρ H ρ' H') : ∀ {fs : List (Key × D)} {gs : List (Key × V)}, RepK T K ρ H fs gs → RepK T K ρ' H' fs gs
  | _, _, .nil => .nil
  | _, _, .cons q r => .cons (q.mono g) (RepK.mono g r)
theorem RepS.mono (g : Grow ρ H ρ' H') (r : RepS T K ρ H δ σ) : RepS T K ρ' H' δ σ := ⟨r.1, fun i d e => by
  obtain ⟨v, e1, e2⟩ := r.2 i d e
  exact ⟨v, e1, e2.mono g⟩⟩
theorem RepO.some_ {a : Addr} {o : AO} (r : RepO T K ρ H a o) (nr : ∀ ds, o ≠ .rol ds) : H a ≠ none := by
  intro e
  cases o with
  | lst ds => obtain ⟨xs, q, _⟩ := r; rw [e] at q; cases q
  | rol ds => exact absurd rfl (nr ds)
  | dk kvs => obtain ⟨xs, q, _⟩ := r; rw [e] at q; cases q
  | ins c fs => obtain ⟨_, _, q, _⟩ := r; rw [e] at q; cases q
  | oth => exact r e
/-- an object that still stands, in a later state -/
theorem RepO.mono (g : Grow ρ H ρ' H') {a : Addr} {o : AO} (r : RepO T K ρ H a o) (e : H' a = H a) : RepO T K ρ' H' a o := by
  cases o with
  | lst ds => obtain ⟨xs, q, r⟩ := r; exact ⟨xs, by rw [e]; exact q, r.mono g⟩
  | rol ds =>
    obtain ⟨xs, q, r⟩ := r
    refine ⟨xs, ?_, r.mono g⟩
    rcases q with ⟨o, q⟩ | q
    · exact .inl ⟨o, by rw [e]; exact q⟩
    · exact .inr q
  | dk kvs => obtain ⟨xs, q, r⟩ := r; exact ⟨xs, by rw [e]; exact q, r.mono g⟩
  | ins c fs => obtain ⟨x, xs, q, r⟩ := r; exact ⟨x, xs, by rw [e]; exact q, r.mono g⟩
  | oth => show H' a ≠ none; rw [e]; exact r

theorem grow_new {p : Addr} {o : HO} (hp : H p = none) : Grow ρ H ρ (upd H p o) := ⟨⟨[], by simp⟩, fun a xs q => by
  have ne : a ≠ p := by
    rintro rfl
    rcases q with q | ⟨o, q⟩ <;> (rw [hp] at q; cases q)
  rcases q with q | ⟨o, q⟩
  · exact .inl (by rw [upd_ne ne]; exact q)
  · exact .inr ⟨o, by rw [upd_ne ne]; exact q⟩⟩
/-- .. where something was laid or changed that is no frozen list -/
theorem RepO.upd_ {a p : Addr} {o : AO} {u : HO} (g : Grow ρ H ρ' (upd H p u)) (r : RepO T K ρ H a o) (hp : H p = none ∨ ((∀ ds, o = .rol ds → ∀ ob xs, H p ≠ some (.frz ob xs)) ∧ (a = p → ∃ ds, o = .rol ds))) : RepO T K ρ' (upd H p u) a o := by
  by_cases z : a = p
  · subst z
    have hr : ∃ ds, o = .rol ds := by
      rcases hp with hp | hp
      · by_cases q : ∃ ds, o = .rol ds
        · exact q
        · exact absurd hp (r.some_ fun ds e => q ⟨ds, e⟩)
      · exact hp.2 rfl
    obtain ⟨ds, rfl⟩ := hr
    obtain ⟨xs, q, r⟩ := r
    refine ⟨xs, ?_, r.mono g⟩
    rcases q with ⟨o, q⟩ | q
    · exfalso
      rcases hp with hp | hp
      · rw [hp] at q; cases q
      · exact hp.1 ds rfl _ _ q
    · exact .inr q
  · exact r.mono g (upd_ne z)
theorem grow_cons {p : Addr} {ρ : List Addr} {H : Hp} : Grow ρ H (ρ ++ [p]) H := ⟨⟨[p], rfl⟩, fun _ _ q => q⟩
/-- an object beside what is told -/
theorem Rel.beside (R : Rel T K ρ h H) {p : Addr} {o : HO} (hp : H p = none) : Rel T K ρ h (upd H p o) := ⟨R.nd, R.len, fun n u e => by
  obtain ⟨a, ea, q⟩ := R.ob n u e
  exact ⟨a, ea, q.upd_ (grow_new hp) (.inl hp)⟩⟩
/-- a new object -/
theorem Rel.new (R : Rel T K ρ h H) {p : Addr} {o : HO} {u : AO} (hp : H p = none) (hu : RepO T K (ρ ++ [p]) (upd H p o) p u) : Rel T K (ρ ++ [p]) (h ++ [u]) (upd H p o) ∧ Grow ρ H (ρ ++ [p]) (upd H p o) := by
  have g : Grow ρ H (ρ ++ [p]) (upd H p o) := (grow_new hp).trans grow_cons
  refine ⟨⟨?_, by simp [R.len], fun n v e => ?_⟩, g⟩
  · intro m n a hm hn
    have key : ∀ i : Nat, (ρ ++ [p])[i]? = some a → (i < h.length ∧ ρ[i]? = some a ∧ (h ++ [u])[i]? = h[i]?) ∨ (i = h.length ∧ a = p) := fun i hi => by
      by_cases hl : i < h.length
      · exact .inl ⟨hl, by rw [List.getElem?_append_left (by rw [R.len]; exact hl)] at hi; exact hi, List.getElem?_append_left hl⟩
      · have := (List.getElem?_eq_some_iff.mp hi).1
        have hi2 : i = h.length := by simp [R.len] at this; omega
        subst hi2
        rw [← R.len] at hi
        simp at hi
        exact .inr ⟨rfl, hi.symm⟩
    have old : ∀ i, i < h.length → ρ[i]? = some p → ∃ ds, h[i]? = some (.rol ds) := fun i hl hi => by
      obtain ⟨b, eb, q⟩ := R.ob i h[i] (List.getElem?_eq_getElem hl)
      rw [hi] at eb; cases eb
      by_cases z : ∃ ds, h[i] = .rol ds
      · obtain ⟨ds, z⟩ := z
        exact ⟨ds, by rw [List.getElem?_eq_getElem hl, z]⟩
      · exact absurd hp (q.some_ fun ds e => z ⟨ds, e⟩)
    rcases key m hm with ⟨l1, m1, m2⟩ | ⟨rfl, rfl⟩
    · rcases key n hn with ⟨l2, n1, n2⟩ | ⟨rfl, rfl⟩
      · rw [m2, n2]; exact R.nd m n a m1 n1
      · rw [m2]; exact .inr (.inl (old m l1 m1))
    · rcases key n hn with ⟨l2, n1, n2⟩ | ⟨rfl, _⟩
      · rw [n2]; exact .inr (.inr (old n l2 n1))
      · exact .inl rfl
  · by_cases hn : n < h.length
    · rw [List.getElem?_append_left hn] at e
      obtain ⟨a, ea, q⟩ := R.ob n v e
      exact ⟨a, g.at_ ea, (q.upd_ (grow_new hp) (.inl hp)).mono grow_cons rfl⟩
    · have hn2 : n = h.length := by
        have := (List.getElem?_eq_some_iff.mp e).1
        simp at this; omega
      subst hn2
      simp at e
      subst e
      exact ⟨p, by rw [← R.len]; simp, hu⟩
/-- an object is changed -/
theorem Rel.put (R : Rel T K ρ h H) {n : Nat} {a : Addr} {o o' : HO} {u : AO} (ha : ρ[n]? = some a) (ho : H a = some o) (nt : ∀ xs, o ≠ .tup xs) (nf : ∀ ob xs, o ≠ .frz ob xs) (nr : ∀ ds, h[n]? ≠ some (.rol ds)) (hu : ∀ H', Grow ρ H ρ H' → H' a = some o' → RepO T K ρ H' a u) :
    Rel T K ρ (h.set n u) (upd H a o') ∧ Grow ρ H ρ (upd H a o') := by
  have g : Grow ρ H ρ (upd H a o') := ⟨⟨[], by simp⟩, fun b xs q => by
    have ne : b ≠ a := by
      rintro rfl
      rcases q with q | ⟨ob, q⟩
      · rw [ho] at q; cases q; exact nt _ rfl
      · rw [ho] at q; cases q; exact nf _ _ rfl
    rcases q with q | ⟨ob, q⟩
    · exact .inl (by rw [upd_ne ne]; exact q)
    · exact .inr ⟨ob, by rw [upd_ne ne]; exact q⟩⟩
  refine ⟨⟨fun i j b hi hj => ?_, by simp [R.len], fun m v e => ?_⟩, g⟩
  · have st : ∀ (i : Nat) (ds : List D), h[i]? = some (AO.rol ds) → (h.set n u)[i]? = some (AO.rol ds) := fun i ds e => by
      rw [List.getElem?_set_ne (fun z => nr ds (by rw [z]; exact e))]
      exact e
    rcases R.nd i j b hi hj with e | ⟨ds, e⟩ | ⟨ds, e⟩
    · exact .inl e
    · exact .inr (.inl ⟨ds, st i ds e⟩)
    · exact .inr (.inr ⟨ds, st j ds e⟩)
  by_cases hm : m = n
  · subst hm
    have hlt : m < h.length := by rw [← R.len]; exact (List.getElem?_eq_some_iff.mp ha).1
    rw [List.getElem?_set_self hlt] at e
    cases e
    exact ⟨a, ha, hu _ g upd_same⟩
  · rw [List.getElem?_set_ne (Ne.symm hm)] at e
    obtain ⟨b, eb, q⟩ := R.ob m v e
    refine ⟨b, eb, q.upd_ g (.inr ⟨fun ds _ ob xs z => ?_, fun z => ?_⟩)⟩
    · rw [ho] at z; exact nf ob xs (Option.some.inj z)
    · subst z
      rcases R.nd m n b eb ha with e' | ⟨ds, e'⟩ | ⟨ds, e'⟩
      · exact absurd e' hm
      · rw [e] at e'; exact ⟨ds, Option.some.inj e'⟩
      · exact absurd e' (nr ds)
end

/-! ### readings -/
section
variable (T : Nat → Addr) (K : PySem.W.Frag)
/-- how an exception stands -/
def RepX (ρ : List Addr) (H : Hp) (x : Xc) (cls : Value) (dd : Option Addr) : Prop := cls = .ref (T x.c) ∧ (match dd with
  | none => x.fs = []
  | some d => ∃ gs, H d = some (.xd gs) ∧ RepF T K ρ H x.fs gs)
def At {α β : Type} (Rp : List Addr → Hp → α → β → Prop) (W : WX) (Q : β → Hp → Prop) (σ : L2.St) (ρ : List Addr) (H : Hp) : RE α → Prop
  | .ok a h' => ∀ ρ' H' b, Grow ρ H ρ' H' → Rel T K ρ' h' H' → Rp ρ' H' a b → Q b H'
  | .ex x h' => ∀ ρ' H' cls dd, Grow ρ H ρ' H' → Rel T K ρ' h' H' → RepX T K ρ' H' x cls dd → W cls dd σ H'
  | .no => False
def tM (W : WX) (m : ME) : TE := fun σ H Q => ∃ ρ h δ, Rel T K ρ h H ∧ RepS T K ρ H δ σ ∧ At T K (RepV T K) W Q σ ρ H (m δ h)
def tMT (W : WX) (m : MT) : TT := fun σ H Q => ∃ ρ h δ, Rel T K ρ h H ∧ RepS T K ρ H δ σ ∧ At T K (fun _ _ (a b : Bool) => a = b) W Q σ ρ H (m δ h)
def tMs (W : WX) (m : MEs) : TA := fun σ H Q => ∃ ρ h δ, Rel T K ρ h H ∧ RepS T K ρ H δ σ ∧ At T K (RepVs T K) W Q σ ρ H (m δ h)
def AtS (W : WX) (Dn : Ends) (ρ : List Addr) (H : Hp) : RS → Prop
  | .nx δ h' => ∀ ρ' H' σ', Grow ρ H ρ' H' → Rel T K ρ' h' H' → RepS T K ρ' H' δ σ' → Dn.nx σ' H'
  | .bk δ h' => ∀ ρ' H' σ', Grow ρ H ρ' H' → Rel T K ρ' h' H' → RepS T K ρ' H' δ σ' → Dn.bk σ' H'
  | .ct δ h' => ∀ ρ' H' σ', Grow ρ H ρ' H' → Rel T K ρ' h' H' → RepS T K ρ' H' δ σ' → Dn.ct σ' H'
  | .rt d h' => ∀ ρ' H' v, Grow ρ H ρ' H' → Rel T K ρ' h' H' → RepV T K ρ' H' d v → Dn.rt v H'
  | .ex x δ h' => ∀ ρ' H' σ' cls dd, Grow ρ H ρ' H' → Rel T K ρ' h' H' → RepS T K ρ' H' δ σ' → RepX T K ρ' H' x cls dd → W cls dd σ' H'
  | .no => False
def tMS (W : WX) (m : MS) : TS := fun Dn σ H => ∃ ρ h δ, Rel T K ρ h H ∧ RepS T K ρ H δ σ ∧ AtS T K W Dn ρ H (m δ h)
end
section
variable {T : Nat → Addr} {K : PySem.W.Frag} {ρ ρ1 : List Addr} {h : Hh} {H H1 : Hp} {δ : Dl} {σ : L2.St} {W : WX}
theorem At.grow {α β : Type} {Rp : List Addr → Hp → α → β → Prop} {Q : β → Hp → Prop} {r : RE α} (g : Grow ρ H ρ1 H1) (a : At T K Rp W Q σ ρ H r) : At T K Rp W Q σ ρ1 H1 r := by
  cases r with
  | ok x h' => exact fun ρ' H' b g' => a ρ' H' b (g.trans g')
  | ex x h' => exact fun ρ' H' c d g' => a ρ' H' c d (g.trans g')
  | no => exact a
theorem AtS.grow {Dn : Ends} {r : RS} (g : Grow ρ H ρ1 H1) (a : AtS T K W Dn ρ H r) : AtS T K W Dn ρ1 H1 r := by
  cases r with
  | nx δ h' => exact fun ρ' H' b g' => a ρ' H' b (g.trans g')
  | bk δ h' => exact fun ρ' H' b g' => a ρ' H' b (g.trans g')
  | ct δ h' => exact fun ρ' H' b g' => a ρ' H' b (g.trans g')
  | rt x h' => exact fun ρ' H' b g' => a ρ' H' b (g.trans g')
  | ex x δ h' => exact fun ρ' H' s c d g' => a ρ' H' s c d (g.trans g')
  | no => exact a
/-- the first part of two: what is wanted of it -/
theorem At.bind {α β γ ζ : Type} {Rp : List Addr → Hp → α → β → Prop} {Rq : List Addr → Hp → γ → ζ → Prop} {Q : ζ → Hp → Prop} {Q1 : β → Hp → Prop} {r : RE α} {f : α → Hh → RE γ}
    (a : At T K Rq W Q σ ρ H (r.bind f)) (k : ∀ x h' ρ' H' b, r = .ok x h' → Grow ρ H ρ' H' → Rel T K ρ' h' H' → Rp ρ' H' x b → At T K Rq W Q σ ρ' H' (f x h') → Q1 b H') : At T K Rp W Q1 σ ρ H r := by
  cases r with
  | ok x h' => exact fun ρ' H' b g R p => k x h' ρ' H' b rfl g R p (At.grow g a)
  | ex x h' => exact a
  | no => exact a
theorem At.st {α β : Type} {Rp : List Addr → Hp → α → β → Prop} {Dn : Ends} {Q1 : β → Hp → Prop} {r : RE α} {f : α → Hh → RS} (S : RepS T K ρ H δ σ)
    (a : AtS T K W Dn ρ H (r.st δ f)) (k : ∀ x h' ρ' H' b, r = .ok x h' → Grow ρ H ρ' H' → Rel T K ρ' h' H' → Rp ρ' H' x b → AtS T K W Dn ρ' H' (f x h') → Q1 b H') : At T K Rp W Q1 σ ρ H r := by
  cases r with
  | ok x h' => exact fun ρ' H' b g R p => k x h' ρ' H' b rfl g R p (AtS.grow g a)
  | ex x h' => exact fun ρ' H' c d g R p => a ρ' H' σ c d g R (S.mono g) p
  | no => exact a
end
end Mi

/-! Mi, part C: the rules, expressions. -/
namespace Mi
open PySem PySem.Spec PyProof.Rows L2

theorem PE.weak {X : Cx} {e : Expr} {t t' : TE} (p : PE X e t) (k : ∀ σ H Q, t' σ H Q → t σ H Q) : PE X e t' := ⟨fun pins s σ H Q I h => p.run pins s σ H Q I (k σ H Q h)⟩
theorem PT.weak {X : Cx} {e : Expr} {t t' : TT} (p : PT X e t) (k : ∀ σ H Q, t' σ H Q → t σ H Q) : PT X e t' := ⟨fun pins s σ H Q I h => p.run pins s σ H Q I (k σ H Q h)⟩
theorem PA.weak {X : Cx} {e : List Expr} {t t' : TA} (p : PA X e t) (k : ∀ σ H Q, t' σ H Q → t σ H Q) : PA X e t' := ⟨fun pos pins s σ H Q I h => p.run pos pins s σ H Q I (k σ H Q h)⟩
theorem PS.weak {X : Cx} {e : Stmt} {t t' : TS} (p : PS X e t) (k : ∀ Dn σ H, t' Dn σ H → t Dn σ H) : PS X e t' := ⟨fun pins s σ H Dn I h => p.run pins s σ H Dn I (k Dn σ H h)⟩
theorem PSs.weak {X : Cx} {e : List Stmt} {t t' : TS} (p : PSs X e t) (k : ∀ Dn σ H, t' Dn σ H → t Dn σ H) : PSs X e t' := ⟨fun pins s σ H Dn I h => p.run pins s σ H Dn I (k Dn σ H h)⟩

section
variable (T : Nat → Addr) (X : Cx)
def PD (e : Expr) (m : ME) : Prop := ∀ W, Takes X W → PE X e (tM T X.K W m)
def PDt (e : Expr) (m : MT) : Prop := ∀ W, Takes X W → PT X e (tMT T X.K W m)
def PDs (es : List Expr) (ms : MEs) : Prop := ∀ W, Takes X W → PA X es (tMs T X.K W ms)
/-- an operation of two values -/
def OpD (f : Value → Value → PySem.Sem Value) (o : O2) : Prop := ∀ (W : WX), Takes X W → ∀ (pins : List (Addr × Obj)) (s : Shared) (σ : L2.St) (H : Hp) (x y : V) (v u : Value) (Q : VK) (ρ : List Addr) (h : Hh) (d e : D),
  Inv X pins σ H s → RelV x v → RelV y u → Rel T X.K ρ h H → RepV T X.K ρ H d x → RepV T X.K ρ H e y → At T X.K (RepV T X.K) W Q σ ρ H (o d e h) → wpAny (model X.prog X.w) X.A (f v u) (EP X pins σ Q) X.xe s
def UnD (f : Value → PySem.Sem Value) (o : D → Hh → RE D) : Prop := ∀ (W : WX), Takes X W → ∀ (pins : List (Addr × Obj)) (s : Shared) (σ : L2.St) (H : Hp) (x : V) (v : Value) (Q : VK) (ρ : List Addr) (h : Hh) (d : D),
  Inv X pins σ H s → RelV x v → Rel T X.K ρ h H → RepV T X.K ρ H d x → At T X.K (RepV T X.K) W Q σ ρ H (o d h) → wpAny (model X.prog X.w) X.A (f v) (EP X pins σ Q) X.xe s
/-- a call with values -/
def CallD (f : Value) (o : Sem) : Prop := ∀ (W : WX), Takes X W → ∀ (pins : List (Addr × Obj)) (s : Shared) (σ : L2.St) (H : Hp) (xs : List V) (us : List Value) (Q : VK) (ρ : List Addr) (h : Hh) (ds : List D),
  Inv X pins σ H s → Vals xs us → Rel T X.K ρ h H → RepVs T X.K ρ H ds xs → At T X.K (RepV T X.K) W Q σ ρ H (o ds h) → wpAny (model X.prog X.w) X.A (call f us) (EP X pins σ Q) X.xe s
/-- the same, the call's code -/
def CallC (f : Value) (o : Sem) : Prop := ∀ (W : WX), Takes X W → ∀ (pins : List (Addr × Obj)) (s : Shared) (σ : L2.St) (H : Hp) (xs : List V) (us : List Value) (Q : VK) (ρ : List Addr) (h : Hh) (ds : List D),
  Inv X pins σ H s → Vals xs us → Rel T X.K ρ h H → RepVs T X.K ρ H ds xs → At T X.K (RepV T X.K) W Q σ ρ H (o ds h) → codeAny (model X.prog X.w) X.A (.call f ⟨us, []⟩) (fun r s' => match r with | .ok (.ret v) => EP X pins σ Q v s' | .ok _ => False | .error e => X.xe e s') s
end

section
variable {T : Nat → Addr} {X : Cx}
theorem CallC.d {f : Value} {o : Sem} (c : CallC T X f o) : CallD T X f o := fun W tk pins s σ H xs us Q ρ h ds I r R rs a => wpAny_call (c W tk pins s σ H xs us Q ρ h ds I r R rs a)
theorem OpD.of {f : Value → Value → PySem.Sem Value} {o : O2} {r : R2} (ho : OpR X f r)
    (k : ∀ (W : WX) (Q : VK) (σ : L2.St) (ρ : List Addr) (H : Hp) (h : Hh) (d e : D) (x y : V), Rel T X.K ρ h H → RepV T X.K ρ H d x → RepV T X.K ρ H e y → At T X.K (RepV T X.K) W Q σ ρ H (o d e h) → r x y H Q) : OpD T X f o :=
  fun W _ pins s σ H x y v u Q ρ h d e I rx ry R hd he a => ho pins s σ H x y v u Q I rx ry (k W Q σ ρ H h d e x y R hd he a)
theorem UnD.of {f : Value → PySem.Sem Value} {o : D → Hh → RE D} {r : V → Hp → VK → Prop} (ho : UnR X f r)
    (k : ∀ (W : WX) (Q : VK) (σ : L2.St) (ρ : List Addr) (H : Hp) (h : Hh) (d : D) (x : V), Rel T X.K ρ h H → RepV T X.K ρ H d x → At T X.K (RepV T X.K) W Q σ ρ H (o d h) → r x H Q) : UnD T X f o :=
  fun W _ pins s σ H x v Q ρ h d I rx R hd a => ho pins s σ H x v Q I rx (k W Q σ ρ H h d x R hd a)
theorem CallD.of {f : Value} {o : Sem} {r : List V → Hp → VK → Prop} (ho : CallR X f r)
    (k : ∀ (W : WX) (Q : VK) (σ : L2.St) (ρ : List Addr) (H : Hp) (h : Hh) (ds : List D) (xs : List V), Rel T X.K ρ h H → RepVs T X.K ρ H ds xs → At T X.K (RepV T X.K) W Q σ ρ H (o ds h) → r xs H Q) : CallD T X f o :=
  fun W _ pins s σ H xs us Q ρ h ds I rx R hd a => ho pins s σ H xs us Q I rx (k W Q σ ρ H h ds xs R hd a)

/-! ### names, constants -/
theorem pd_var {i : Nat} {x : Str} {pos : Pos} (hN : X.N[i]? = some x) (hv : Vis X.env.scope x) (hd : (x == ("__debug__" : Str)) = false) (hcd : (x == ("__classdict__" : Str)) = false) : PD T X (.Name x pos) (mVar i) := fun W tk =>
  PE.weak (pe_var hN hv hd hcd) fun σ H Q ⟨ρ, h, δ, R, S, a⟩ => by
    unfold mVar at a
    split at a
    · rename_i d e
      obtain ⟨v, e1, e2⟩ := S.2 i d e
      exact ⟨v, e1, a ρ H v .refl R e2⟩
    · exact a.elim
theorem pd_int {i : Int} {j : Nat} {pos : Pos} : PD T X (.Constant (.int i) j pos) (mLit (.int i)) := fun W tk => PE.weak pe_int fun σ H Q ⟨ρ, h, δ, R, S, a⟩ => a ρ H _ .refl R (.int i)
theorem pd_bl {i : Bool} {j : Nat} {pos : Pos} : PD T X (.Constant (.bool i) j pos) (mLit (.bl i)) := fun W tk => PE.weak pe_bl fun σ H Q ⟨ρ, h, δ, R, S, a⟩ => a ρ H _ .refl R (.bl i)
theorem pd_str {i : Str} {j : Nat} {pos : Pos} : PD T X (.Constant (.str i) j pos) (mLit (.str i)) := fun W tk => PE.weak pe_str fun σ H Q ⟨ρ, h, δ, R, S, a⟩ => a ρ H _ .refl R (.str i)
theorem pd_non {j : Nat} {pos : Pos} : PD T X (.Constant .none j pos) (mLit .non) := fun W tk => PE.weak pe_non fun σ H Q ⟨ρ, h, δ, R, S, a⟩ => a ρ H _ .refl R .non
/-- a global's value that is known -/
theorem pd_glob {x : Str} {v : V} {u : Value} {d : D} {pos : Pos} (hg : Gl X x) (hm : X.mg x = some u) (r : RelV v u) (hr : ∀ ρ H, RepV T X.K ρ H d v) (hd : (x == ("__debug__" : Str)) = false) : PD T X (.Name x pos) (mLit d) := fun W tk =>
  PE.weak (pe_glob hg hm r hd) fun σ H Q ⟨ρ, h, δ, R, S, a⟩ => a ρ H v .refl R (hr ρ H)

/-! ### argument lists, displays -/
theorem star_ne {e : Expr} {es : List Expr} {env : Env} (h : ∀ a p, e ≠ .Starred a p) : starEach (e :: es) env = (false, eval e env) :: starEach es env := by
  cases e <;> first | rfl | exact absurd rfl (h _ _)
theorem pds_nil : PDs T X [] mNil := fun W tk => PA.weak pa_nil fun σ H Q ⟨ρ, h, δ, R, S, a⟩ => a ρ H [] .refl R .nil
theorem pds_cons {e : Expr} {es : List Expr} {m : ME} {ms : MEs} (he : PD T X e m) (hes : PDs T X es ms) (hs : ∀ a p, e ≠ .Starred a p) : PDs T X (e :: es) (mCons m ms) := fun W tk =>
  PA.weak (pa_cons (he W tk) (hes W tk) (star_ne hs)) fun σ H Q ⟨ρ, h, δ, R, S, a⟩ => by
    refine ⟨ρ, h, δ, R, S, At.bind a fun d h1 ρ1 H1 v _ g R1 rv a1 => ?_⟩
    refine ⟨ρ1, h1, δ, R1, S.mono g, At.bind a1 fun ds h2 ρ2 H2 vs _ g2 R2 rvs a2 => ?_⟩
    exact a2 ρ2 H2 _ .refl R2 (.cons (rv.mono g2) rvs)
theorem maxLen_line {n : Nat} (h : n ≤ maxLen) : n ≤ sizeLine := by rw [sizeLine_eq]; unfold maxLen at h; omega
theorem maxLen_lt {n : Nat} (h : n ≤ maxLen) : n < sizeLine := by rw [sizeLine_eq]; unfold maxLen at h; omega
theorem rep_tup {ρ : List Addr} {H : Hp} {K : PySem.W.Frag} {p : Addr} {ds : List D} {xs : List V} (hp : H p = none) (r : RepVs T K ρ H ds xs) : RepV T K ρ (upd H p (.tup xs)) (.tup ds) (.ref p) :=
  .tup (SqT.of upd_same) (r.mono (grow_new hp))
theorem pd_tup {es : List Expr} {k : Nat} {pos : Pos} {ms : MEs} (h : PDs T X es ms) : PD T X (.Tuple es k pos) (mTup ms) := fun W tk =>
  PE.weak (pe_tup (h W tk)) fun σ H Q ⟨ρ, h, δ, R, S, a⟩ => by
    refine ⟨ρ, h, δ, R, S, At.bind a fun ds h1 ρ1 H1 xs _ g R1 rv a1 => ?_⟩
    split at a1
    · rename_i hl
      rw [rv.length] at hl
      exact ⟨maxLen_line hl, fun p hp => a1 ρ1 _ _ (grow_new hp) (R1.beside hp) (rep_tup hp rv)⟩
    · exact a1.elim
theorem pd_lst {es : List Expr} {pos : Pos} {ms : MEs} (h : PDs T X es ms) : PD T X (.List es pos) (mLst ms) := fun W tk =>
  PE.weak (pe_lst (h W tk)) fun σ H Q ⟨ρ, h, δ, R, S, a⟩ => by
    refine ⟨ρ, h, δ, R, S, At.bind a fun ds h1 ρ1 H1 xs _ g R1 rv a1 => ?_⟩
    split at a1
    · rename_i hl
      rw [rv.length] at hl
      refine ⟨maxLen_line hl, fun p hp => ?_⟩
      have g' : Grow ρ1 H1 (ρ1 ++ [p]) (upd H1 p (.lst xs)) := (grow_new hp).trans grow_cons
      obtain ⟨R2, g2⟩ := R1.new (u := .lst ds) hp ⟨xs, upd_same, rv.mono g'⟩
      exact a1 _ _ _ g2 R2 (.ref (by rw [← R1.len]; simp))
    · exact a1.elim

/-! ### operators -/
theorem pd_bin {op : Operator} {a b : Expr} {pos : Pos} {o : O2} {ma mb : ME} (ho : OpD T X (binaryOp op) o) (ha : PD T X a ma) (hb : PD T X b mb) : PD T X (.BinOp a op b pos) (mBin o ma mb) := fun W tk => by
  refine ⟨fun pins s σ H Q I ⟨ρ, h, δ, R, S, a⟩ => ?_⟩
  refine wpAny_BinOp (binT (R := fun x y H2 => ∃ ρ h d e, Rel T X.K ρ h H2 ∧ RepV T X.K ρ H2 d x ∧ RepV T X.K ρ H2 e y ∧ At T X.K (RepV T X.K) W Q σ ρ H2 (o d e h)) (ha W tk) (hb W tk) I ?_ fun v u s2 x y H2 I2 rx ry q => ?_)
  · refine ⟨ρ, h, δ, R, S, At.bind a fun d h1 ρ1 H1 v _ g R1 rv a1 => ?_⟩
    exact ⟨ρ1, h1, δ, R1, S.mono g, At.bind a1 fun d2 h2 ρ2 H2 v2 _ g2 R2 rv2 a2 => ⟨ρ2, h2, d, d2, R2, rv.mono g2, rv2, a2⟩⟩
  · obtain ⟨ρ, h, d, e, R, rd, re, a⟩ := q
    exact ho W tk pins s2 σ H2 x y v u Q ρ h d e I2 rx ry R rd re a
theorem pd_un {op : UnaryOp} {a : Expr} {pos : Pos} {o : D → Hh → RE D} {ma : ME} (ho : UnD T X (unaryOp op) o) (ha : PD T X a ma) : PD T X (.UnaryOp op a pos) (mUn o ma) := fun W tk => by
  refine ⟨fun pins s σ H Q I ⟨ρ, h, δ, R, S, a⟩ => ?_⟩
  have q : tM T X.K W ma σ H (fun x H1 => ∃ ρ h d, Rel T X.K ρ h H1 ∧ RepV T X.K ρ H1 d x ∧ At T X.K (RepV T X.K) W Q σ ρ H1 (o d h)) :=
    ⟨ρ, h, δ, R, S, At.bind a fun d h1 ρ1 H1 v _ g R1 rv a1 => ⟨ρ1, h1, d, R1, rv, a1⟩⟩
  exact UnaryOp_ (thn ((ha W tk).run pins s σ H _ I q) fun v s1 ⟨x, H1, I1, r1, ρ, h, d, R, rd, a⟩ => ho W tk pins s1 σ H1 x v Q ρ h d I1 r1 R rd a)
theorem pd_cmp {op : CmpOp} {a b : Expr} {pos : Pos} {o : O2} {ma mb : ME} (ho : OpD T X (compareOp op) o) (ha : PD T X a ma) (hb : PD T X b mb) (hm : behindInMarks op b = false) : PD T X (.Compare a [op] [b] pos) (mBin o ma mb) := fun W tk => by
  refine ⟨fun pins s σ H Q I ⟨ρ, h, δ, R, S, a⟩ => ?_⟩
  refine wpAny_Compare1 (binT (R := fun x y H2 => ∃ ρ h d e, Rel T X.K ρ h H2 ∧ RepV T X.K ρ H2 d x ∧ RepV T X.K ρ H2 e y ∧ At T X.K (RepV T X.K) W Q σ ρ H2 (o d e h)) (ha W tk) (hb W tk) I ?_ fun v u s2 x y H2 I2 rx ry q => ?_) hm
  · refine ⟨ρ, h, δ, R, S, At.bind a fun d h1 ρ1 H1 v _ g R1 rv a1 => ?_⟩
    exact ⟨ρ1, h1, δ, R1, S.mono g, At.bind a1 fun d2 h2 ρ2 H2 v2 _ g2 R2 rv2 a2 => ⟨ρ2, h2, d, d2, R2, rv.mono g2, rv2, a2⟩⟩
  · obtain ⟨ρ, h, d, e, R, rd, re, a⟩ := q
    exact ho W tk pins s2 σ H2 x y v u Q ρ h d e I2 rx ry R rd re a
theorem rep_bl {ρ : List Addr} {H : Hp} {K : PySem.W.Frag} {k : Bool} {v : V} (r : RepV T K ρ H (.bl k) v) : v = .bl k := by cases r; rfl
theorem pt_cmp' {op : CmpOp} {a b : Expr} {pos : Pos} {o : O2} {ma mb : ME} (ho : OpD T X (compareOp op) o) (ha : PD T X a ma) (hb : PD T X b mb) (hm : behindInMarks op b = false) : PDt T X (.Compare a [op] [b] pos) (tE (mBin o ma mb)) := fun W tk => by
  refine ⟨fun pins s σ H Q I ⟨ρ, h, δ, R, S, a⟩ => ?_⟩
  have Qv : VK := fun x H' => ∃ k, x = .bl k ∧ Q k H'
  have a' : At T X.K (RepV T X.K) W (fun x H' => ∃ k, x = .bl k ∧ Q k H') σ ρ H (mBin o ma mb δ h) := At.bind a fun d h1 ρ1 H1 v _ g R1 rv a1 => by
    cases d with
    | bl k => exact ⟨k, rep_bl rv, a1 ρ1 H1 k .refl R1 rfl⟩
    | _ => exact (show False from a1).elim
  have q : tM T X.K W ma σ H (fun x H1 => tM T X.K W mb σ H1 fun y H2 => ∃ ρ h d e, Rel T X.K ρ h H2 ∧ RepV T X.K ρ H2 d x ∧ RepV T X.K ρ H2 e y ∧ At T X.K (RepV T X.K) W (fun x H' => ∃ k, x = .bl k ∧ Q k H') σ ρ H2 (o d e h)) := by
    refine ⟨ρ, h, δ, R, S, At.bind a' fun d h1 ρ1 H1 v _ g R1 rv a1 => ?_⟩
    exact ⟨ρ1, h1, δ, R1, S.mono g, At.bind a1 fun d2 h2 ρ2 H2 v2 _ g2 R2 rv2 a2 => ⟨ρ2, h2, d, d2, R2, rv.mono g2, rv2, a2⟩⟩
  refine wpAny_isTrue_Compare1 (thn ((ha W tk).run pins s σ H _ I q) fun v s1 ⟨x, H1, I1, r1, q1⟩ => thn ((hb W tk).run pins s1 σ H1 _ I1 q1) fun u s2 ⟨y, H2, I2, r2, ρ, h, d, e, R, rd, re, a⟩ =>
    thn (ho W tk pins s2 σ H2 x y v u _ ρ h d e I2 r1 r2 R rd re a) fun c s3 ⟨z, H3, I3, r3, k, e, q3⟩ => ?_) hm
  subst e
  cases r3
  exact wpAny_truthy_bool ⟨H3, I3, q3⟩
end
end Mi

/-! Mi, part D: operations on values. -/
namespace Mi
open PySem PySem.Spec PyProof.Rows L2

section
variable {T : Nat → Addr} {X : Cx} {K : PySem.W.Frag} {ρ : List Addr} {h : Hh} {H : Hp}

theorem rep_int {i : Int} {v : V} (r : RepV T K ρ H (.int i) v) : v = .int i := by cases r; rfl
theorem rep_str {i : Str} {v : V} (r : RepV T K ρ H (.str i) v) : v = .str i := by cases r; rfl
theorem rep_tup' {ds : List D} {v : V} (r : RepV T K ρ H (.tup ds) v) : ∃ a xs, v = .ref a ∧ SqT K H a xs ∧ RepVs T K ρ H ds xs := by cases r with | tup q r => exact ⟨_, _, rfl, q, r⟩
theorem rep_ref {n : Nat} {v : V} (r : RepV T K ρ H (.ref n) v) : ∃ a, v = .ref a ∧ ρ[n]? = some a := by cases r with | ref q => exact ⟨_, rfl, q⟩
theorem Rel.obj (R : Rel T K ρ h H) {n : Nat} {a : Addr} {o : AO} (ha : ρ[n]? = some a) (ho : h[n]? = some o) : RepO T K ρ H a o := by
  obtain ⟨b, eb, q⟩ := R.ob n o ho
  rw [ha] at eb; cases eb
  exact q
theorem sqL_rol {a : Addr} {xs : List V} (q : (∃ ob, H a = some (.frz ob (.lst xs))) ∨ KLst K a xs) : SqL K H a xs := by
  rcases q with ⟨ob, q⟩ | q
  · exact .inl (.inr ⟨ob, q⟩)
  · exact .inr q
theorem Rel.lstAt (R : Rel T K ρ h H) {n : Nat} {a : Addr} {ds : List D} (ha : ρ[n]? = some a) (ho : lstAt h n = some ds) : ∃ xs, SqL K H a xs ∧ RepVs T K ρ H ds xs := by
  unfold Mi.lstAt at ho
  split at ho
  · rename_i es e; cases ho
    obtain ⟨xs, q, r⟩ := R.obj ha e
    exact ⟨xs, SqL.of q, r⟩
  · rename_i es e; cases ho
    obtain ⟨xs, q, r⟩ := R.obj ha e
    exact ⟨xs, sqL_rol q, r⟩
  · cases ho
/-- a fresh list behind an operation -/
theorem Rel.newLst (R : Rel T K ρ h H) {p : Addr} {ds : List D} {xs : List V} (hp : H p = none) (r : RepVs T K ρ H ds xs) :
    Rel T K (ρ ++ [p]) (h ++ [.lst ds]) (upd H p (.lst xs)) ∧ Grow ρ H (ρ ++ [p]) (upd H p (.lst xs)) ∧ RepV T K (ρ ++ [p]) (upd H p (.lst xs)) (.ref h.length) (.ref p) := by
  have g : Grow ρ H (ρ ++ [p]) (upd H p (.lst xs)) := (grow_new hp).trans grow_cons
  obtain ⟨R2, g2⟩ := R.new (u := .lst ds) hp ⟨xs, upd_same, r.mono g⟩
  exact ⟨R2, g2, .ref (by rw [← R.len]; simp)⟩
theorem RepVs.nil_iff {ds : List D} {xs : List V} (r : RepVs T K ρ H ds xs) : ds = [] ↔ xs = [] := by
  cases r with
  | nil => simp
  | cons _ _ => simp

theorem opd_add : OpD T X (binaryOp .Add) opAdd := by
  refine OpD.of (r := fun x y H Q => (∃ i j, x = .int i ∧ y = .int j ∧ Q (.int (i + j)) H) ∨ (∃ i j, x = .str i ∧ y = .str j ∧ i.length + j.length ≤ sizeLine ∧ Q (.str (i ++ j)) H) ∨ rCatA X.K x y H Q ∨ rCat x y H Q)
    (op_add.or (op_add_str.or (op_catA.or op_cat))) fun W Q σ ρ H h d e x y R hd he a => ?_
  cases d <;> cases e <;> try exact False.elim a
  · cases rep_int hd; cases rep_int he
    exact .inl ⟨_, _, rfl, rfl, a ρ H _ .refl R (.int _)⟩
  · cases rep_str hd; cases rep_str he
    unfold opAdd at a
    dsimp only at a
    split at a
    · rename_i hl
      exact .inr (.inl ⟨_, _, rfl, rfl, maxLen_line hl, a ρ H _ .refl R (.str _)⟩)
    · exact a.elim
  · obtain ⟨p, xs, rfl, q1, r1⟩ := rep_tup' hd
    obtain ⟨p2, ys, rfl, q2, r2⟩ := rep_tup' he
    unfold opAdd at a
    dsimp only at a
    split at a
    · rename_i hl
      rw [r1.length, r2.length] at hl
      refine .inr (.inr (.inl ⟨p, p2, xs, ys, rfl, rfl, q1, q2, maxLen_line hl, fun hx => ?_, fun hx hy => ?_, fun hx hy q hq => ?_⟩))
      · have hd := r1.nil_iff.mpr hx
        subst hd
        exact a ρ H _ .refl R (.tup q2 r2)
      · have hd := r2.nil_iff.mpr hy
        subst hd
        rw [List.append_nil] at a
        exact a ρ H _ .refl R (.tup q1 r1)
      · exact a ρ _ _ (grow_new hq) (R.beside hq) (rep_tup hq (r1.append r2))
    · exact a.elim
  · obtain ⟨p, rfl, q1⟩ := rep_ref hd
    obtain ⟨p2, rfl, q2⟩ := rep_ref he
    unfold opAdd at a
    dsimp only at a
    split at a
    · rename_i xs ys e1 e2
      split at a
      · rename_i hl
        obtain ⟨vs, z1, r1⟩ := R.obj q1 e1
        obtain ⟨ws, z2, r2⟩ := R.obj q2 e2
        rw [r1.length, r2.length] at hl
        refine .inr (.inr (.inr ⟨p, p2, vs, ws, rfl, rfl, z1, z2, maxLen_line hl, fun q hq => ?_⟩))
        obtain ⟨R2, g2, rr⟩ := R.newLst hq (r1.append r2)
        exact a _ _ _ g2 R2 rr
      · exact a.elim
    · exact a.elim
theorem opd_int {f : Value → Value → PySem.Sem Value} {C : Int → Int → Prop} [∀ i j, Decidable (C i j)] {g : Int → Int → Int} {o : O2} (ho : OpR X f (rI C fun i j => .int (g i j)))
    (e : ∀ x y h, o x y h = (match x, y with | .int i, .int j => if C i j then .ok (.int (g i j)) h else .no | _, _ => .no)) : OpD T X f o := by
  refine OpD.of ho fun W Q σ ρ H h d e' x y R hd he a => ?_
  rw [e] at a
  cases d <;> cases e' <;> try exact False.elim a
  cases rep_int hd; cases rep_int he
  dsimp only at a
  split at a
  · rename_i hc
    exact ⟨_, _, rfl, rfl, hc, a ρ H _ .refl R (.int _)⟩
  · exact a.elim
theorem opd_int0 {f : Value → Value → PySem.Sem Value} {g : Int → Int → D} {g' : Int → Int → V} (hg : ∀ i j ρ H, RepV T X.K ρ H (g i j) (g' i j)) {o : O2} (ho : OpR X f (rI0 g'))
    (e : ∀ x y h, o x y h = (match x, y with | .int i, .int j => .ok (g i j) h | _, _ => .no)) : OpD T X f o := by
  refine OpD.of ho fun W Q σ ρ H h d e' x y R hd he a => ?_
  rw [e] at a
  cases d <;> cases e' <;> try exact False.elim a
  cases rep_int hd; cases rep_int he
  exact ⟨_, _, rfl, rfl, a ρ H _ .refl R (hg _ _ _ _)⟩
theorem opd_sub : OpD T X (binaryOp .Sub) opSub := opd_int0 (g := fun i j => .int (i - j)) (fun _ _ _ _ => .int _) op_sub fun x y h => rfl
instance (i j : Int) : Decidable (CMulW i j) := inferInstanceAs (Decidable (_ < _))
instance (i j : Int) : Decidable (CDivW i j) := inferInstanceAs (Decidable (_ ∧ _))
instance (i j : Int) : Decidable (CPow i j) := inferInstanceAs (Decidable (_ ∧ _ ∧ _))
theorem opd_mul : OpD T X (binaryOp .Mult) opMul := opd_int op_mulW fun x y h => rfl
theorem opd_fdiv : OpD T X (binaryOp .FloorDiv) opFdiv := opd_int op_fdivW fun x y h => rfl
theorem opd_mod : OpD T X (binaryOp .Mod) opMod := opd_int op_mod fun x y h => rfl
theorem opd_pow : OpD T X (binaryOp .Pow) opPow := opd_int op_pow fun x y h => rfl
theorem opd_shl : OpD T X (binaryOp .LShift) opShl := opd_int op_shl fun x y h => rfl
theorem opd_shr : OpD T X (binaryOp .RShift) opShr := opd_int op_shr fun x y h => rfl
theorem opd_and : OpD T X (binaryOp .BitAnd) opAnd := opd_int0 (g := fun i j => .int (Builtin.bitAnd i j)) (fun _ _ _ _ => .int _) op_and fun x y h => rfl
theorem opd_no {f : Value → Value → PySem.Sem Value} : OpD T X f opNo := fun W tk pins s σ H x y v u Q ρ h d e I rx ry R hd he a => False.elim a
theorem opd_b : ∀ op : Operator, OpD T X (binaryOp op) (opB op)
  | .Add => opd_add
  | .Sub => opd_sub
  | .Mult => opd_mul
  | .FloorDiv => opd_fdiv
  | .Mod => opd_mod
  | .Pow => opd_pow
  | .LShift => opd_shl
  | .RShift => opd_shr
  | .BitAnd => opd_and
  | .MatMult => opd_no
  | .Div => opd_no
  | .BitOr => opd_no
  | .BitXor => opd_no
theorem und_neg : UnD T X (unaryOp .USub) unNeg := UnD.of un_neg fun W Q σ ρ H h d x R hd a => by
  cases d <;> try exact False.elim a
  cases rep_int hd
  exact ⟨_, rfl, a ρ H _ .refl R (.int _)⟩

/-! ### comparisons -/
mutual
theorem dp_of (R : Rel T K ρ h H) : ∀ (n : Nat) (d : D) (v : V) (p : PyData), RepV T K ρ H d v → toPy h n d = some p → Dp K H v p
  | n, .non, v, p, r, e => by cases r; cases n <;> (cases e; exact .non)
  | n, .bl b, v, p, r, e => by cases r; cases n <;> (cases e; exact .bl b)
  | n, .int b, v, p, r, e => by cases r; cases n <;> (cases e; exact .int b)
  | n, .str b, v, p, r, e => by cases r; cases n <;> (cases e; exact .str b)
  | 0, .tup ds, v, p, r, e => by cases e
  | 0, .ref m, v, p, r, e => by cases e
  | n, .cls m, v, p, r, e => by cases n <;> cases e
  | n + 1, .tup ds, v, p, r, e => by
    obtain ⟨a, xs, rfl, q, rs⟩ := rep_tup' r
    have e' : (toPys h n ds).map PyData.tuple = some p := e
    cases z : toPys h n ds with
    | none => rw [z] at e'; cases e'
    | some ps =>
      rw [z] at e'; cases e'
      exact .tup q (dps_of R n ds xs ps rs z)
  | n + 1, .ref m, v, p, r, e => by
    obtain ⟨a, rfl, q⟩ := rep_ref r
    have e' : (match h[m]? with
      | some (.lst ds) => (toPys h n ds).map PyData.list
      | some (.rol ds) => (toPys h n ds).map PyData.list
      | _ => none) = some p := e
    split at e'
    · rename_i ds z
      obtain ⟨xs, q1, r1⟩ := R.obj q z
      cases z2 : toPys h n ds with
      | none => rw [z2] at e'; cases e'
      | some ps =>
        rw [z2] at e'; cases e'
        exact .lst (SqL.of q1) (dps_of R n ds xs ps r1 z2)
    · rename_i ds z
      obtain ⟨xs, q1, r1⟩ := R.obj q z
      cases z2 : toPys h n ds with
      | none => rw [z2] at e'; cases e'
      | some ps =>
        rw [z2] at e'; cases e'
        exact .lst (sqL_rol q1) (dps_of R n ds xs ps r1 z2)
    · cases e'
theorem dps_of (R : Rel T K ρ h H) : ∀ (n : Nat) (ds : List D) (vs : List V) (ps : List PyData), RepVs T K ρ H ds vs → toPys h n ds = some ps → DpAll K H vs ps
  | n, [], vs, ps, r, e => by cases r; cases n <;> (cases e; exact .nil)
  | 0, d :: ds, vs, ps, r, e => by cases e
  | n + 1, d :: ds, vs, ps, r, e => by
    cases r with
    | cons r1 r2 =>
      have e' : (match toPy h n d, toPys h n ds with
        | some p, some ps => some (p :: ps)
        | _, _ => none) = some ps := e
      split at e'
      · rename_i p qs z1 z2
        cases e'
        exact .cons (dp_of R n d _ p r1 z1) (dps_of R n ds _ qs r2 z2)
      · cases e'
end
theorem eqPy_dp (R : Rel T K ρ h H) {x y : D} {v u : V} {b : Bool} (e : eqPy h x y = some b) (rx : RepV T K ρ H x v) (ry : RepV T K ρ H y u) :
    ∃ d e', Dp K H v d ∧ Dp K H u e' ∧ SeqAt.shaped d = true ∧ SeqAt.shaped e' = true ∧ b = PyData.eqv d e' := by
  unfold eqPy at e
  split at e
  · rename_i d e' z1 z2
    split at e
    · rename_i hs
      cases e
      rw [Bool.and_eq_true] at hs
      exact ⟨d, e', dp_of R _ _ _ _ rx z1, dp_of R _ _ _ _ ry z2, hs.1, hs.2, rfl⟩
    · cases e
  · cases e
theorem opd_eq (hu : X.A.units + 64 < cLine) : OpD T X (compareOp .Eq) cmEq := OpD.of (op_eqD hu) fun W Q σ ρ H h d e x y R hd he a => by
  unfold cmEq at a
  split at a
  · rename_i b z
    obtain ⟨p, p', h1, h2, h3, h4, rfl⟩ := eqPy_dp R z hd he
    exact ⟨p, p', h1, h2, h3, h4, a ρ H _ .refl R (.bl _)⟩
  · exact a.elim
theorem opd_ne (hu : X.A.units + 64 < cLine) : OpD T X (compareOp .NotEq) cmNe := OpD.of (op_neD hu) fun W Q σ ρ H h d e x y R hd he a => by
  unfold cmNe at a
  split at a
  · rename_i b z
    obtain ⟨p, p', h1, h2, h3, h4, rfl⟩ := eqPy_dp R z hd he
    exact ⟨p, p', h1, h2, h3, h4, a ρ H _ .refl R (.bl _)⟩
  · exact a.elim
theorem opd_is : OpD T X (compareOp .Is) cmIs := OpD.of op_isN fun W Q σ ρ H h d e x y R hd he a => by
  cases e <;> try exact False.elim a
  cases he
  refine ⟨rfl, ?_⟩
  cases d <;> cases hd <;> first
    | exact a ρ H _ .refl R (.bl _)
    | (rw [decide_eq_false (by intro z; cases z)]; exact a ρ H _ .refl R (.bl _))
    | (rw [decide_eq_true rfl]; exact a ρ H _ .refl R (.bl _))
theorem opd_isNot : OpD T X (compareOp .IsNot) cmIsNot := OpD.of op_notN fun W Q σ ρ H h d e x y R hd he a => by
  cases e <;> try exact False.elim a
  cases he
  refine ⟨rfl, ?_⟩
  cases d <;> cases hd <;> first
    | exact a ρ H _ .refl R (.bl _)
    | (rw [decide_eq_false (by intro z; cases z)]; exact a ρ H _ .refl R (.bl _))
    | (rw [decide_eq_true rfl]; exact a ρ H _ .refl R (.bl _))
theorem flat_rep {d : D} {v : V} (r : RepV T K ρ H d v) (f : flatD d = true) : flatV v = true := by
  cases d <;> cases r <;> first | rfl | cases f
theorem eqFl_rep {d e : D} {v u : V} (r : RepV T K ρ H d v) (r2 : RepV T K ρ H e u) (f : flatD d = true) (f2 : flatD e = true) : eqV v u = eqFl d e := by
  cases d <;> cases r <;> cases e <;> cases r2 <;> first | rfl | cases f | cases f2
theorem flats_rep : ∀ {ds : List D} {vs : List V}, RepVs T K ρ H ds vs → ds.all flatD = true → vs.all flatV = true
  | _, _, .nil, _ => rfl
  | _, _, .cons r t, f => by
    rw [List.all_cons, Bool.and_eq_true] at f ⊢
    exact ⟨flat_rep r f.1, flats_rep t f.2⟩
theorem inFl_rep {x : D} {v : V} (r : RepV T K ρ H x v) (f : flatD x = true) : ∀ {ds : List D} {vs : List V}, RepVs T K ρ H ds vs → ds.all flatD = true → inV v vs = inFl x ds
  | _, _, .nil, _ => rfl
  | _, _, .cons r1 t, g => by
    rw [List.all_cons, Bool.and_eq_true] at g
    have ih := inFl_rep r f t g.2
    unfold inV inFl at ih ⊢
    rw [List.any_cons, List.any_cons, ih, eqFl_rep r1 r g.1 f]
end
end Mi

/-! Mi, part D2: in, items, built-in functions. -/
namespace Mi
open PySem PySem.Spec PyProof.Rows L2
section
variable {T : Nat → Addr} {X : Cx} {K : PySem.W.Frag} {ρ : List Addr} {h : Hh} {H : Hp}
theorem key_rep {d : D} {v : V} {k : Key} (r : RepV T K ρ H d v) (e : keyOfD d = some k) : v = kV k := by
  cases d <;> cases e <;> cases r <;> rfl
theorem valD_rep {k : Key} : ∀ {kvs : List (Key × D)} {kx : List (Key × V)}, RepK T K ρ H kvs kx → (valD kvs k = none ∧ valV kx k = none) ∨ ∃ d v, valD kvs k = some d ∧ valV kx k = some v ∧ RepV T K ρ H d v
  | _, _, .nil => .inl ⟨rfl, rfl⟩
  | _, _, @RepK.cons _ _ _ _ f d v fs gs r t => by
    by_cases e : f = k
    · exact .inr ⟨d, v, by simp [valD, e], valV_pos (p := (f, v)) e, r⟩
    · have e1 : valD ((f, d) :: fs) k = valD fs k := by simp [valD, e]
      have e2 : valV ((f, v) :: gs) k = valV gs k := valV_neg (p := (f, v)) e
      rw [e1, e2]
      exact valD_rep t
theorem isIn_ok {b : Bool} {x y : D} {vx vy : V} (R : Rel T K ρ h H) (rx : RepV T K ρ H x vx) (ry : RepV T K ρ H y vy) (z : isIn x y h = some b) :
    (∃ p xs, vy = .ref p ∧ (SqL K H p xs ∨ SqT K H p xs) ∧ flatV vx = true ∧ xs.all flatV = true ∧ inV vx xs = b) ∨
    (∃ d ds, Dp K H vx d ∧ Dp K H vy (.list ds) ∧ SeqAt.shaped d = true ∧ SeqAt.shaped (.list ds) = true ∧ (ds.any fun z => PyData.eqv z d) = b) ∨
    (∃ (a : Addr) (o : Option V), vy = .ref a ∧ DGet H a vx o ∧ o.isSome = b) ∨
    (∃ s t, vx = .str s ∧ vy = .str t ∧ (!(Builtin.Str.occurrences t s 0 t.length 1).isEmpty) = b) := by
  unfold isIn at z
  split at z
  · rename_i ds
    obtain ⟨p, xs, rfl, q, rs⟩ := rep_tup' ry
    split at z
    · rename_i hf
      cases z
      rw [Bool.and_eq_true] at hf
      exact .inl ⟨p, xs, rfl, .inr q, flat_rep rx hf.1, flats_rep rs hf.2, inFl_rep rx hf.1 rs hf.2⟩
    · cases z
  · rename_i n
    obtain ⟨p, rfl, q⟩ := rep_ref ry
    split at z
    · rename_i ds e
      obtain ⟨xs, q1, rs⟩ := R.obj q e
      split at z
      · rename_i hf
        cases z
        rw [Bool.and_eq_true] at hf
        exact .inl ⟨p, xs, rfl, .inl (SqL.of q1), flat_rep rx hf.1, flats_rep rs hf.2, inFl_rep rx hf.1 rs hf.2⟩
      · split at z
        · rename_i d es z1 z2
          split at z
          · rename_i hs
            cases z
            rw [Bool.and_eq_true] at hs
            exact .inr (.inl ⟨d, es, dp_of R _ _ _ _ rx z1, dp_of R _ _ _ _ ry z2, hs.1, hs.2, rfl⟩)
          · cases z
        · cases z
    · rename_i kvs e
      obtain ⟨kx, q1, rs⟩ := R.obj q e
      split at z
      · rename_i k hk
        cases z
        rw [key_rep rx hk]
        refine .inr (.inr (.inl ⟨p, valV kx k, rfl, DGet.k q1, ?_⟩))
        rcases valD_rep (k := k) rs with ⟨e1, e2⟩ | ⟨d, v, e1, e2, _⟩ <;> rw [e1, e2] <;> rfl
      · cases z
    · cases z
  · rename_i t
    cases rep_str ry
    split at z
    · rename_i s'
      cases rep_str rx
      cases z
      exact .inr (.inr (.inr ⟨_, _, rfl, rfl, rfl⟩))
    · cases z
  · cases z
theorem opd_in (hu : X.A.units + 65 < cLine) : OpD T X (compareOp .In) cmIn := fun W tk pins s σ H x y v u Q ρ h d e I rx ry R hd he a => by
  unfold cmIn at a
  split at a
  · rename_i b z
    have key : Q (.bl b) H := a ρ H _ .refl R (.bl _)
    rcases isIn_ok R hd he z with ⟨p, xs, rfl, hq, fx, fs, e⟩ | ⟨d', ds, h1, h2, h3, h4, e⟩ | ⟨p, o, rfl, g, e⟩ | ⟨s', t, rfl, rfl, e⟩
    · exact op_in_seq pins s σ H _ _ v u Q I rx ry ⟨p, xs, rfl, hq, fx, fs, by rw [e]; exact key⟩
    · exact op_inD hu pins s σ H _ _ v u Q I rx ry ⟨d', ds, h1, h2, h3, h4, by rw [e]; exact key⟩
    · cases (show u = Value.ref p from ry)
      exact d_in (by omega) I g rx fun s' I' => ⟨.bl b, H, I', by rw [e]; rfl, key⟩
    · exact op_in_str pins s σ H _ _ v u Q I rx ry ⟨s', t, rfl, rfl, by rw [e]; exact key⟩
  · exact a.elim
theorem opd_notIn (hu : X.A.units + 65 < cLine) : OpD T X (compareOp .NotIn) cmNotIn := fun W tk pins s σ H x y v u Q ρ h d e I rx ry R hd he a => by
  unfold cmNotIn at a
  split at a
  · rename_i b z
    have key : Q (.bl (!b)) H := a ρ H _ .refl R (.bl _)
    rcases isIn_ok R hd he z with ⟨p, xs, rfl, hq, fx, fs, e⟩ | ⟨d', ds, h1, h2, h3, h4, e⟩ | ⟨p, o, rfl, g, e⟩ | ⟨s', t, rfl, rfl, e⟩
    · exact op_notIn_seq pins s σ H _ _ v u Q I rx ry ⟨p, xs, rfl, hq, fx, fs, by rw [e]; exact key⟩
    · exact op_notInD hu pins s σ H _ _ v u Q I rx ry ⟨d', ds, h1, h2, h3, h4, by rw [e]; exact key⟩
    · cases (show u = Value.ref p from ry)
      exact d_notIn (by omega) I g rx fun s' I' => ⟨.bl (!b), H, I', by rw [e]; rfl, key⟩
    · exact op_notin_str pins s σ H _ _ v u Q I rx ry ⟨s', t, rfl, rfl, by rw [e]; exact key⟩
  · exact a.elim
theorem opd_i {f : Value → Value → PySem.Sem Value} {p : Int → Int → Bool} (ho : OpR X f (rI0 fun i j => .bl (p i j))) : OpD T X f (cmI p) := opd_int0 (g := fun i j => .bl (p i j)) (fun _ _ _ _ => .bl _) ho fun x y h => rfl
theorem opd_cmp (hu : X.A.units + 65 < cLine) : ∀ op : CmpOp, OpD T X (compareOp op) (cmp op)
  | .Eq => opd_eq (by omega)
  | .NotEq => opd_ne (by omega)
  | .Lt => opd_i op_lt
  | .LtE => opd_i op_le
  | .Gt => opd_i op_gt
  | .GtE => opd_i op_ge
  | .Is => opd_is
  | .IsNot => opd_isNot
  | .In => opd_in hu
  | .NotIn => opd_notIn hu

/-! ### tests and values -/
theorem pd_if {c a b : Expr} {pos : Pos} {t : MT} {ma mb : ME} (hc : PDt T X c t) (ha : PD T X a ma) (hb : PD T X b mb) : PD T X (.IfExp c a b pos) (mIf t ma mb) := fun W tk =>
  PE.weak (pe_ifExp (hc W tk) (ha W tk) (hb W tk)) fun σ H Q ⟨ρ, h, δ, R, S, a⟩ => by
    refine ⟨ρ, h, δ, R, S, At.bind a fun k h1 ρ1 H1 b _ g R1 e a1 => ?_⟩
    subst e
    cases k with
    | true => exact ⟨ρ1, h1, δ, R1, S.mono g, a1⟩
    | false => exact ⟨ρ1, h1, δ, R1, S.mono g, a1⟩
theorem pt_e {e : Expr} {m : ME} (he : PD T X e m) (hp : ∀ whole, isTrue e X.env whole = (do let v ← whole; standAt e.pos; holding [v] (truthy v))) : PDt T X e (tE m) := fun W tk =>
  PT.weak (pt_val (he W tk) hp) fun σ H Q ⟨ρ, h, δ, R, S, a⟩ => by
    refine ⟨ρ, h, δ, R, S, At.bind a fun d h1 ρ1 H1 v _ g R1 rv a1 => ?_⟩
    cases d with
    | bl k => exact ⟨k, rep_bl rv, a1 ρ1 H1 k .refl R1 rfl⟩
    | _ => exact (show False from a1).elim
theorem pt_not' {e : Expr} {pos : Pos} {t : MT} (he : PDt T X e t) : PDt T X (.UnaryOp .Not e pos) (tNot t) := fun W tk =>
  PT.weak (pt_not (he W tk)) fun σ H Q ⟨ρ, h, δ, R, S, a⟩ => by
    refine ⟨ρ, h, δ, R, S, At.bind a fun k h1 ρ1 H1 b _ g R1 e a1 => ?_⟩
    subst e
    exact a1 ρ1 H1 _ .refl R1 rfl
/-- tests in a row, whatever their 'whole' is -/
def PDw (T : Nat → Addr) (X : Cx) (e : Expr) (m : MT) : Prop := ∀ W, Takes X W → PW X e (tMT T X.K W m)
theorem PW.weak {X : Cx} {e : Expr} {t t' : TT} (p : PW X e t) (k : ∀ σ H Q, t' σ H Q → t σ H Q) : PW X e t' := ⟨fun wh pins s σ H Q I h => p.run wh pins s σ H Q I (k σ H Q h)⟩
theorem PDw.pt {e : Expr} {m : MT} (w : PDw T X e m) : PDt T X e m := fun W tk => (w W tk).pt
theorem pw_a1 {e : Expr} {pos : Pos} {t : MT} (he : PDt T X e t) : PDw T X (.BoolOp .And [e] pos) t := fun W tk => pw_and1 (he W tk)
theorem pw_o1 {e : Expr} {pos : Pos} {t : MT} (he : PDt T X e t) : PDw T X (.BoolOp .Or [e] pos) t := fun W tk => pw_or1 (he W tk)
theorem pw_a {a b : Expr} {r : List Expr} {pos : Pos} {t u : MT} (ha : PDt T X a t) (hb : PDw T X (.BoolOp .And (b :: r) pos) u) : PDw T X (.BoolOp .And (a :: b :: r) pos) (tAnd t u) := fun W tk =>
  PW.weak (pw_and (ha W tk) (hb W tk)) fun σ H Q ⟨ρ, h, δ, R, S, a⟩ => by
    refine ⟨ρ, h, δ, R, S, At.bind a fun k h1 ρ1 H1 b _ g R1 e a1 => ?_⟩
    subst e
    cases k with
    | true => exact ⟨ρ1, h1, δ, R1, S.mono g, a1⟩
    | false => exact a1 ρ1 H1 _ .refl R1 rfl
theorem pw_o {a b : Expr} {r : List Expr} {pos : Pos} {t u : MT} (ha : PDt T X a t) (hb : PDw T X (.BoolOp .Or (b :: r) pos) u) : PDw T X (.BoolOp .Or (a :: b :: r) pos) (tOr t u) := fun W tk =>
  PW.weak (pw_or (ha W tk) (hb W tk)) fun σ H Q ⟨ρ, h, δ, R, S, a⟩ => by
    refine ⟨ρ, h, δ, R, S, At.bind a fun k h1 ρ1 H1 b _ g R1 e a1 => ?_⟩
    subst e
    cases k with
    | true => exact a1 ρ1 H1 _ .refl R1 rfl
    | false => exact ⟨ρ1, h1, δ, R1, S.mono g, a1⟩
theorem pd_one {op : BoolOp} {e : Expr} {pos : Pos} {m : ME} (he : PD T X e m) : PD T X (.BoolOp op [e] pos) m := fun W tk => pe_one (he W tk)
theorem pd_and {a b : Expr} {r : List Expr} {pos : Pos} {ma mb : ME} (ha : PD T X a ma) (hb : PD T X (.BoolOp .And (b :: r) pos) mb) : PD T X (.BoolOp .And (a :: b :: r) pos) (mAnd ma mb) := fun W tk =>
  PE.weak (pe_and (ha W tk) (hb W tk)) fun σ H Q ⟨ρ, h, δ, R, S, a⟩ => by
    refine ⟨ρ, h, δ, R, S, At.bind a fun d h1 ρ1 H1 v _ g R1 rv a1 => ?_⟩
    cases d with
    | bl k =>
      refine ⟨k, rep_bl rv, ?_⟩
      cases k with
      | true => exact ⟨ρ1, h1, δ, R1, S.mono g, a1⟩
      | false => exact a1 ρ1 H1 _ .refl R1 (.bl _)
    | _ => exact (show False from a1).elim
theorem pd_or {a b : Expr} {r : List Expr} {pos : Pos} {ma mb : ME} (ha : PD T X a ma) (hb : PD T X (.BoolOp .Or (b :: r) pos) mb) : PD T X (.BoolOp .Or (a :: b :: r) pos) (mOr ma mb) := fun W tk =>
  PE.weak (pe_or (ha W tk) (hb W tk)) fun σ H Q ⟨ρ, h, δ, R, S, a⟩ => by
    refine ⟨ρ, h, δ, R, S, At.bind a fun d h1 ρ1 H1 v _ g R1 rv a1 => ?_⟩
    cases d with
    | bl k =>
      refine ⟨k, rep_bl rv, ?_⟩
      cases k with
      | true => exact a1 ρ1 H1 _ .refl R1 (.bl _)
      | false => exact ⟨ρ1, h1, δ, R1, S.mono g, a1⟩
    | _ => exact (show False from a1).elim
theorem pd_not {e : Expr} {pos : Pos} {m : ME} (he : PD T X e m) : PD T X (.UnaryOp .Not e pos) (mNot m) := fun W tk =>
  PE.weak (pe_not (he W tk)) fun σ H Q ⟨ρ, h, δ, R, S, a⟩ => by
    refine ⟨ρ, h, δ, R, S, At.bind a fun d h1 ρ1 H1 v _ g R1 rv a1 => ?_⟩
    cases d with
    | bl k => exact ⟨k, rep_bl rv, a1 ρ1 H1 _ .refl R1 (.bl _)⟩
    | _ => exact (show False from a1).elim
/-- a op b op' c -/
theorem pd_chain {op op' : CmpOp} {a b c : Expr} {pos : Pos} {o o' : O2} {ma mb mc : ME} (ho : OpD T X (compareOp op) o) (ho' : OpD T X (compareOp op') o') (ha : PD T X a ma) (hb : PD T X b mb) (hc : PD T X c mc)
    (hm : lastMarks [op, op'] [b, c] = false) : PD T X (.Compare a [op, op'] [b, c] pos) (mChain o o' ma mb mc) := fun W tk => by
  refine ⟨fun pins s σ H Q I ⟨ρ, h, δ, R, S, a⟩ => ?_⟩
  have q : tM T X.K W ma σ H (fun x H1 => tM T X.K W mb σ H1 fun y H2 => ∃ ρ h d e, Rel T X.K ρ h H2 ∧ RepV T X.K ρ H2 d x ∧ RepV T X.K ρ H2 e y ∧ RepS T X.K ρ H2 δ σ ∧
      At T X.K (RepV T X.K) W Q σ ρ H2 ((o d e h).bind fun z h3 => match z with | .bl true => (mc δ h3).bind fun w h4 => o' e w h4 | .bl false => .ok (.bl false) h3 | _ => .no)) := by
    refine ⟨ρ, h, δ, R, S, At.bind a fun d h1 ρ1 H1 v _ g R1 rv a1 => ?_⟩
    exact ⟨ρ1, h1, δ, R1, S.mono g, At.bind a1 fun d2 h2 ρ2 H2 v2 _ g2 R2 rv2 a2 => ⟨ρ2, h2, d, d2, R2, rv.mono g2, rv2, (S.mono g).mono g2, a2⟩⟩
  refine Compare_chain (thn ((ha W tk).run pins s σ H _ I q) fun v s1 ⟨x, H1, I1, r1, q1⟩ => chain_link (thn ((hb W tk).run pins s1 σ H1 _ I1 q1) fun u s2 ⟨y, H2, I2, r2, ρ, h, d, e, R, rd, re, S, a⟩ => ?_)) hm
  have a1 : At T X.K (RepV T X.K) W (fun z H3 => ∃ k, z = .bl k ∧ (if k = true then tM T X.K W mc σ H3 (fun w H4 => ∃ ρ h e w', Rel T X.K ρ h H4 ∧ RepV T X.K ρ H4 e y ∧ RepV T X.K ρ H4 w' w ∧ At T X.K (RepV T X.K) W Q σ ρ H4 (o' e w' h)) else Q (.bl false) H3)) σ ρ H2 (o d e h) :=
    At.bind a fun z h3 ρ3 H3 vz _ g3 R3 rz a3 => by
      cases z with
      | bl k =>
        refine ⟨k, rep_bl rz, ?_⟩
        cases k with
        | true => exact ⟨ρ3, h3, δ, R3, S.mono g3, At.bind a3 fun w h4 ρ4 H4 vw _ g4 R4 rw' a4 => ⟨ρ4, h4, e, w, R4, (re.mono g3).mono g4, rw', a4⟩⟩
        | false => exact a3 ρ3 H3 _ .refl R3 (.bl _)
      | _ => exact (show False from a3).elim
  refine thn (ho W tk pins s2 σ H2 x y v u _ ρ h d e I2 r1 r2 R rd re a1) fun c' s3 ⟨z, H3, I3, r3, k, e', q3⟩ => ?_
  subst e'
  cases r3
  refine wpAny_truthy_bool ?_
  cases k with
  | false => exact ite_ff ⟨.bl false, H3, I3, rfl, q3⟩
  | true => exact ite_tt (chain_last (thn ((hc W tk).run pins s3 σ H3 _ I3 q3) fun w' s4 ⟨z', H4, I4, r4, ρ4, h4, e4, w4, R4, re4, rw4, a4⟩ => ho' W tk pins s4 σ H4 y z' u w' Q ρ4 h4 e4 w4 I4 r2 r4 R4 re4 rw4 a4))
end
end Mi

/-! Mi, part F: calls, classes, attributes, items. -/
namespace Mi
open PySem PySem.Spec PyProof.Rows L2

/-- what a def promises, by its function on data -/
def spOf (T : Nat → Addr) (K : PySem.W.Frag) (n : Nat) (f : Sem) : Sp := fun vs H Q E => ∃ ρ h ds, Rel T K ρ h H ∧ RepVs T K ρ H ds vs ∧ ds.length = n ∧ At T K (RepV T K) (fun c d _ H' => E c d H') Q [] ρ H (f ds h)
theorem At.slots {T : Nat → Addr} {K : PySem.W.Frag} {α β : Type} {Rp : List Addr → Hp → α → β → Prop} {W : WX} {Q : β → Hp → Prop} {σ : L2.St} {ρ : List Addr} {H : Hp} {r : RE α} (a : At T K Rp W Q σ ρ H r) : At T K Rp (fun c d _ H' => W c d σ H') Q [] ρ H r := by
  cases r with
  | ok x h' => exact a
  | ex x h' => exact a
  | no => exact a
/-- a def that can be called from X -/
structure Fn1 (T : Nat → Addr) (X : Cx) (fa : Addr) (f : Sem) (np : Nat) (dfl : List D) : Prop where
  kp : PySem.W.keepIn X.K (.ref fa) = true
  ex : ∃ (fd : FuncData) (ps : List Str) (k : Nat), FnOk X.prog X.w X.K X.mg X.base (L2.CX X.prog X.w) k fa fd ps (spOf T X.K np f) ∧ Room (k + 1) X.A ∧
    ∀ r, r ≤ dfl.length → ∃ (ds : List Value) (dvs : List V), Binds X.K fd ps ds ∧ Vals dvs ds ∧ ∀ ρ H, RepVs T X.K ρ H (dfl.drop (dfl.length - r)) dvs
section
variable {T : Nat → Addr} {X : Cx} {K : PySem.W.Frag} {ρ : List Addr} {h : Hh} {H : Hp}

theorem run_fnC {CX : CXT} {k : Nat} {f : Addr} {fd : FuncData} {ps : List Str} {sp : Sp} {dvs : List V} {ds : List Value} {E : XK} {pins : List (Addr × Obj)} {σ : L2.St} {s : Shared} {Q : VK} {us : List Value} {vs : List V} (F : FnOk X.prog X.w X.K X.mg X.base CX k f fd ps sp) (hr : Room k X.A) (hb : Binds X.K fd ps ds) (hd : Vals dvs ds) (hx : PassesAt CX X σ E)
    (I : Inv X pins σ H s) (r : Vals vs us) (h : sp (vs ++ dvs) H Q E) : codeAny (model X.prog X.w) X.A (.call (.ref f) ⟨us, []⟩) (fun r s' => match r with | .ok (.ret v) => EP X pins σ Q v s' | .ok _ => False | .error e => X.xe e s') s := by
  have r2 : Vals (vs ++ dvs) (us ++ ds) := r.append hd
  have hl : (us ++ ds).length = ps.length := by rw [← r2.length]; exact F.len _ _ _ _ h
  refine codeAny_mono (F.run X.A X.stack s H ⟨us, []⟩ (us ++ ds) (vs ++ dvs) Q E hr I.env0 (hb s us I.kIn hl) r2 h) fun r s' hq => ?_
  cases r with
  | error e => exact hx pins H s e s' I hq
  | ok fl =>
    cases fl with
    | ret u => exact I.after hq
    | next => exact False.elim hq
    | brk => exact False.elim hq
    | cont => exact False.elim hq
theorem Fn1.call {fa : Addr} {f : Sem} {np : Nat} {dfl : List D} (F : Fn1 T X fa f np dfl) : CallC T X (.ref fa) (semCall f np dfl) := by
  intro W tk pins s σ H xs us Q ρ h ds I r R rs a
  obtain ⟨fd, ps, k, F, hr, hb⟩ := F.ex
  unfold semCall at a
  split at a
  · rename_i hc
    obtain ⟨dvl, dvs, b, vd, rd⟩ := hb (np - ds.length) hc.2
    have rr := rs.append (rd ρ H)
    refine run_fnC (E := fun c d H => W c d σ H) (dvs := dvs) F (hr.mono (Nat.le_succ k)) b vd (passAt tk σ) I r ⟨ρ, h, _, R, rr, ?_, At.slots a⟩
    rw [List.length_append, List.length_drop]
    omega
  · exact a.elim

theorem plain_any {es : List Expr} {env : Env} {pos : Pos} : ∀ {es : List Expr}, (∀ e ∈ es, ∀ a p, e ≠ .Starred a p) → (backTo pos (starEach es env)).any (·.1) = false
  | [], _ => rfl
  | e :: r, hp => by
    rw [star_ne (hp e List.mem_cons_self)]
    show (false || (backTo pos (starEach r env)).any (·.1)) = false
    rw [plain_any (fun e he => hp e (List.mem_cons_of_mem _ he)), Bool.or_false]
    all_goals exact r
/-- f(..), f a global's name: a def or a class of the text -/
theorem pd_call {x : Str} {fa : Addr} {o : Sem} {e : Expr} {es : List Expr} {ms : MEs} {p pos : Pos} (ho : CallD T X (.ref fa) o) (hk : PySem.W.keepIn X.K (.ref fa) = true) (hg : Gl X x) (hm : X.mg x = some (.ref fa)) (ha : PDs T X (e :: es) ms)
    (hs : ∀ e' ∈ e :: es, ∀ a p, e' ≠ .Starred a p) (hdb : (x == ("__debug__" : Str)) = false) : PD T X (.Call (.Name x p) (e :: es) [] pos) (mCall o ms) := fun W tk => by
  refine ⟨fun pins s σ H Q I ⟨ρ, h, δ, R, S, a⟩ => ?_⟩
  have q : tMs T X.K W ms σ H (fun vs H1 => ∃ ρ h ds, Rel T X.K ρ h H1 ∧ RepVs T X.K ρ H1 ds vs ∧ At T X.K (RepV T X.K) W Q σ ρ H1 (o ds h)) :=
    ⟨ρ, h, δ, R, S, At.bind a fun ds h1 ρ1 H1 vs _ g R1 rv a1 => ⟨ρ1, h1, ds, R1, rv, a1⟩⟩
  refine wpAny_Call_Name_kw (ld_glob I hg hm ?_ hdb)
  refine PySem.W.callWith_K (h₀ := X.base) I.ok.mod.kin hk (thn ((ha W tk).run pos pins s σ H _ I q) fun us s1 ⟨vs, H1, I1, r, ρ, h, ds, R, rv, a⟩ => ⟨I1.kIn, ?_⟩) (star_ne (hs e List.mem_cons_self)) (plain_any (es := es) fun e he => hs e (List.mem_cons_of_mem _ he))
  exact ho W tk pins s1 σ H1 vs us Q ρ h ds I1 r R rv a
theorem pd_call0 {x : Str} {fa : Addr} {o : Sem} {p pos : Pos} (ho : CallD T X (.ref fa) o) (hk : PySem.W.keepIn X.K (.ref fa) = true) (hg : Gl X x) (hm : X.mg x = some (.ref fa)) (hdb : (x == ("__debug__" : Str)) = false) :
    PD T X (.Call (.Name x p) [] [] pos) (mCall o mNil) := fun W tk => by
  refine ⟨fun pins s σ H Q I ⟨ρ, h, δ, R, S, a⟩ => ?_⟩
  refine wpAny_Call_Name_kw (ld_glob I hg hm ?_ hdb)
  exact PySem.W.callWith_K0 I.kIn hk (ho W tk pins s σ H [] [] Q ρ h [] I .nil R .nil a)
/-- a built-in function, a built-in type -/
theorem pd_callB {x : Str} {id : String} {o : Sem} {e : Expr} {es : List Expr} {ms : MEs} {p pos : Pos} (ho : CallD T X (.builtin id) o) (hg : Gl X x) (hm : X.mg x = none) (hv : bootBuiltins x = some (.builtin id)) (ha : PDs T X (e :: es) ms)
    (hs : ∀ e' ∈ e :: es, ∀ a p, e' ≠ .Starred a p) (hn : x ≠ "__name__") (hdb : (x == ("__debug__" : Str)) = false) : PD T X (.Call (.Name x p) (e :: es) [] pos) (mCall o ms) := fun W tk => by
  refine ⟨fun pins s σ H Q I ⟨ρ, h, δ, R, S, a⟩ => ?_⟩
  have q : tMs T X.K W ms σ H (fun vs H1 => ∃ ρ h ds, Rel T X.K ρ h H1 ∧ RepVs T X.K ρ H1 ds vs ∧ At T X.K (RepV T X.K) W Q σ ρ H1 (o ds h)) :=
    ⟨ρ, h, δ, R, S, At.bind a fun ds h1 ρ1 H1 vs _ g R1 rv a1 => ⟨ρ1, h1, ds, R1, rv, a1⟩⟩
  refine wpAny_Call_Name_kw (ld_blt I hg hm hv ?_ hn hdb)
  exact PyProof.Rows.callWith_builtin1 (thn ((ha W tk).run pos pins s σ H _ I q) fun us s1 ⟨vs, H1, I1, r, ρ, h, ds, R, rv, a⟩ => ho W tk pins s1 σ H1 vs us Q ρ h ds I1 r R rv a) (star_ne (hs e List.mem_cons_self)) (plain_any (es := es) fun e he => hs e (List.mem_cons_of_mem _ he))
theorem pd_callTy {x : Str} {id : String} {o : Sem} {e : Expr} {es : List Expr} {ms : MEs} {p pos : Pos} (ho : CallD T X (.type id) o) (hg : Gl X x) (hm : X.mg x = none) (hv : bootBuiltins x = some (.type id)) (ha : PDs T X (e :: es) ms)
    (hs : ∀ e' ∈ e :: es, ∀ a p, e' ≠ .Starred a p) (hn : x ≠ "__name__") (hdb : (x == ("__debug__" : Str)) = false) : PD T X (.Call (.Name x p) (e :: es) [] pos) (mCall o ms) := fun W tk => by
  refine ⟨fun pins s σ H Q I ⟨ρ, h, δ, R, S, a⟩ => ?_⟩
  have q : tMs T X.K W ms σ H (fun vs H1 => ∃ ρ h ds, Rel T X.K ρ h H1 ∧ RepVs T X.K ρ H1 ds vs ∧ At T X.K (RepV T X.K) W Q σ ρ H1 (o ds h)) :=
    ⟨ρ, h, δ, R, S, At.bind a fun ds h1 ρ1 H1 vs _ g R1 rv a1 => ⟨ρ1, h1, ds, R1, rv, a1⟩⟩
  refine wpAny_Call_Name_kw (ld_blt I hg hm hv ?_ hn hdb)
  exact PyProof.Rows.callWith_type1 (thn ((ha W tk).run pos pins s σ H _ I q) fun us s1 ⟨vs, H1, I1, r, ρ, h, ds, R, rv, a⟩ => ho W tk pins s1 σ H1 vs us Q ρ h ds I1 r R rv a) (star_ne (hs e List.mem_cons_self)) (plain_any (es := es) fun e he => hs e (List.mem_cons_of_mem _ he))

/-! ### instances -/
theorem RepF.lookup {f : Str} : ∀ {fs : List (Str × D)} {gs : List (Str × V)}, RepF T K ρ H fs gs → (fs.lookup f = none ∧ gs.lookup f = none) ∨ ∃ d v, fs.lookup f = some d ∧ gs.lookup f = some v ∧ RepV T K ρ H d v
  | _, _, .nil => .inl ⟨rfl, rfl⟩
  | _, _, @RepF.cons _ _ _ _ g d v fs gs r t => by
    by_cases e : f = g
    · have hb : (f == g) = true := beq_iff_eq.mpr e
      exact .inr ⟨d, v, by simp only [List.lookup, hb], by simp only [List.lookup, hb], r⟩
    · have hb : (f == g) = false := beq_eq_false_iff_ne.mpr e
      simp only [List.lookup, hb]
      exact RepF.lookup t
theorem RepF.length : ∀ {fs : List (Str × D)} {gs : List (Str × V)}, RepF T K ρ H fs gs → fs.length = gs.length
  | _, _, .nil => rfl
  | _, _, .cons _ t => congrArg Nat.succ (RepF.length t)
theorem RepF.put {f : Str} {d : D} {v : V} (r : RepV T K ρ H d v) : ∀ {fs : List (Str × D)} {gs : List (Str × V)}, RepF T K ρ H fs gs → RepF T K ρ H (putD f d fs) (putF f v gs)
  | _, _, .nil => .cons r .nil
  | _, _, @RepF.cons _ _ _ _ g d' v' fs gs r' t => by
    show RepF T K ρ H (if g = f then (g, d) :: fs else (g, d') :: putD f d fs) (if g = f then (g, v) :: gs else (g, v') :: putF f v gs)
    by_cases e : g = f
    · rw [if_pos e, if_pos e]; exact .cons r t
    · rw [if_neg e, if_neg e]; exact .cons r' (RepF.put r t)
/-- one call deeper -/
abbrev _root_.L2.Cx.in1 (X : Cx) : Cx := { X with A := X.A.in1 }
/-- what every own class of instances has -/
structure ClsK (K : PySem.W.Frag) (C : Addr) : Prop where
  cl : Cls K C
  ha : PySem.W.findIn K (.ref C) "__class__" = some (some (.builtin "object.__class__"))
  hn : PySem.W.specialIn K (.builtin "object.__class__") "__get__" = some (some (.builtin "getset_descriptor.__get__"))
  htk : PySem.W.takesIn K (.builtin "object.__class__") = some true
  hm : PySem.W.mroIn K C (.type "object") = some true
  sf : PySem.W.selfFirst K C = true
/-- what X knows of a class -/
structure CIok (T : Nat → Addr) (X : Cx) (ci : CI) : Prop where
  ck : ClsK X.K (T ci.id)
  no : ∀ f ∈ ci.fields, NoAttr X.K (T ci.id) f
  con : ∀ f d, ci.consts.lookup f = some d → ∃ v u, Con X.K (T ci.id) f v u ∧ ∀ ρ H, RepV T X.K ρ H d v
  prop : ∀ f s, ci.props.lookup f = some s → ∃ (p g : Addr) (fd : FuncData) (ps : List Str) (k : Nat), PropOf X.K (T ci.id) f p g ∧ FnOk X.prog X.w X.K X.mg X.base (L2.CX X.prog X.w) k g fd ps (spOf T X.K 1 s) ∧ Room (k + 1) X.A ∧ Binds X.K fd ps []
  meth : ∀ m s, ci.meths.lookup m = some s → ∃ (g : Addr), Meth X.K (T ci.id) m g ∧ PySem.W.fnIn X.K g = true ∧ CallC T X (.ref g) s ∧ CallC T X.in1 (.ref g) s
def CIsOk (T : Nat → Addr) (X : Cx) (cs : List CI) : Prop := ∀ ci ∈ cs, CIok T X ci
theorem find_ci {cs : List CI} {c : Nat} {ci : CI} (h : (cs.find? fun ci => ci.id == c) = some ci) : ci ∈ cs ∧ ci.id = c := ⟨List.mem_of_find?_eq_some h, by simpa using List.find?_some h⟩
/-- o.f, by the object -/
theorem attr_val {cs : List CI} {f : Str} (hcs : CIsOk T X cs) : UnD T X (fun v => getAttr v f true) (attrOf cs f) := by
  intro W tk pins s σ H x v Q ρ h d I rx R rd a
  unfold attrOf at a
  split at a
  · rename_i n
    obtain ⟨p, rfl, hp⟩ := rep_ref rd
    cases (show v = Value.ref p from rx)
    split at a
    · rename_i c fs e
      obtain ⟨dx, gs, hH, rf⟩ := R.obj hp e
      split at a
      · rename_i ci eci
        obtain ⟨hmem, hid⟩ := find_ci eci
        subst hid
        have C := hcs ci hmem
        split at a
        · rename_i hf
          have hno := C.no f (by simpa using hf)
          split at a
          · rename_i d' ed
            rcases rf.lookup (f := f) with ⟨e1, _⟩ | ⟨d2, v2, e1, e2, rv⟩
            · rw [e1] at ed; cases ed
            · rw [e1] at ed; cases ed
              exact getattr_ok I hH C.ck.cl hno e2 fun u s' I' ru => ⟨v2, H, I', ru, a ρ H v2 .refl R rv⟩
          · exact a.elim
        · split at a
          · rename_i pr epr
            obtain ⟨pp, g, fd, ps, k, hP, F, hr, hb⟩ := C.prop f pr epr
            refine getprop_ok (E := E0) (dvs := []) I hH C.ck.cl hP F hr hb .nil (fun _ _ _ _ _ _ _ h => ?_) ⟨ρ, h, [.ref n], R, .cons (.ref hp) .nil, rfl, ?_⟩
            · obtain ⟨_, _, _, _, _, _, _, _, _, _, _, _, z⟩ := h
              exact z.elim
            · cases hq : pr [.ref n] h with
              | ok z h' => rw [hq] at a; exact a
              | ex z h' => rw [hq] at a; exact a.elim
              | no => rw [hq] at a; exact a.elim
          · split at a
            · rename_i d' ed
              split at a
              · exact a.elim
              · rename_i hnl
                obtain ⟨v', u, hc, rv⟩ := C.con f d' ed
                rcases rf.lookup (f := f) with ⟨_, e2⟩ | ⟨d2, v2, e1, e2, _⟩
                · exact getcon_ok I hH C.ck.cl hc e2 fun s' I' => ⟨v', H, I', hc.rel, a ρ H v' .refl R (rv ρ H)⟩
                · rw [e1] at hnl; exact absurd rfl hnl
            · exact a.elim
      · exact a.elim
    · exact a.elim
  · exact a.elim
theorem pd_attr {cs : List CI} {f : Str} {e : Expr} {m : ME} {pos : Pos} (hcs : CIsOk T X cs) (he : PD T X e m) (hb : attributeBase e f X.env (eval e X.env) = eval e X.env) : PD T X (.Attribute e f pos) (mAttr cs f m) := fun W tk => by
  refine ⟨fun pins s σ H Q I ⟨ρ, h, δ, R, S, a⟩ => ?_⟩
  have q : tM T X.K W m σ H (fun x H1 => ∃ ρ h d, Rel T X.K ρ h H1 ∧ RepV T X.K ρ H1 d x ∧ At T X.K (RepV T X.K) W Q σ ρ H1 (attrOf cs f d h)) :=
    ⟨ρ, h, δ, R, S, At.bind a fun d h1 ρ1 H1 v _ g R1 rv a1 => ⟨ρ1, h1, d, R1, rv, a1⟩⟩
  exact attr_of hb (thn ((he W tk).run pins s σ H _ I q) fun u s1 ⟨x, H1, I1, rx, ρ, h, d, R, rd, a⟩ => attr_val hcs W tk pins s1 σ H1 x u Q ρ h d I1 rx R rd a)

/-! ### items -/
def rIxD : R2 := fun x y H Q => ∃ a v, x = .ref a ∧ DGet H a y (some v) ∧ Q v H
theorem ix_dict (hu : X.A.units + 1 < cLine) : IxR X rIxD := by
  intro value slice pins s σ H x y v u Q I rx ry h hs
  obtain ⟨a, z, rfl, g, q⟩ := h
  cases (show v = Value.ref a from rx)
  have hT := dict_typeIs I g
  unfold subscriptTail
  refine wpAny_bind ?_
  rw [getitemInPython_of_ne hT.not_modules]
  refine wpAny_bind (wpAny_specialOf hT PySem.F.slot_dict_getitem.lookup ?_)
  have fin : wpAny (model X.prog X.w) X.A (subscripted slice false (.ref a) u) (fun r s₃ => wpAny (model X.prog X.w) X.A (letTemporaryGo value (.ref a) r >>= fun _ => pure r) (EP X pins σ Q) X.xe s₃) X.xe s := by
    rw [hs]
    exact wpAny_operating (d_getItem hu I g ry fun w' s3 I3 rw' => wpAny_bind (wpAny_letTemporaryGo (wpAny_pure ⟨z, H, I3, rw', q⟩)))
  first
    | exact wpAny_pure (wpAny_bind fin)
    | exact wpAny_bind (wpAny_pure (wpAny_bind fin))
    | exact wpAny_bind fin
theorem atD_rep {ds : List D} {vs : List V} {i : Int} {d : D} (r : RepVs T K ρ H ds vs) (e : atD ds i = some d) : ∃ v, atI vs i = some v ∧ RepV T K ρ H d v := by
  unfold atD at e
  cases z : ixD ds.length i with
  | none => rw [z] at e; cases e
  | some j =>
    rw [z] at e
    obtain ⟨v, e1, e2⟩ := r.get (show ds[j]? = some d from e)
    refine ⟨v, ?_, e2⟩
    unfold atI
    rw [show ixN vs.length i = some j by rw [← r.length]; exact z]
    exact e1
theorem pd_ix {a b : Expr} {pos : Pos} {ma mb : ME} (hu : X.A.units + 1 < cLine) (ha : PD T X a ma) (hb : PD T X b mb) (hs : PlainIx b) : PD T X (.Subscript a b pos) (mBin opSub' ma mb) := fun W tk =>
  PE.weak (pe_ix (ix_seq.or (ix_dict hu)) (ha W tk) (hb W tk) hs) fun σ H Q ⟨ρ, h, δ, R, S, a⟩ => by
    refine ⟨ρ, h, δ, R, S, At.bind a fun d h1 ρ1 H1 v _ g R1 rv a1 => ?_⟩
    refine ⟨ρ1, h1, δ, R1, S.mono g, At.bind a1 fun e h2 ρ2 H2 u _ g2 R2 ru a2 => ?_⟩
    have rv := rv.mono g2
    unfold opSub' at a2
    split at a2
    · unfold opDk at a2
      split at a2
      · obtain ⟨p, rfl, hp⟩ := rep_ref rv
        split at a2
        · rename_i kvs e
          obtain ⟨kx, q1, rs⟩ := R2.obj hp e
          split at a2
          · rename_i d' ed
            rw [key_rep ru (by assumption)]
            rcases valD_rep rs with ⟨e1, e2⟩ | ⟨d2, v2, e1, e2, r2⟩
            · rw [e1] at ed; cases ed
            · rw [e1] at ed; cases ed
              refine .inr ⟨p, v2, rfl, ?_, a2 ρ2 H2 v2 .refl R2 r2⟩
              rw [← e2]
              exact DGet.k q1
          · exact a2.elim
        · exact a2.elim
      · exact a2.elim
    · unfold opIx at a2
      split at a2
      · rename_i ds i
        obtain ⟨p, xs, rfl, q1, rs⟩ := rep_tup' rv
        cases rep_int ru
        split at a2
        · rename_i d' ed
          obtain ⟨v2, e1, r2⟩ := atD_rep rs ed
          exact .inl (.inr (.inl ⟨p, xs, _, v2, rfl, rfl, q1, e1, a2 ρ2 H2 v2 .refl R2 r2⟩))
        · exact a2.elim
      · rename_i n i
        obtain ⟨p, rfl, hp⟩ := rep_ref rv
        cases rep_int ru
        split at a2
        · rename_i ds el
          obtain ⟨xs, q1, rs⟩ := R2.lstAt hp el
          split at a2
          · rename_i d' ed
            obtain ⟨v2, e1, r2⟩ := atD_rep rs ed
            exact .inl (.inl ⟨p, xs, _, v2, rfl, rfl, q1, e1, a2 ρ2 H2 v2 .refl R2 r2⟩)
          · exact a2.elim
        · exact a2.elim
      · cases rep_str rv
        cases rep_int ru
        split at a2
        · rename_i hl
          split at a2
          · rename_i c ec
            exact .inl (.inr (.inr ⟨_, _, c, rfl, rfl, maxLen_line hl, ec, a2 ρ2 H2 _ .refl R2 (.str _)⟩))
          · exact a2.elim
        · exact a2.elim
      · exact a2.elim
end
end Mi

/-! Mi, part G: statements. -/
namespace Mi
open PySem PySem.Spec PyProof.Rows L2

section
variable (T : Nat → Addr) (X : Cx)
def PSd (st : Stmt) (m : MS) : Prop := ∀ W, Takes X W → PS X st (tMS T X.K W m)
def PSsd (st : List Stmt) (m : MS) : Prop := ∀ W, Takes X W → PSs X st (tMS T X.K W m)
/-- a target: the slots at js are set -/
def tMG (K : PySem.W.Frag) (g : MG) (js : List Nat) : TG := fun v σ H Q => ∃ (ρ : List Addr) (d : D) (δ δ' : Dl), RepV T K ρ H d v ∧ RepS T K ρ H δ σ ∧ g d δ = some δ' ∧
  ∀ σ', RepS T K ρ H δ' σ' → (σ'.length = σ.length ∧ ∀ i, i ∉ js → σ'[i]? = σ[i]?) → Q σ' H
def tMGs (K : PySem.W.Frag) (g : MGs) (js : List Nat) : TGs := fun vs σ H Q => ∃ (ρ : List Addr) (ds : List D) (δ δ' : Dl), RepVs T K ρ H ds vs ∧ RepS T K ρ H δ σ ∧ g ds δ = some δ' ∧
  ∀ σ', RepS T K ρ H δ' σ' → (σ'.length = σ.length ∧ ∀ i, i ∉ js → σ'[i]? = σ[i]?) → Q σ' H
def PGd (tg : Expr) (g : MG) (js : List Nat) : Prop := PG X tg (tMG T X.K g js)
def PGsd (tgs : List Expr) (g : MGs) (js : List Nat) : Prop := PGs X tgs (tMGs T X.K g js)
end
theorem PG.weak {X : Cx} {e : Expr} {t t' : TG} (p : PG X e t) (k : ∀ v σ H Q, t' v σ H Q → t v σ H Q) : PG X e t' := ⟨fun pins s σ H v u Q I r h => p.run pins s σ H v u Q I r (k v σ H Q h)⟩
theorem PGs.weak {X : Cx} {e : List Expr} {t t' : TGs} (p : PGs X e t) (k : ∀ v σ H Q, t' v σ H Q → t v σ H Q) : PGs X e t' := ⟨fun pins s σ H v u Q I r h => p.run pins s σ H v u Q I r (k v σ H Q h)⟩

section
variable {T : Nat → Addr} {X : Cx} {K : PySem.W.Frag} {ρ : List Addr} {h : Hh} {H : Hp} {δ : Dl} {σ : L2.St}
theorem RepS.set {i : Nat} {d : D} {v : V} (S : RepS T K ρ H δ σ) (r : RepV T K ρ H d v) : RepS T K ρ H (δ.set i (some d)) (σ.set i (some v)) := by
  refine ⟨by simp [S.1], fun j e he => ?_⟩
  by_cases hj : i = j
  · subst hj
    have hl : i < δ.length := by
      have := (List.getElem?_eq_some_iff.mp he).1
      simpa using this
    rw [List.getElem?_set_self hl] at he
    cases he
    exact ⟨v, by rw [List.getElem?_set_self (by rw [← S.1]; exact hl)], r⟩
  · rw [List.getElem?_set_ne hj] at he
    obtain ⟨w, e1, e2⟩ := S.2 j e he
    exact ⟨w, by rw [List.getElem?_set_ne hj]; exact e1, e2⟩
theorem RepS.unset (i : Nat) (S : RepS T K ρ H δ σ) : RepS T K ρ H (δ.set i none) (σ.set i none) := by
  refine ⟨by simp [S.1], fun j e he => ?_⟩
  by_cases hj : i = j
  · subst hj
    have hl : i < δ.length := by
      have := (List.getElem?_eq_some_iff.mp he).1
      simpa using this
    rw [List.getElem?_set_self hl] at he
    cases he
  · rw [List.getElem?_set_ne hj] at he
    obtain ⟨w, e1, e2⟩ := S.2 j e he
    exact ⟨w, by rw [List.getElem?_set_ne hj]; exact e1, e2⟩

/-! ### targets -/
theorem pgd_name {i : Nat} {x : Str} {pos : Pos} (hN : X.N.Nodup) (hi : X.N[i]? = some x) (hx : Loc X.env.scope x) (hf : X.fn x = true ∨ X.env.scope.names.lookup x = some .local) : PGd T X (.Name x pos) (gNm i) [i] :=
  PG.weak (pg_name hN hi hx hf) fun v σ H Q ⟨ρ, d, δ, δ', rd, S, e, k⟩ => by
    cases e
    refine k _ (S.set rd) ⟨by simp, fun j hj => ?_⟩
    simp only [List.mem_singleton] at hj
    rw [List.getElem?_set_ne (Ne.symm hj)]
theorem pgsd_nil : PGsd T X [] gNil' [] := PGs.weak pgs_nil fun vs σ H Q ⟨ρ, ds, δ, δ', rd, S, e, k⟩ => by
  cases rd with
  | nil => cases e; exact ⟨rfl, k σ S ⟨rfl, fun _ _ => rfl⟩⟩
  | cons _ _ => cases e
theorem tgt_ne {e : Expr} {es : List Expr} {env : Env} (h : ∀ a p, e ≠ .Starred a p) : (assignEach (e :: es) env).map (·.2) = assign e env :: (assignEach es env).map (·.2) := by
  cases e <;> first | rfl | exact absurd rfl (h _ _)
theorem pgsd_cons {e : Expr} {es : List Expr} {g : MG} {gs : MGs} {js ks : List Nat} (h1 : PGd T X e g js) (h2 : PGsd T X es gs ks) (hs : ∀ a p, e ≠ .Starred a p) : PGsd T X (e :: es) (gCons' g gs) (js ++ ks) :=
  PGs.weak (pgs_cons h1 h2 (tgt_ne hs)) fun vs σ H Q ⟨ρ, ds, δ, δ', rd, S, e, k⟩ => by
    cases rd with
    | nil => cases e
    | @cons d v ds vs r t =>
      have e : (g d δ).bind (gs ds) = some δ' := e
      cases z : g d δ with
      | none => rw [z] at e; cases e
      | some δ1 =>
        rw [z] at e
        refine ⟨v, vs, rfl, ρ, d, δ, δ1, r, S, z, fun σ' S' q' => ⟨ρ, ds, δ1, δ', t, S', e, fun σ2 S2 q2 => k σ2 S2 ⟨q2.1.trans q'.1, fun i hi => ?_⟩⟩⟩
        rw [q2.2 i (fun z => hi (List.mem_append_right _ z)), q'.2 i (fun z => hi (List.mem_append_left _ z))]
theorem each_plain : ∀ {es : List Expr} {env : Env}, (∀ e ∈ es, ∀ a p, e ≠ .Starred a p) → (assignEach es env).length = es.length ∧ (assignEach es env).findIdx? (·.1) = none
  | [], _, _ => ⟨rfl, rfl⟩
  | e :: r, env, hp => by
    have ih := each_plain (es := r) (env := env) fun e he => hp e (List.mem_cons_of_mem _ he)
    have e1 : assignEach (e :: r) env = (false, assign e env) :: assignEach r env := by
      have := hp e List.mem_cons_self
      cases e <;> first | rfl | exact absurd rfl (this _ _)
    rw [e1]
    refine ⟨by simp [ih.1], ?_⟩
    rw [List.findIdx?_cons]
    simp [ih.2]
theorem pgd_tup {es : List Expr} {k : Nat} {pos : Pos} {gs : MGs} {js : List Nat} {n : Nat} (hc : X.calm = true) (h : PGsd T X es gs js) (hp : ∀ e ∈ es, ∀ a p, e ≠ .Starred a p) (hn : es.length = n) (hlen : ∀ ds δ δ', gs ds δ = some δ' → ds.length = n) : PGd T X (.Tuple es k pos) (gTp gs) js :=
  PG.weak (pg_tup (n := n) hc h (by rw [(each_plain hp).1, hn]) (each_plain hp).2) fun v σ H Q ⟨ρ, d, δ, δ', rd, S, e, q⟩ => by
    cases d <;> try (cases e)
    obtain ⟨a, xs, rfl, q1, rs⟩ := rep_tup' rd
    exact ⟨a, xs, rfl, q1, by rw [← rs.length]; exact hlen _ _ _ e, ρ, _, δ, δ', rs, S, e, q⟩

/-! ### blocks -/
theorem psd_nil : PSsd T X [] sNil := fun W tk => PSs.weak pss_nil fun Dn σ H ⟨ρ, h, δ, R, S, a⟩ => a ρ H σ .refl R S
theorem psd_cons {st : Stmt} {rest : List Stmt} {a b : MS} (h1 : PSd T X st a) (h2 : PSsd T X rest b) : PSsd T X (st :: rest) (sSeq a b) := fun W tk =>
  PSs.weak (pss_cons (h1 W tk) (h2 W tk)) fun Dn σ H ⟨ρ, h, δ, R, S, q⟩ => by
    refine ⟨ρ, h, δ, R, S, ?_⟩
    unfold sSeq at q
    cases z : a δ h with
    | nx δ1 h1 => rw [z] at q; exact fun ρ' H' σ' g R' S' => ⟨ρ', h1, δ1, R', S', AtS.grow g q⟩
    | rt d h1 => rw [z] at q; exact q
    | bk d h1 => rw [z] at q; exact q
    | ct d h1 => rw [z] at q; exact q
    | ex x d h1 => rw [z] at q; exact q
    | no => rw [z] at q; exact q
theorem psd_pass {pos : Pos} : PSd T X (.Pass pos) sNil := fun W tk => PS.weak ps_pass fun Dn σ H ⟨ρ, h, δ, R, S, a⟩ => a ρ H σ .refl R S
theorem psd_expr {e : Expr} {m : ME} {pos : Pos} (he : PD T X e m) (hs : swapsWith e none pos.line X.env = pure false) : PSd T X (.Expr e pos) (sExpr m) := fun W tk =>
  PS.weak (ps_expr (he W tk) hs) fun Dn σ H ⟨ρ, h, δ, R, S, a⟩ => ⟨ρ, h, δ, R, S, At.st S a fun d h1 ρ1 H1 v _ g R1 rv a1 => a1 ρ1 H1 σ .refl R1 (S.mono g)⟩
theorem psd_ret {e : Expr} {m : ME} {pos : Pos} (he : PD T X e m) : PSd T X (.Return (some e) pos) (sRet m) := fun W tk =>
  PS.weak (ps_ret (he W tk)) fun Dn σ H ⟨ρ, h, δ, R, S, a⟩ => ⟨ρ, h, δ, R, S, At.st S a fun d h1 ρ1 H1 v _ g R1 rv a1 => a1 ρ1 H1 v .refl R1 rv⟩
theorem psd_retN {pos : Pos} : PSd T X (.Return none pos) sRetN := fun W tk => PS.weak ps_retN fun Dn σ H ⟨ρ, h, δ, R, S, a⟩ => a ρ H _ .refl R .non
theorem psd_asg {tg e : Expr} {m : ME} {g : MG} {js : List Nat} {pos : Pos} (he : PD T X e m) (hg : PGd T X tg g js) (hs : swapsWithSole [tg] e pos.line X.env = pure false) (hw : swappedStores [tg] e X.env = pure none)
    (hst : ∀ a p, tg ≠ .Starred a p) : PSd T X (.Assign [tg] e pos) (sAsg m g) := fun W tk =>
  PS.weak (ps_asg (he W tk) hg hs hw (by rw [tgt_ne hst]; rfl)) fun Dn σ H ⟨ρ, h, δ, R, S, a⟩ => by
    refine ⟨ρ, h, δ, R, S, At.st S a fun d h1 ρ1 H1 v _ g1 R1 rv a1 => ?_⟩
    split at a1
    · rename_i δ1 e1
      exact ⟨ρ1, d, δ, δ1, rv, S.mono g1, e1, fun σ' S' _ => a1 ρ1 H1 σ' .refl R1 S'⟩
    · exact a1.elim
theorem RepVs.two {ds : List D} {vs : List V} (r : RepVs T K ρ H ds vs) (hl : ds.length = 2) : ∃ d e v u, ds = [d, e] ∧ vs = [v, u] ∧ RepV T K ρ H d v ∧ RepV T K ρ H e u := by
  cases r with
  | nil => cases hl
  | cons r1 t =>
    cases t with
    | nil => cases hl
    | cons r2 t =>
      cases t with
      | nil => exact ⟨_, _, _, _, rfl, rfl, r1, r2⟩
      | cons _ _ => simp at hl
theorem psd_par {i j : Nat} {x y : Str} {a b : Expr} {ms : MEs} {px py pt pos : Pos} {kt k2 : Nat} {pt2 : Pos} (hc : X.calm = true) (hN : X.N.Nodup) (hi : X.N[i]? = some x) (hj : X.N[j]? = some y) (hij : i ≠ j)
    (hx : X.env.scope.names.lookup x = some .local) (hy : X.env.scope.names.lookup y = some .local) (ha : PDs T X [a, b] ms)
    (hw : swappedStores [.Tuple [.Name x px, .Name y py] kt pt] (.Tuple [a, b] k2 pt2) X.env = pure (some [x, y]))
    (hs : swapsWithSole [.Tuple [.Name x px, .Name y py] kt pt] (.Tuple [a, b] k2 pt2) pos.line X.env = pure false) :
    PSd T X (.Assign [.Tuple [.Name x px, .Name y py] kt pt] (.Tuple [a, b] k2 pt2) pos) (sPar [i, j] ms) := fun W tk =>
  PS.weak (ps_par hc hN hi hj hij hx hy (ha W tk) hw hs) fun Dn σ H ⟨ρ, h, δ, R, S, q⟩ => by
    refine ⟨ρ, h, δ, R, S, At.st S q fun ds h1 ρ1 H1 vs _ g1 R1 rv a1 => ?_⟩
    split at a1
    · rename_i hl
      obtain ⟨d, e, v, u, rfl, rfl, r1, r2⟩ := rv.two hl
      exact ⟨v, u, rfl, a1 ρ1 H1 _ .refl R1 (((S.mono g1).set r1).set r2)⟩
    · exact a1.elim
theorem psd_fld {cs : List CI} {o value : Expr} {f : Str} {mo mv : ME} {pos pos' : Pos} (hcs : CIsOk T X cs) (ho : PD T X o mo) (hv : PD T X value mv) (hs : swapsWith value (some (.Attribute o f pos')) pos.line X.env = pure false) :
    PSd T X (.Assign [.Attribute o f pos'] value pos) (Mi.sFld cs mo f mv) := fun W tk =>
  PS.weak (ps_fld (ho W tk) (hv W tk) hs) fun Dn σ H ⟨ρ, h, δ, R, S, a⟩ => by
    refine ⟨ρ, h, δ, R, S, At.st S a fun d h1 ρ1 H1 v _ g1 R1 rv a1 => ?_⟩
    refine ⟨ρ1, h1, δ, R1, S.mono g1, At.st (S.mono g1) a1 fun x h2 ρ2 H2 u _ g2 R2 ru a2 => ?_⟩
    split at a2
    · rename_i n
      obtain ⟨p, rfl, hp⟩ := rep_ref ru
      split at a2
      · rename_i c fs e
        obtain ⟨dx, gs, hH, rf⟩ := R2.obj hp e
        split at a2
        · rename_i ci eci
          obtain ⟨hmem, hid⟩ := find_ci eci
          subst hid
          have C := hcs ci hmem
          split at a2
          · rename_i hf
            rw [Bool.and_eq_true, decide_eq_true_eq] at hf
            refine ⟨p, T ci.id, dx, gs, rfl, hH, C.ck.cl, C.no f (by simpa using hf.1), by rw [← rf.length]; omega, ?_⟩
            obtain ⟨R3, g3⟩ := R2.put (u := .ins ci.id (putD f d fs)) (o' := .ins (T ci.id) dx (putF f v gs)) hp hH (fun xs z => by cases z) (fun ob xs z => by cases z) (fun ds z => by rw [e] at z; cases z)
              fun H' g' e' => ⟨dx, _, e', (rf.mono g').put ((rv.mono g2).mono g')⟩
            exact a2 _ _ σ g3 R3 (((S.mono g1).mono g2).mono g3)
          · exact a2.elim
        · exact a2.elim
      · exact a2.elim
    · exact a2.elim
theorem psd_if {c : Expr} {a b : List Stmt} {t : MT} {ma mb : MS} {pos : Pos} (hc : PDt T X c t) (ha : PSsd T X a ma) (hb : PSsd T X b mb) : PSd T X (.If c a b pos) (sIf t ma mb) := fun W tk =>
  PS.weak (ps_if (hc W tk) (ha W tk) (hb W tk)) fun Dn σ H ⟨ρ, h, δ, R, S, a⟩ => by
    refine ⟨ρ, h, δ, R, S, At.st S a fun k h1 ρ1 H1 b _ g1 R1 e a1 => ?_⟩
    subst e
    cases k with
    | true => exact ⟨ρ1, h1, δ, R1, S.mono g1, a1⟩
    | false => exact ⟨ρ1, h1, δ, R1, S.mono g1, a1⟩
theorem psd_while {c : Expr} {body : List Stmt} {t : MT} {mb : MS} {pos : Pos} (μ : Dl → Hh → Nat) (hp : PassesOwn (model X.prog X.w) X.A X.env X.xe) (hc : PDt T X c t) (hb : PSsd T X body mb) : PSd T X (.While c body [] pos) (sWhile μ t mb) := fun W tk =>
  PS.weak (ps_while hp (hc W tk) (hb W tk)) fun Dn σ H ⟨ρ, h, δ, R, S, a⟩ => by
    refine ⟨fun m σ H => ∃ ρ h δ, Rel T X.K ρ h H ∧ RepS T X.K ρ H δ σ ∧ AtS T X.K W Dn ρ H (wh t mb m δ h), ⟨_, ρ, h, δ, R, S, a⟩, ?_⟩
    rintro m σ H ⟨ρ, h, δ, R, S, a⟩
    cases m with
    | zero => exact a.elim
    | succ m =>
      refine ⟨ρ, h, δ, R, S, At.st S a fun k h1 ρ1 H1 b _ g1 R1 e a1 => ?_⟩
      subst e
      cases k with
      | false => exact a1 ρ1 H1 σ .refl R1 (S.mono g1)
      | true =>
        refine ⟨fun σ' H' => ∃ ρ h δ, Rel T X.K ρ h H' ∧ RepS T X.K ρ H' δ σ' ∧ AtS T X.K W Dn ρ H' (wh t mb m δ h), fun σ' H' n => ⟨m, Nat.lt_succ_self m, n⟩, ρ1, h1, δ, R1, S.mono g1, ?_⟩
        have a1' : AtS T X.K W Dn ρ1 H1 (match mb δ h1 with
          | .nx δ2 h2 => wh t mb m δ2 h2
          | .ct δ2 h2 => wh t mb m δ2 h2
          | .bk δ2 h2 => .nx δ2 h2
          | r => r) := a1
        cases z : mb δ h1 with
        | nx δ2 h2 => rw [z] at a1'; exact fun ρ' H' σ' g R' S' => ⟨ρ', h2, δ2, R', S', AtS.grow g a1'⟩
        | ct δ2 h2 => rw [z] at a1'; exact fun ρ' H' σ' g R' S' => ⟨ρ', h2, δ2, R', S', AtS.grow g a1'⟩
        | bk δ2 h2 => rw [z] at a1'; exact a1'
        | rt d h2 => rw [z] at a1'; exact a1'
        | ex x δ2 h2 => rw [z] at a1'; exact a1'
        | no => rw [z] at a1'; exact a1'.elim

/-! ### for -/
/-- what is walked stands so -/
def ItRep (T : Nat → Addr) (K : PySem.W.Frag) (ρ : List Addr) (H : Hp) : Mi.It → L2.It → Prop
  | .fix ds, J => ∀ ρ' H' h', Grow ρ H ρ' H' → Rel T K ρ' h' H' → (∀ (i : Nat) (d : D), ds[i]? = some d → J.go i H' ∧ ∀ x H'', J.yld i H' x H'' → Grow ρ' H' ρ' H'' ∧ Rel T K ρ' h' H'' ∧ RepV T K ρ' H'' d x) ∧ J.stop ds.length H'
  | .ls n, J => ∃ a, ρ[n]? = some a ∧ J = Itl K a
def AtI (T : Nat → Addr) (K : PySem.W.Frag) (W : WX) (R : L2.It → Hp → Prop) (σ : L2.St) (ρ : List Addr) (H : Hp) (r : RE Mi.It) : Prop := At T K (ItRep T K) W R σ ρ H r
def tMI (T : Nat → Addr) (K : PySem.W.Frag) (W : WX) (m : MI) : TI := fun σ H R => ∃ ρ h δ, Rel T K ρ h H ∧ RepS T K ρ H δ σ ∧ At T K (ItRep T K) W R σ ρ H (m δ h)
def PId (T : Nat → Addr) (X : Cx) (tg iter : Expr) (m : MI) : Prop := ∀ W, Takes X W → PI X tg iter (tMI T X.K W m)
theorem PI.weak {tg iter : Expr} {t t' : TI} (p : PI X tg iter t) (k : ∀ σ H R, t' σ H R → t σ H R) : PI X tg iter t' := ⟨fun pins s σ H R I h => p.run pins s σ H R I (k σ H R h)⟩
theorem itRep_tup {ds : List D} {xs : List V} {a : Addr} (q : SqT K H a xs) (r : RepVs T K ρ H ds xs) : ItRep T K ρ H (.fix ds) (Itt K a) := by
  intro ρ' H' h' g R
  have q' := g.tup q
  have r' := r.mono g
  refine ⟨fun i d e => ?_, ⟨xs, q', by rw [r.length]; exact Nat.le_refl _⟩⟩
  obtain ⟨v, e1, e2⟩ := r'.get e
  refine ⟨⟨xs, v, q', e1⟩, fun x H'' y => ?_⟩
  obtain ⟨rfl, y⟩ := y
  have := y xs q'
  rw [e1] at this; cases this
  exact ⟨.refl, R, e2⟩
theorem itRep_range {lo : Int} {n : Nat} : ItRep T K ρ H (.fix (rangeL lo n)) (Itr lo n) := by
  intro ρ' H' h' g R
  refine ⟨fun i d e => ?_, by show n ≤ _; simp [rangeL]⟩
  unfold rangeL at e
  rw [List.getElem?_map] at e
  have hi : i < n := by
    by_cases hi : i < n
    · exact hi
    · rw [List.getElem?_eq_none (by simpa using hi)] at e; cases e
  rw [List.getElem?_eq_getElem (by simpa using hi)] at e
  simp at e
  subst e
  refine ⟨hi, fun x H'' y => ?_⟩
  obtain ⟨rfl, rfl⟩ := y
  exact ⟨.refl, R, .int _⟩
/-- a list -/
theorem pid_list {tg l : Expr} {m : ME} (hl : PD T X l m) : PId T X tg l (fun δ h => (m δ h).bind fun x h1 => match x with
  | .ref n => match lstAt h1 n with
    | some _ => .ok (.ls n) h1
    | none => .no
  | _ => .no) := fun W tk => PI.weak (pi_list (hl W tk)) fun σ H R' ⟨ρ, h, δ, R, S, a⟩ => by
    refine ⟨ρ, h, δ, R, S, At.bind a fun d h1 ρ1 H1 v _ g1 R1 rv a1 => ?_⟩
    split at a1
    · rename_i n
      obtain ⟨p, rfl, hp⟩ := rep_ref rv
      split at a1
      · rename_i ds e
        obtain ⟨xs, q, _⟩ := R1.lstAt hp e
        exact ⟨p, rfl, ⟨xs, q⟩, a1 ρ1 H1 _ .refl R1 ⟨p, hp, rfl⟩⟩
      · exact a1.elim
    · exact a1.elim
theorem pid_tup {tg l : Expr} {m : ME} (hl : PD T X l m) : PId T X tg l (fun δ h => (m δ h).bind fun x h1 => match x with
  | .tup ds => .ok (.fix ds) h1
  | _ => .no) := fun W tk => PI.weak (pi_tup (hl W tk)) fun σ H R' ⟨ρ, h, δ, R, S, a⟩ => by
    refine ⟨ρ, h, δ, R, S, At.bind a fun d h1 ρ1 H1 v _ g1 R1 rv a1 => ?_⟩
    split at a1
    · obtain ⟨p, xs, rfl, q, rs⟩ := rep_tup' rv
      exact ⟨p, rfl, ⟨xs, q⟩, a1 ρ1 H1 _ .refl R1 (itRep_tup q rs)⟩
    · exact a1.elim
end
end Mi

/-! Mi, part H: for. -/
namespace Mi
open PySem PySem.Spec PyProof.Rows L2
section
variable {T : Nat → Addr} {X : Cx} {K : PySem.W.Frag} {ρ : List Addr} {h : Hh} {H : Hp} {δ : Dl} {σ : L2.St}
theorem psd_for {tg iter : Expr} {body : List Stmt} {mi : MI} {g : MG} {js : List Nat} {mb : MS} {pos : Pos} (hp : PassesOwn (model X.prog X.w) X.A X.env X.xe) (hc : X.calm = true) (hi : PId T X tg iter mi) (hg : PGd T X tg g js) (hb : PSsd T X body mb)
    (hs : ∀ x, foldedSetIterable iter X.env x = pure x) : PSd T X (.For tg iter body [] pos) (Mi.sFor mi g mb) := fun W tk =>
  PS.weak (ps_for hp hc (hi W tk) hg (hb W tk) hs) fun Dn σ H ⟨ρ, h, δ, R, S, a⟩ => by
    refine ⟨ρ, h, δ, R, S, At.st S a fun J h1 ρ1 H1 J' _ g1 R1 rj a1 => ?_⟩
    cases J with
    | fix ds =>
      refine ⟨fun i m σ' H' => i ≤ ds.length ∧ m = ds.length - i ∧ ∃ ρ2 h2 δ2, Grow ρ1 H1 ρ2 H' ∧ Rel T X.K ρ2 h2 H' ∧ RepS T X.K ρ2 H' δ2 σ' ∧ AtS T X.K W Dn ρ2 H' (forFix g mb (ds.drop i) δ2 h2), ⟨_, Nat.zero_le _, rfl, ρ1, h1, δ, .refl, R1, S.mono g1, a1⟩, ?_⟩
      rintro i m σ' H' ⟨hle, rfl, ρ2, h2, δ2, g2, R2, S2, a2⟩
      obtain ⟨hgo, hst⟩ := rj ρ2 H' h2 g2 R2
      rcases Nat.lt_or_eq_of_le hle with hlt | rfl
      · refine .inr ?_
        have e : ds[i]? = some ds[i] := List.getElem?_eq_getElem hlt
        obtain ⟨go, yl⟩ := hgo i ds[i] e
        refine ⟨go, fun σ3 H3 => ∃ ρ3 h3 δ3, Grow ρ1 H1 ρ3 H3 ∧ Rel T X.K ρ3 h3 H3 ∧ RepS T X.K ρ3 H3 δ3 σ3 ∧ AtS T X.K W Dn ρ3 H3 (forFix g mb (ds.drop (i + 1)) δ3 h3), fun σ3 H3 n => ⟨_, by omega, hlt, rfl, n⟩, ?_⟩
        intro x H3 y
        obtain ⟨gy, Ry, ry⟩ := yl x H3 y
        rw [List.drop_eq_getElem_cons hlt] at a2
        unfold forFix at a2
        try dsimp only at a2
        cases eg : g ds[i] δ2 with
        | none => rw [eg] at a2; exact a2.elim
        | some δ3 =>
          rw [eg] at a2
          try dsimp only at a2
          refine ⟨ρ2, ds[i], δ2, δ3, ry, S2.mono gy, eg, fun σ4 S4 _ => ⟨ρ2, h2, δ3, Ry, S4, ?_⟩⟩
          have a2 := AtS.grow gy a2
          cases z : mb δ3 h2 with
          | nx δ4 h4 => rw [z] at a2; exact fun ρ' H' σ' g' R' S' => ⟨ρ', h4, δ4, (g2.trans gy).trans g', R', S', AtS.grow g' a2⟩
          | ct δ4 h4 => rw [z] at a2; exact fun ρ' H' σ' g' R' S' => ⟨ρ', h4, δ4, (g2.trans gy).trans g', R', S', AtS.grow g' a2⟩
          | bk δ4 h4 => rw [z] at a2; exact a2
          | rt d h4 => rw [z] at a2; exact a2
          | ex x' δ4 h4 => rw [z] at a2; exact a2
          | no => rw [z] at a2; exact a2.elim
      · refine .inl ⟨hst, ?_⟩
        rw [List.drop_length] at a2
        exact a2 ρ2 H' σ' .refl R2 S2
    | ls n =>
      obtain ⟨p, hp', rfl⟩ := rj
      refine ⟨fun i m σ' H' => ∃ ρ2 h2 δ2, ρ2[n]? = some p ∧ Rel T X.K ρ2 h2 H' ∧ RepS T X.K ρ2 H' δ2 σ' ∧ AtS T X.K W Dn ρ2 H' (forLs g mb n m i δ2 h2), ⟨_, ρ1, h1, δ, hp', R1, S.mono g1, a1⟩, ?_⟩
      rintro i m σ' H' ⟨ρ2, h2, δ2, hp2, R2, S2, a2⟩
      cases m with
      | zero => exact a2.elim
      | succ m =>
        unfold forLs at a2
        try dsimp only at a2
        cases el : Mi.lstAt h2 n with
        | none => rw [el] at a2; exact a2.elim
        | some ds =>
          rw [el] at a2
          try dsimp only at a2
          obtain ⟨xs, q, rs⟩ := R2.lstAt hp2 el
          cases ei : ds[i]? with
          | none =>
            rw [ei] at a2
            exact .inl ⟨⟨xs, q, by rw [← rs.length]; exact List.getElem?_eq_none_iff.mp ei⟩, a2 ρ2 H' σ' .refl R2 S2⟩
          | some d =>
            rw [ei] at a2
            try dsimp only at a2
            obtain ⟨v, ev, rv⟩ := rs.get ei
            refine .inr ⟨⟨xs, v, q, ev⟩, fun σ3 H3 => ∃ ρ3 h3 δ3, ρ3[n]? = some p ∧ Rel T X.K ρ3 h3 H3 ∧ RepS T X.K ρ3 H3 δ3 σ3 ∧ AtS T X.K W Dn ρ3 H3 (forLs g mb n m (i + 1) δ3 h3), fun σ3 H3 z => ⟨m, Nat.lt_succ_self m, z⟩, ?_⟩
            rintro x H3 ⟨rfl, y⟩
            have := y xs q
            rw [ev] at this; cases this
            cases eg : g d δ2 with
            | none => rw [eg] at a2; exact a2.elim
            | some δ3 =>
              rw [eg] at a2
              try dsimp only at a2
              refine ⟨ρ2, d, δ2, δ3, rv, S2, eg, fun σ4 S4 _ => ⟨ρ2, h2, δ3, R2, S4, ?_⟩⟩
              cases z : mb δ3 h2 with
              | nx δ4 h4 => rw [z] at a2; exact fun ρ' H' σ' g' R' S' => ⟨ρ', h4, δ4, g'.at_ hp2, R', S', AtS.grow g' a2⟩
              | ct δ4 h4 => rw [z] at a2; exact fun ρ' H' σ' g' R' S' => ⟨ρ', h4, δ4, g'.at_ hp2, R', S', AtS.grow g' a2⟩
              | bk δ4 h4 => rw [z] at a2; exact a2
              | rt d h4 => rw [z] at a2; exact a2
              | ex x' δ4 h4 => rw [z] at a2; exact a2
              | no => rw [z] at a2; exact a2.elim

/-! ### range -/
theorem pid_range1 {tg a : Expr} {m : ME} {p pos : Pos} (hg : Gl X "range") (hm : X.mg "range" = none) (ha : PD T X a m) (hs : ∀ b q, a ≠ .Starred b q) : PId T X tg (.Call (.Name "range" p) [a] [] pos) (iRange1 m) := fun W tk =>
  PI.weak (pi_range1 hg hm (pds_cons ha pds_nil hs W tk) (by rw [star_ne hs]; rfl)) fun σ H R' ⟨ρ, h, δ, R, S, a⟩ => by
    refine ⟨ρ, h, δ, R, S, ?_⟩
    refine At.bind (f := fun ds h1 => match ds with | [.int j] => if -(2 ^ 62) ≤ j ∧ j < 2 ^ 62 then .ok (.fix (rangeL 0 j.toNat)) h1 else .no | _ => .no) (Rq := ItRep T X.K) (Q := R') ?_ fun ds h1 ρ1 H1 vs _ g1 R1 rv a1 => ?_
    · unfold iRange1 at a
      show At T X.K (ItRep T X.K) W R' σ ρ H (((m δ h).bind fun d h1 => (mNil δ h1).bind fun ds h2 => .ok (d :: ds) h2).bind _)
      cases z : m δ h with
      | ok d h1 => rw [z] at a; cases d <;> exact a
      | ex x h1 => rw [z] at a; exact a
      | no => rw [z] at a; exact a
    · split at a1
      · rename_i j
        cases rv with
        | cons r t =>
          cases t
          cases rep_int r
          split at a1
          · rename_i hj
            exact ⟨_, rfl, hj.1, hj.2, a1 ρ1 H1 _ .refl R1 itRep_range⟩
          · exact a1.elim
      · exact a1.elim
theorem pid_range2 {tg a b : Expr} {m m2 : ME} {p pos : Pos} (hg : Gl X "range") (hm : X.mg "range" = none) (ha : PD T X a m) (hb : PD T X b m2) (hs : ∀ b q, a ≠ .Starred b q) (hs2 : ∀ c q, b ≠ .Starred c q) : PId T X tg (.Call (.Name "range" p) [a, b] [] pos) (iRange2 m m2) := fun W tk =>
  PI.weak (pi_range2 hg hm (pds_cons ha (pds_cons hb pds_nil hs2) hs W tk) (by rw [star_ne hs, star_ne hs2]; rfl) (by rw [star_ne hs2]; rfl)) fun σ H R' ⟨ρ, h, δ, R, S, a⟩ => by
    refine ⟨ρ, h, δ, R, S, ?_⟩
    refine At.bind (f := fun ds h1 => match ds with | [x, y] => (match x, y with | .int i, .int j => if -(2 ^ 62) ≤ i ∧ i < 2 ^ 62 ∧ -(2 ^ 62) ≤ j ∧ j < 2 ^ 62 then .ok (.fix (rangeL i (j - i).toNat)) h1 else .no | _, _ => .no) | _ => .no) (Rq := ItRep T X.K) (Q := R') ?_ fun ds h1 ρ1 H1 vs _ g1 R1 rv a1 => ?_
    · unfold iRange2 at a
      show At T X.K (ItRep T X.K) W R' σ ρ H (((m δ h).bind fun d h1 => ((m2 δ h1).bind fun d h1 => (mNil δ h1).bind fun ds h2 => .ok (d :: ds) h2).bind fun ds h2 => .ok (d :: ds) h2).bind _)
      cases z : m δ h with
      | ok d h1 =>
        rw [z] at a
        show At T X.K (ItRep T X.K) W R' σ ρ H ((((m2 δ h1).bind fun d h1 => (mNil δ h1).bind fun ds h2 => .ok (d :: ds) h2).bind fun ds h2 => .ok (d :: ds) h2).bind _)
        have a : At T X.K (ItRep T X.K) W R' σ ρ H ((m2 δ h1).bind _) := a
        cases z2 : m2 δ h1 with
        | ok d2 h2 => rw [z2] at a; exact a
        | ex x h1 => rw [z2] at a; exact a
        | no => rw [z2] at a; exact a
      | ex x h1 => rw [z] at a; exact a
      | no => rw [z] at a; exact a
    · split at a1
      · rename_i x y
        split at a1
        · rename_i i j
          cases rv with
          | cons r t =>
            cases t with
            | cons r2 t =>
              cases t
              cases rep_int r
              cases rep_int r2
              split at a1
              · rename_i hj
                exact ⟨_, _, rfl, hj, a1 ρ1 H1 _ .refl R1 itRep_range⟩
              · exact a1.elim
        · exact a1.elim
      · exact a1.elim
/-- lists and tuples -/
theorem pid_seq {tg l : Expr} {m : ME} (hl : PD T X l m) : PId T X tg l (Mi.iList m) := fun W tk => ⟨fun pins s σ H R' I ⟨ρ, h, δ, R, S, a⟩ => by
  unfold Mi.iList at a
  cases z : m δ h with
  | ok d h1 =>
    rw [z] at a
    have a : At T X.K (ItRep T X.K) W R' σ ρ H (match (generalizing := false) d with
  | .ref n => match Mi.lstAt h1 n with
    | some _ => .ok (.ls n) h1
    | none => .no
  | .tup ds => .ok (.fix ds) h1
  | _ => .no) := a
    cases d with
    | ref n => exact (pid_list hl W tk).run pins s σ H R' I ⟨ρ, h, δ, R, S, by show At T X.K (ItRep T X.K) W R' σ ρ H ((m δ h).bind _); rw [z]; exact a⟩
    | tup ds => exact (pid_tup hl W tk).run pins s σ H R' I ⟨ρ, h, δ, R, S, by show At T X.K (ItRep T X.K) W R' σ ρ H ((m δ h).bind _); rw [z]; exact a⟩
    | _ => exact a.elim
  | ex x h1 => rw [z] at a; exact (pid_tup hl W tk).run pins s σ H R' I ⟨ρ, h, δ, R, S, by show At T X.K (ItRep T X.K) W R' σ ρ H ((m δ h).bind _); rw [z]; exact a⟩
  | no => rw [z] at a; exact a.elim⟩
end
end Mi

/-! Mi, part I: list comprehensions. -/
namespace Mi
open PySem PySem.Spec PyProof.Rows L2
theorem takes0' {X : Cx} : Takes X (fun _ _ _ _ => False) := fun _ _ x => by
  obtain ⟨_, _, _, _, _, _, _, _, _, _, _, _, _, _, _, _, z⟩ := x
  exact z.elim
def PTsd (T : Nat → Addr) (X : Cx) (es : List Expr) (m : MT) : Prop := ∀ W, Takes X W → PTs X es (tMT T X.K W m)
theorem PTs.weak {X : Cx} {e : List Expr} {t t' : TT} (p : PTs X e t) (k : ∀ σ H Q, t' σ H Q → t σ H Q) : PTs X e t' := ⟨fun pins s σ H Q I h => p.run pins s σ H Q I (k σ H Q h)⟩
section
variable {T : Nat → Addr} {X : Cx} {K : PySem.W.Frag} {ρ : List Addr} {h : Hh} {H : Hp} {δ : Dl} {σ : L2.St}
theorem ptsd_nil : PTsd T X [] tTrue := fun W tk => PTs.weak pts_nil fun σ H Q ⟨ρ, h, δ, R, S, a⟩ => a ρ H true .refl R rfl
theorem ptsd_one {c : Expr} {t : MT} (h : PDt T X c t) : PTsd T X [c] t := fun W tk => pts_one (h W tk)
theorem RepS.wipe (S : RepS T K ρ H δ σ) : ∀ vs : List Nat, RepS T K ρ H (wipeD δ vs) (L2.wipe σ vs)
  | [] => S
  | v :: vs => (RepS.wipe S vs).unset v
theorem wipe_in {σ : L2.St} {i : Nat} : ∀ {vs : List Nat}, i ∈ vs → i < σ.length → (L2.wipe σ vs)[i]? = some none
  | v :: vs, hi, hl => by
    unfold L2.wipe
    by_cases e : v = i
    · subst e
      rw [List.getElem?_set_self (by rw [wipe_length]; exact hl)]
    · rw [List.getElem?_set_ne e]
      exact wipe_in ((List.mem_cons.mp hi).resolve_left fun z => e z.symm) hl
theorem wipe_eq {σ σ' : L2.St} {vs : List Nat} (hl : σ'.length = σ.length) (h : ∀ i, i ∉ vs → σ'[i]? = σ[i]?) : L2.wipe σ' vs = L2.wipe σ vs := by
  refine List.ext_getElem? fun i => ?_
  by_cases hi : i ∈ vs
  · by_cases hl2 : i < σ.length
    · rw [wipe_in hi hl2, wipe_in hi (by rw [hl]; exact hl2)]
    · rw [List.getElem?_eq_none (by rw [wipe_length, hl]; omega), List.getElem?_eq_none (by rw [wipe_length]; omega)]
  · rw [wipe_out hi, wipe_out hi, h i hi]
theorem wipe_wipe {σ : L2.St} {vs : List Nat} : L2.wipe (L2.wipe σ vs) vs = L2.wipe σ vs := wipe_eq (wipe_length σ vs) fun i hi => wipe_out hi

/-- what one turn asks -/
theorem lc_turn {T : Nat → Addr} {K : PySem.W.Frag} {g : MG} {js vs : List Nat} {t : MT} {e : ME} {r : Nat} {D0 : Addr} {d : D} {x : V} {ρ : List Addr} {h : Hh} {δ : Dl} {σ : L2.St} {H : Hp} {Nx : Hp → Prop}
    (hjs : ∀ j ∈ js, j ∈ vs) (hr : ρ[r]? = some D0) (R : Rel T K ρ h H) (S : RepS T K ρ H δ (L2.wipe σ vs)) (rx : RepV T K ρ H d x)
    (k : (lcTurn g t e r d δ h).then fun h' => ∀ ρ' H', Grow ρ H ρ' H' → Rel T K ρ' h' H' → Nx H') :
    tMG T K g js x (L2.wipe σ vs) H fun σ2 H2 => L2.wipe σ2 vs = L2.wipe σ vs ∧ tMT T K (fun _ _ _ _ => False) t σ2 H2 fun b H3 =>
      if b = true then tM T K (fun _ _ _ _ => False) e σ2 H3 fun y H4 => ∃ acc, H4 D0 = some (.lst acc) ∧ acc.length < sizeLine ∧ Nx (upd H4 D0 (.lst (acc ++ [y]))) else Nx H3 := by
  unfold lcTurn at k
  cases eg : g d δ with
  | none => rw [eg] at k; exact k.elim
  | some δ1 =>
    rw [eg] at k
    refine ⟨ρ, d, δ, δ1, rx, S, eg, fun σ2 S2 q2 => ⟨?_, ρ, h, δ1, R, S2, ?_⟩⟩
    · rw [wipe_eq q2.1 fun i hi => q2.2 i fun z => hi (hjs i z), wipe_wipe]
    · have k : ((t δ1 h).bind (lcElt e r δ1)).then fun h' => ∀ ρ' H', Grow ρ H ρ' H' → Rel T K ρ' h' H' → Nx H' := k
      cases zt : t δ1 h with
      | no => rw [zt] at k; exact k.elim
      | ex x' h1 => rw [zt] at k; exact k.elim
      | ok b h1 =>
        rw [zt] at k
        intro ρ1 H1 b' g1 R1 eb
        subst eb
        cases b with
        | false => exact k ρ1 H1 g1 R1
        | true =>
          rw [if_pos rfl]
          refine ⟨ρ1, h1, δ1, R1, S2.mono g1, ?_⟩
          have k : ((e δ1 h1).bind (lcPut r)).then fun h' => ∀ ρ' H', Grow ρ H ρ' H' → Rel T K ρ' h' H' → Nx H' := k
          cases ze : e δ1 h1 with
          | no => rw [ze] at k; exact k.elim
          | ex x' h2 => rw [ze] at k; exact k.elim
          | ok y h2 =>
            rw [ze] at k
            intro ρ2 H2 v g2 R2 rv
            have k : (lcPut r y h2).then fun h' => ∀ ρ' H', Grow ρ H ρ' H' → Rel T K ρ' h' H' → Nx H' := k
            have hr2 := (g1.trans g2).at_ hr
            unfold lcPut at k
            cases za : app1 r y h2 with
            | none => rw [za] at k; exact k.elim
            | some h3 =>
              rw [za] at k
              unfold app1 at za
              split at za
              · rename_i ds eds
                split at za
                · rename_i hl
                  cases za
                  obtain ⟨acc, hacc, racc⟩ := R2.obj hr2 eds
                  refine ⟨acc, hacc, maxLen_lt (by rw [← racc.length]; exact Nat.le_of_lt hl), ?_⟩
                  obtain ⟨R3, g3⟩ := R2.put (u := .lst (ds ++ [y])) (o' := .lst (acc ++ [v])) hr2 hacc (fun xs z => by cases z) (fun ob xs z => by cases z) (fun ds z => by rw [eds] at z; cases z)
                    fun H' g' e' => ⟨_, e', (racc.mono g').append (.cons (rv.mono g') .nil)⟩
                  exact k _ _ ((g1.trans g2).trans g3) R3
                · cases za
              · cases za
theorem pd_comp {elt tg iter : Expr} {ifs : List Expr} {scope : Scope} {own : List (Str × Nat)} {pos : Pos} {mi : MI} {g : MG} {t : MT} {e : ME} {js vs : List Nat} (hvs : own.map (·.2) = vs) (hc : X.calm = true) (hN : X.N.Nodup) (hi : PId T X tg iter mi) (ok : BlkOk X.N X.env.scope scope own)
    (hg : ∀ (s : Shared) (H : Hp) (C : Addr) (cl : List (Str × Addr)) (fp : List Addr), PGd T (X.blk s H scope (compEnvC scope cl C X.env) fp) tg g js) (ht : ∀ (s : Shared) (H : Hp) (C : Addr) (cl : List (Str × Addr)) (fp : List Addr), PTsd T (X.blk s H scope (compEnvC scope cl C X.env) fp) ifs t)
    (he : ∀ (s : Shared) (H : Hp) (C : Addr) (cl : List (Str × Addr)) (fp : List Addr), PD T (X.blk s H scope (compEnvC scope cl C X.env) fp) elt e) (hs : ∀ x, foldedSetIterable iter X.env x = pure x) (hjs : ∀ j ∈ js, j ∈ vs) :
    PD T X (.ListComp elt [⟨tg, iter, ifs, 0⟩] scope pos) (mComp mi g t e vs) := fun W tk =>
  PE.weak (hvs ▸ pe_lc (g := tMG T X.K g js) hc hN (hi W tk) ok hg (fun s H C cl fp => ht s H C cl fp _ takes0') (fun s H C cl fp => he s H C cl fp _ takes0') hs) fun σ H Q ⟨ρ, h, δ, R, S, a⟩ => by
    refine ⟨ρ, h, δ, R, S, At.bind a fun J h1 ρ1 H1 J' _ g1 R1 rj a1 => ?_⟩
    intro D0 hD
    obtain ⟨R2, g2, r2⟩ := R1.newLst (ds := []) (xs := []) hD .nil
    have hr2 : (ρ1 ++ [D0])[h1.length]? = some D0 := by cases r2; assumption
    have S2 := ((S.mono g1).mono g2).wipe vs
    cases J with
    | fix ds =>
      refine ⟨fun i m H' => i ≤ ds.length ∧ m = ds.length - i ∧ ∃ ρ2 h2, Grow (ρ1 ++ [D0]) (upd H1 D0 (.lst [])) ρ2 H' ∧ Rel T X.K ρ2 h2 H' ∧ At T X.K (RepV T X.K) W Q σ ρ2 H' (lcFix g t e h1.length (ds.drop i) (wipeD δ vs) h2), ⟨_, Nat.zero_le _, rfl, _, _, .refl, R2, At.grow g2 a1⟩, ?_⟩
      rintro i m H' ⟨hle, rfl, ρ3, h3, g3, R3, a3⟩
      obtain ⟨hgo, hst⟩ := rj ρ3 H' h3 (g2.trans g3) R3
      rcases Nat.lt_or_eq_of_le hle with hlt | rfl
      · refine .inr ?_
        have eds : ds[i]? = some ds[i] := List.getElem?_eq_getElem hlt
        obtain ⟨go, yl⟩ := hgo i ds[i] eds
        refine ⟨go, fun H4 => ∃ ρ4 h4, Grow (ρ1 ++ [D0]) (upd H1 D0 (.lst [])) ρ4 H4 ∧ Rel T X.K ρ4 h4 H4 ∧ At T X.K (RepV T X.K) W Q σ ρ4 H4 (lcFix g t e h1.length (ds.drop (i + 1)) (wipeD δ vs) h4), fun H4 n => ⟨_, by omega, hlt, rfl, n⟩, ?_⟩
        intro x H4 y
        obtain ⟨gy, Ry, ry⟩ := yl x H4 y
        rw [List.drop_eq_getElem_cons hlt] at a3
        unfold lcFix at a3
        refine lc_turn (t := t) (e := e) (δ := wipeD δ vs) (h := h3) hjs ((g3.trans gy).at_ hr2) Ry (S2.mono (g3.trans gy)) ry ?_
        cases z : lcTurn g t e h1.length ds[i] (wipeD δ vs) h3 with
        | ok u h5 =>
          rw [z] at a3
          exact fun ρ' H' g' R' => ⟨ρ', h5, (g3.trans gy).trans g', R', At.grow (gy.trans g') a3⟩
        | ex x' h5 => rw [z] at a3; exact a3.elim
        | no => rw [z] at a3; exact a3.elim
      · refine .inl ⟨hst, ?_⟩
        rw [List.drop_length] at a3
        exact a3 ρ3 H' _ .refl R3 (.ref (g3.at_ hr2))
    | ls n =>
      obtain ⟨p, hp', rfl⟩ := rj
      refine ⟨fun i m H' => ∃ ρ2 h2, Grow (ρ1 ++ [D0]) (upd H1 D0 (.lst [])) ρ2 H' ∧ Rel T X.K ρ2 h2 H' ∧ At T X.K (RepV T X.K) W Q σ ρ2 H' (lcLs g t e h1.length n m i (wipeD δ vs) h2), ⟨_, _, _, .refl, R2, At.grow g2 a1⟩, ?_⟩
      rintro i m H' ⟨ρ3, h3, g3, R3, a3⟩
      cases m with
      | zero => exact a3.elim
      | succ m =>
        unfold lcLs at a3
        try dsimp only at a3
        cases el : Mi.lstAt h3 n with
        | none => rw [el] at a3; exact a3.elim
        | some ds =>
          rw [el] at a3
          try dsimp only at a3
          obtain ⟨xs, q, rs⟩ := R3.lstAt ((g2.trans g3).at_ hp') el
          cases ei : ds[i]? with
          | none =>
            rw [ei] at a3
            exact .inl ⟨⟨xs, q, by rw [← rs.length]; exact List.getElem?_eq_none_iff.mp ei⟩, a3 ρ3 H' _ .refl R3 (.ref (g3.at_ hr2))⟩
          | some d =>
            rw [ei] at a3
            try dsimp only at a3
            obtain ⟨v, ev, rv⟩ := rs.get ei
            refine .inr ⟨⟨xs, v, q, ev⟩, fun H4 => ∃ ρ4 h4, Grow (ρ1 ++ [D0]) (upd H1 D0 (.lst [])) ρ4 H4 ∧ Rel T X.K ρ4 h4 H4 ∧ At T X.K (RepV T X.K) W Q σ ρ4 H4 (lcLs g t e h1.length n m (i + 1) (wipeD δ vs) h4), fun H4 z => ⟨m, Nat.lt_succ_self m, z⟩, ?_⟩
            rintro x H4 ⟨rfl, y⟩
            have := y xs q
            rw [ev] at this; cases this
            refine lc_turn (t := t) (e := e) (δ := wipeD δ vs) (h := h3) hjs (g3.at_ hr2) R3 (S2.mono g3) rv ?_
            cases z : lcTurn g t e h1.length d (wipeD δ vs) h3 with
            | ok u h5 =>
              rw [z] at a3
              exact fun ρ' H' g' R' => ⟨ρ', h5, g3.trans g', R', At.grow g' a3⟩
            | ex x' h5 => rw [z] at a3; exact a3.elim
            | no => rw [z] at a3; exact a3.elim
end
end Mi

/-! Mi, part J: classes: making, methods, calling, own operators, isinstance. -/
namespace Mi
open PySem PySem.Spec PyProof.Rows L2

/-- the result is a datum -/
theorem At.rep {T : Nat → Addr} {K : PySem.W.Frag} {ρ : List Addr} {H : Hp} {σ : L2.St} {W : WX} {Q : VK} {r : RE D} (a : At T K (RepV T K) W Q σ ρ H r) : At T K (RepV T K) W (fun v H' => Q v H' ∧ ∃ ρ' d, RepV T K ρ' H' d v) σ ρ H r := by
  cases r with
  | ok x h' => exact fun ρ' H' b g R p => ⟨a ρ' H' b g R p, ρ', x, p⟩
  | ex x h' => exact a
  | no => exact a
theorem cmpBack_of {T : Nat → Addr} {X : Cx} {pins : List (Addr × Obj)} {σ : L2.St} {Q : VK} {v : Value} {s' : Shared} (h : EP X pins σ (fun v H' => Q v H' ∧ ∃ ρ' d, RepV T X.K ρ' H' d v) v s') : PySem.W.CmpBack (EP X pins σ Q) v s' := by
  obtain ⟨x, H', I, r, q, ρ, d, rd⟩ := h
  have z : EP X pins σ Q v s' := ⟨x, H', I, r, q⟩
  cases v <;> first | exact z | (exfalso; cases rd <;> first | (obtain ⟨t, e⟩ := r; cases e; done) | (cases r; done))

def Tg.v (T : Nat → Addr) : Tg → Value
  | .b s => .type s
  | .c n => .ref (T n)
section
variable {T : Nat → Addr} {X : Cx} {K : PySem.W.Frag} {ρ : List Addr} {h : Hh} {H : Hp}
theorem tyX_rep (R : Rel T K ρ h H) {d : D} {v : V} {t : Tg} (hc : ∀ c, ClsK K (T c) ∨ t ≠ .c c) (r : RepV T K ρ H d v) (e : tgOf h d = some t) : TyX K H v (t.v T) := by
  cases d with
  | non => cases e; cases r; exact .base .non
  | bl b => cases e; cases r; exact .base (.bl b)
  | int b => cases e; cases r; exact .base (.int b)
  | str b => cases e; cases r; exact .base (.str b)
  | tup ds =>
    cases e
    obtain ⟨a, xs, rfl, q, _⟩ := rep_tup' r
    rcases q with q | q
    · rcases q with q | ⟨o, q⟩
      · exact .base (.tup q)
      · exact .fTuple q
    · obtain ⟨_, _, _, hl, hcl, _⟩ := q
      exact .kTuple hl hcl
  | cls c => cases e
  | ref n =>
    obtain ⟨a, rfl, hp⟩ := rep_ref r
    unfold tgOf at e
    dsimp only at e
    split at e
    · rename_i xs ho
      cases e
      obtain ⟨vs, q, _⟩ := R.obj hp ho
      exact .base (.lst q)
    · rename_i xs ho
      cases e
      obtain ⟨vs, q, _⟩ := R.obj hp ho
      rcases q with ⟨o, q⟩ | ⟨o, _, _, hl, hcl, _⟩
      · exact .base (.frz q)
      · exact .kList hl hcl
    · rename_i xs ho
      cases e
      obtain ⟨vs, q, _⟩ := R.obj hp ho
      exact .base (.dK q)
    · rename_i c fs ho
      cases e
      obtain ⟨dx, gs, q, _⟩ := R.obj hp ho
      rcases hc c with k | k
      · exact .base (.ins q k.cl k.ha k.hn k.htk k.hm)
      · exact absurd rfl k
    · cases e
end
/-- no super() -/
def plainBase : Expr → Bool
  | .Call (.Name id _) _ _ _ => id != "super"
  | _ => true
theorem abase {o : Expr} {m : Str} {env : Env} {w : PySem.Sem Value} (h : plainBase o = true) : attributeBase o m env w = w := by
  unfold attributeBase
  split
  · rename_i id p pos
    have h : (id != ("super" : Str)) = true := h
    simp only [h, Bool.true_or, if_true]
  · rfl
def starred : Expr → Bool
  | .Starred _ _ => true
  | _ => false
theorem not_starred {e : Expr} (h : starred e = false) : ∀ a p, e ≠ .Starred a p := fun a p z => by rw [z] at h; cases h
theorem starEach_plain {env : Env} : ∀ {es : List Expr}, (∀ e ∈ es, starred e = false) → (starEach es env).length = es.length ∧ (starEach es env).all (fun p => !p.1) = true
  | [], _ => ⟨rfl, rfl⟩
  | e :: r, h => by
    obtain ⟨h1, h2⟩ := starEach_plain (env := env) (es := r) fun e he => h e (List.mem_cons_of_mem _ he)
    rw [star_ne (not_starred (h e List.mem_cons_self))]
    exact ⟨by simp [h1], by simp [h2]⟩
theorem backTo_all {pos : Pos} : ∀ {l : List (Bool × PySem.Sem Value)}, (backTo pos l).all (fun p => !p.1) = l.all (fun p => !p.1)
  | [] => rfl
  | p :: r => by
    show ((!p.1) && (backTo pos r).all _) = ((!p.1) && r.all _)
    rw [backTo_all]
theorem mcall_eq {o : Expr} {m : Str} {apos pos : Pos} {es : List Expr} {env : Env} (hp : ∀ e ∈ es, starred e = false) (hl : es.length < 30) (hpos : (apos.endLine == pos.line) = true) (hb : plainBase o = true) :
    eval (.Call (.Attribute o m apos) es [] pos) env = (do
      let ov ← eval o env
      standAt apos.atName
      let (f, first) ← holding [ov] (getMethod ov m (do return (← importBound o env).getD true))
      callWith pos f first (backTo pos (starEach es env)) (backToKw pos (keywordEach [] env))) := by
  have e : eval (.Call (.Attribute o m apos) es [] pos) env = (do
      let ov ← attributeBase o m env (eval o env)
      standAt apos.atName
      methodCall o m apos pos env ov (es.length + 0) (backTo pos (starEach es env)) (backToKw pos (keywordEach [] env))) := rfl
  rw [e, abase hb]
  have f : methodCallForm (es.length + 0) (backTo pos (starEach es env)) (backToKw pos (keywordEach [] env)) = true := by
    unfold methodCallForm
    rw [backTo_all, (starEach_plain hp).2]
    show (true && true && decide (es.length + 0 + 0 < 30)) = true
    simpa using hl
  unfold methodCall
  simp only [f]
  unfold calleeOf methodCallPos
  simp only [hpos, Bool.or_true, Bool.not_true, Bool.false_or, if_true, pure_bind]

section
variable {T : Nat → Addr} {X : Cx} {K : PySem.W.Frag} {ρ : List Addr} {h : Hh} {H : Hp}
/-- the arguments, then the call: what stands there is kept by K -/
theorem callw {es : List Expr} {ms : MEs} {f : Value} {first : List Value} {pos : Pos} {W : WX} {pins : List (Addr × Obj)} {s : Shared} {σ : L2.St} {Q : VK} {δ : Dl} {k : List D → Hh → RE D} (hk : PySem.W.keepIn X.K f = true) (hp : ∀ e ∈ es, starred e = false) (he : es ≠ []) (ha : PDs T X es ms) (tk : Takes X W)
    (I : Inv X pins σ H s) (R : Rel T X.K ρ h H) (S : RepS T X.K ρ H δ σ) (a : At T X.K (RepV T X.K) W Q σ ρ H ((ms δ h).bind k))
    (hc : ∀ (ρ2 : List Addr) (h2 : Hh) (H2 : Hp) (s2 : Shared) (ds : List D) (vs : List V) (us : List Value), Grow ρ H ρ2 H2 → Rel T X.K ρ2 h2 H2 → RepVs T X.K ρ2 H2 ds vs → Inv X pins σ H2 s2 → Vals vs us → At T X.K (RepV T X.K) W Q σ ρ2 H2 (k ds h2) → wpAny (model X.prog X.w) X.A (call f (first ++ us)) (EP X pins σ Q) X.xe s2) :
    wpAny (model X.prog X.w) X.A (callWith pos f first (backTo pos (starEach es X.env)) (backToKw pos (keywordEach [] X.env))) (EP X pins σ Q) X.xe s := by
  cases es with
  | nil => exact absurd rfl he
  | cons e es =>
    have q : tMs T X.K W ms σ H (fun vs H1 => ∃ ρ1 h1 ds, Grow ρ H ρ1 H1 ∧ Rel T X.K ρ1 h1 H1 ∧ RepVs T X.K ρ1 H1 ds vs ∧ At T X.K (RepV T X.K) W Q σ ρ1 H1 (k ds h1)) :=
      ⟨ρ, h, δ, R, S, At.bind a fun ds h1 ρ1 H1 vs _ g R1 rv a1 => ⟨ρ1, h1, ds, g, R1, rv, a1⟩⟩
    refine PySem.W.callWith_K (h₀ := X.base) I.ok.mod.kin hk (thn ((ha W tk).run pos pins s σ H _ I q) fun us s1 ⟨vs, H1, I1, r, ρ1, h1, ds, g, R1, rs, a1⟩ => ⟨I1.kIn, ?_⟩) (star_ne (not_starred (hp e List.mem_cons_self))) (plain_any (es := es) fun e he => not_starred (hp e (List.mem_cons_of_mem _ he)))
    exact hc ρ1 h1 H1 s1 ds vs us g R1 rs I1 r a1
theorem callw0 {f : Value} {first : List Value} {pos : Pos} {W : WX} {pins : List (Addr × Obj)} {s : Shared} {σ : L2.St} {Q : VK} {δ : Dl} {k : List D → Hh → RE D} (hk : PySem.W.keepIn X.K f = true)
    (I : Inv X pins σ H s) (R : Rel T X.K ρ h H) (a : At T X.K (RepV T X.K) W Q σ ρ H ((mNil δ h).bind k))
    (hc : ∀ (ρ2 : List Addr) (h2 : Hh) (H2 : Hp) (s2 : Shared) (ds : List D) (vs : List V) (us : List Value), Grow ρ H ρ2 H2 → Rel T X.K ρ2 h2 H2 → RepVs T X.K ρ2 H2 ds vs → Inv X pins σ H2 s2 → Vals vs us → At T X.K (RepV T X.K) W Q σ ρ2 H2 (k ds h2) → wpAny (model X.prog X.w) X.A (call f (first ++ us)) (EP X pins σ Q) X.xe s2) :
    wpAny (model X.prog X.w) X.A (callWith pos f first (backTo pos (starEach [] X.env)) (backToKw pos (keywordEach [] X.env))) (EP X pins σ Q) X.xe s :=
  PySem.W.callWith_K0 I.kIn hk (hc ρ h H s [] [] [] .refl R .nil I .nil a)

/-! ### making -/
/-- a class that can be made from X -/
structure Mk1 (T : Nat → Addr) (X : Cx) (c : Nat) (f : Sem) (np : Nat) (dfl : List D) : Prop where
  kp : PySem.W.keepIn X.K (.ref (T c)) = true
  ex : ∃ (fI : Addr) (fd : FuncData) (ps : List Str) (k : Nat), Mk X.K (T c) fI ∧ FnOk X.prog X.w X.K X.mg X.base (L2.CX X.prog X.w) k fI fd ps (spOf T X.K np f) ∧ Room (k + 1) X.A ∧
    ∀ r, r ≤ dfl.length → ∃ (ds : List Value) (dvs : List V), Binds X.K fd ps ds ∧ Vals dvs ds ∧ ∀ ρ H, RepVs T X.K ρ H (dfl.drop (dfl.length - r)) dvs
theorem run_makeAt {CX : CXT} {k : Nat} {f C : Addr} {fd : FuncData} {ps : List Str} {sp : Sp} {E : XK} {ds : List Value} {dvs : List V} {pins : List (Addr × Obj)} {σ : L2.St} {H : Hp} {s : Shared} {Q : VK} {us : List Value} {vs : List V} (M : Mk X.K C f) (F : FnOk X.prog X.w X.K X.mg X.base CX k f fd ps sp) (hr : Room (k + 1) X.A) (hb : Binds X.K fd ps ds) (hd : Vals dvs ds)
    (hx : PassesAt CX X σ E) (I : Inv X pins σ H s) (r : Vals vs us)
    (h : ∀ x dx, H x = none → H dx = none → dx ≠ x → sp (.ref x :: (vs ++ dvs)) (upd (upd H dx (.own x)) x (.ins C dx [])) (fun v H2 => v = .non ∧ Q (.ref x) H2) E) :
    wpAny (model X.prog X.w) X.A (call (.ref C) us) (EP X pins σ Q) X.xe s := by
  have hq := h (s.heap.objs.size + 1) s.heap.objs.size (I.hok.fresh (Nat.le_succ _)) (I.hok.fresh (Nat.le_refl _)) (Nat.ne_of_lt (Nat.lt_succ_self _))
  have I2 := Inv.made (C := C) I
  have r2 : Vals (V.ref (s.heap.objs.size + 1) :: (vs ++ dvs)) (Value.ref (s.heap.objs.size + 1) :: (us ++ ds)) := .cons rfl (r.append hd)
  have hl : (Value.ref (s.heap.objs.size + 1) :: us ++ ds).length = ps.length := by
    have e := r2.length
    rw [F.len _ _ _ _ hq] at e
    exact e.symm
  refine wpAny_call (make_map (f := f) I.kIn M.makes M.init (beq_iff_eq.mp M.fn) (codeAny_mono (F.run _ X.stack _ _ ⟨Value.ref (s.heap.objs.size + 1) :: us, []⟩ (Value.ref (s.heap.objs.size + 1) :: (us ++ ds)) _ _ E (hr.make C us [])
    (I2.env0.make C us []) (hb _ (Value.ref (s.heap.objs.size + 1) :: us) I2.kIn hl) r2 hq) fun r s' hq' => ?_))
  cases r with
  | error e => exact hx pins _ _ e s' I2 hq'
  | ok fl =>
    cases fl with
    | ret u =>
      obtain ⟨v, H', I3, rv, ev, q3⟩ := I2.after hq'
      subst ev
      exact ⟨rv, ⟨V.ref (s.heap.objs.size + 1), H', I3, rfl, q3⟩⟩
    | next => exact False.elim hq'
    | brk => exact False.elim hq'
    | cont => exact False.elim hq'
theorem Mk1.call {c : Nat} {f : Sem} {np : Nat} {dfl : List D} (M : Mk1 T X c f np dfl) : CallD T X (.ref (T c)) (mkIns c (semCall f np dfl)) := by
  intro W tk pins s σ H xs us Q ρ h ds I r R rs a
  obtain ⟨fI, fd, ps, k, M, F, hr, hb⟩ := M.ex
  unfold mkIns semCall at a
  split at a
  · rename_i hc
    obtain ⟨dvl, dvs, b, vd, rd⟩ := hb (np - (D.ref h.length :: ds).length) hc.2
    refine run_makeAt (E := fun c d H => W c d σ H) (dvs := dvs) M F hr b vd (passAt tk σ) I r fun x dx hx hdx hne => ?_
    have Rb : Rel T X.K ρ h (upd H dx (.own x)) := R.beside hdx
    have hx2 : upd H dx (.own x) x = none := by rw [upd_ne (Ne.symm hne)]; exact hx
    obtain ⟨R2, g2⟩ := Rb.new (o := .ins (T c) dx []) (u := .ins c []) hx2 ⟨dx, [], upd_same, .nil⟩
    have g : Grow ρ H (ρ ++ [x]) (upd (upd H dx (.own x)) x (.ins (T c) dx [])) := (grow_new hdx).trans g2
    have rr : RepVs T X.K (ρ ++ [x]) (upd (upd H dx (.own x)) x (.ins (T c) dx [])) ((D.ref h.length :: ds) ++ dfl.drop (dfl.length - (np - (D.ref h.length :: ds).length))) (.ref x :: (xs ++ dvs)) :=
      .cons (.ref (by rw [← R.len]; simp)) ((rs.mono g).append (rd _ _))
    refine ⟨_, _, _, R2, rr, ?_, ?_⟩
    · rw [List.length_append, List.length_drop]
      omega
    · refine At.slots (σ := σ) (W := W) (At.bind (Q := Q) (Rq := RepV T X.K) (At.grow g a) fun d h1 ρ1 H1 v _ g1 R1 rv a1 => ?_)
      cases d with
      | non =>
        refine ⟨by cases rv; rfl, a1 ρ1 H1 _ .refl R1 (.ref (g1.at_ (by rw [← R.len]; simp)))⟩
      | _ => exact False.elim a1
  · exact a.elim

/-! ### methods -/
theorem meth_find {cs : List CI} (hcs : CIsOk T X cs) {c : Nat} {m : Str} {s' : Sem} (e : methAt cs c m = some s') : ∃ g', Meth X.K (T c) m g' ∧ CallD T X (.ref g') s' ∧ Cls X.K (T c) := by
  unfold methAt at e
  cases z1 : cs.find? fun ci => ci.id == c with
  | none => rw [z1] at e; cases e
  | some ci =>
    rw [z1] at e
    obtain ⟨hmem, hid⟩ := find_ci z1
    subst hid
    obtain ⟨g', hm, _, hc, _⟩ := (hcs ci hmem).meth m s' e
    exact ⟨g', hm, hc.d, (hcs ci hmem).ck.cl⟩
theorem pd_meth {cs : List CI} {o : Expr} {m : Str} {es : List Expr} {mo : ME} {ms : MEs} {apos pos : Pos} (hcs : CIsOk T X cs) (ho : PD T X o mo) (ha : (es ≠ [] ∧ PDs T X es ms) ∨ (es = [] ∧ ms = mNil)) (hp : ∀ e ∈ es, starred e = false) (hl : es.length < 30) (hpos : (apos.endLine == pos.line) = true) (hb : plainBase o = true) :
    PD T X (.Call (.Attribute o m apos) es [] pos) (mMeth cs m mo ms) := fun W tk => by
  refine ⟨fun pins s σ H Q I ⟨ρ, h, δ, R, S, a⟩ => ?_⟩
  have q : tM T X.K W mo σ H (fun x H1 => ∃ ρ1 h1 d, Grow ρ H ρ1 H1 ∧ Rel T X.K ρ1 h1 H1 ∧ RepV T X.K ρ1 H1 d x ∧ At T X.K (RepV T X.K) W Q σ ρ1 H1 (match d with
  | .ref n => match h1[n]? with
    | some (.ins c fs) => if (fs.lookup m).isSome then .no else match methAt cs c m with
      | some f => (ms δ h1).bind fun ds h2 => f (d :: ds) h2
      | none => .no
    | _ => .no
  | _ => .no)) := ⟨ρ, h, δ, R, S, At.bind a fun d h1 ρ1 H1 v _ g R1 rv a1 => ⟨ρ1, h1, d, g, R1, rv, by cases d <;> exact a1⟩⟩
  refine PySem.W.methodCall_KW (thn ((ho W tk).run pins s σ H _ I q) fun u s1 ⟨x, H1, I1, rx, ρ1, h1, d, g, R1, rd, a1⟩ => ?_) (mcall_eq hp hl hpos hb)
  cases d <;> try exact False.elim a1
  rename_i n
  obtain ⟨p, rfl, hp1⟩ := rep_ref rd
  cases (show u = Value.ref p from rx)
  dsimp only at a1
  split at a1
  · rename_i c fs e
    obtain ⟨dx, gs, hH, rf⟩ := R1.obj hp1 e
    split at a1
    · exact a1.elim
    · rename_i hnl
      have hgs : gs.lookup m = none := by
        rcases rf.lookup (f := m) with ⟨_, e2⟩ | ⟨d2, v2, e1, e2, _⟩
        · exact e2
        · rw [e1] at hnl; exact absurd rfl hnl
      split at a1
      · rename_i s' es'
        obtain ⟨g', hm, hc, hcl⟩ := meth_find hcs es'
        refine getmeth_ok I1 hH hcl hm hgs ?_
        have call_ : ∀ (ρ2 : List Addr) (h2 : Hh) (H2 : Hp) (s2 : Shared) (ds : List D) (vs : List V) (us : List Value), Grow ρ1 H1 ρ2 H2 → Rel T X.K ρ2 h2 H2 → RepVs T X.K ρ2 H2 ds vs → Inv X pins σ H2 s2 → Vals vs us → At T X.K (RepV T X.K) W Q σ ρ2 H2 (s' (.ref n :: ds) h2) → wpAny (model X.prog X.w) X.A (call (.ref g') ([.ref p] ++ us)) (EP X pins σ Q) X.xe s2 :=
          fun ρ2 h2 H2 s2 ds vs us g2 R2 rs I2 r a2 => hc W tk pins s2 σ H2 (.ref p :: vs) (.ref p :: us) Q ρ2 h2 (.ref n :: ds) I2 (.cons rfl r) R2 (.cons (.ref (g2.at_ hp1)) rs) a2
        rcases ha with ⟨he, ha⟩ | ⟨rfl, rfl⟩
        · exact callw hm.kp hp he ha tk I1 R1 (S.mono g) a1 call_
        · exact callw0 hm.kp I1 R1 a1 call_
      · exact a1.elim
  · exact a1.elim
end
end Mi

/-! Mi, part K: != through object.__ne__. -/
namespace Mi
open PySem PySem.Spec PyProof.Rows PySem.W PySem.Calls
section
variable {prog : Program} {w : World} {A : Around} {E : Value → Shared → Prop} {s : Shared} {K : Frag} {x C L f : Addr} {h₀ : Heap} {m : Str → Option Value} {ox : Obj} {od : Option Obj} {b tb : Value}
theorem ifBound_B {M : Model} {name : Str} {id : String} {args : List Value} {Q : Option Value → Shared → Prop} (X : K.In s.heap) (I : InstAt s.heap x ox C od) (hs : findIn K (.ref C) name = some (some (.builtin id))) (hb : ∀ self, bindSpecial (.builtin id) self = pure (.builtin id, [self]))
    (h : wpAny M A (call (.builtin id) (.ref x :: args)) (fun v => Q (some v)) E s) : wpAny M A (callSpecialIfBound? (.ref x) name args) Q E s := by
  simp only [callSpecialIfBound?, bindSpecialIfBound?]
  refine wpAny_holding (wpAny_bind (wpAny_bind (wpAny_bind (I.type.here ((looks_findIn X hs).here ?_)))))
  refine wpAny_bind (wpAny_askSetting (wpAny_ite ?_))
  have fin : wpAny M A (call (.builtin id) ([.ref x] ++ args) >>= fun v => pure (some v)) Q E s := wpAny_bind (wpAny_mono h (fun v s' h' => wpAny_pure h') fun _ _ h' => h')
  simp only [hb]
  split
  · exact wpAny_bind (wpAny_pure (wpAny_pure fin))
  · exact wpAny_tryCatch (wpAny_bind (wpAny_pure (wpAny_pure fin)))
theorem ne_entry {Q : Fin → Shared → Prop} (X : K.In s.heap) (I : InstAt s.heap x ox C od) (he : findIn K (.ref C) "__eq__" = some (some (.ref f))) (hf : isFn K (.ref f) = true) (hu : A.units < cLine)
    (h : wpAny (model prog w) A (call (.ref f) [.ref x, b]) (fun v s' => ∃ k, v = .bool k ∧ Q (.done (.ret (.bool (!k)))) s') E s) : wpAny (model prog w) A (Builtin.«object.__ne__» ⟨[.ref x, b], []⟩) Q E s := by
  unfold Builtin.«object.__ne__»
  obtain ⟨hh, g, d, t, os⟩ := s
  repeat (first
    | with_reducible refine wpAny_cRoomFor hu ?_
    | (refine wpAny_bind (m := callSpecialIfBound? (.ref x) (Str.ofString "__eq__") [b])
        (ifBound_K X I he hf (wpAny_mono h (fun r s' hr => by
          obtain ⟨k, rfl, hq⟩ := hr
          repeat (first | exact hq | exact wpAny_pure hq | exact wpAny_truthy_bool hq | (refine wpAny_bind (m := truthy (.bool _)) (wpAny_truthy_bool ?_)) | wp_step)) fun _ _ e => e)))
    | wp_step)
theorem ne_K {Q : Value → Shared → Prop} (hu : A.units + 1 < cLine) (F : Fr h₀ L s.heap m) (X₀ : K.In h₀) (I : InstAt s.heap x ox C od) (hb : Looks (model prog w) s.heap (typeOf b) tb) (hn : notFirst K C tb = true)
    (hs : findIn K (.ref C) "__ne__" = some (some (.builtin "object.__ne__"))) (he : findIn K (.ref C) "__eq__" = some (some (.ref f))) (hf : isFn K (.ref f) = true) (hm : mroIn K C (.type "object") = some true)
    (h : wpAny (model prog w) A.in1 (call (.ref f) [.ref x, b]) (fun v s' => ∃ k, v = .bool k ∧ Q (.bool (!k)) s') E s) : wpAny (model prog w) A (richCompare .NotEq (.ref x) b) Q E s := by
  have X := X₀.keeps F.keep
  have one : wpAny (model prog w) A (tryCompare (.ref x) "__ne__" b) (fun r s' => ∃ v, r = some v ∧ Q v s') E s := by
    unfold tryCompare
    refine wpAny_bind (ifBound_B X I hs PySem.F.cmp_object.ne.bind (wpAny_call (codeAny_call_builtin PySem.F.cmp_object.ne.plain PySem.F.cmpEntry_ne
      (check_slot PySem.F.cmpKind_ne PySem.F.cmpSplit_ne (I.type.andThen (looks_mroIn X hm)) (PySem.F.cmpArgs_ne _ _) (ne_entry (A := A.in1) X I he hf hu (wpAny_mono h (fun v s' hv => ?_) fun _ _ e => e))))))
    obtain ⟨k, rfl, hq⟩ := hv
    first | exact ⟨k, rfl, wpAny_pure ⟨_, rfl, hq⟩⟩ | exact ⟨k, rfl, wpAny_pure (wpAny_pure ⟨_, rfl, hq⟩)⟩ | exact ⟨k, rfl, ⟨_, rfl, hq⟩⟩
  unfold richCompare
  simp only [oneThing_ref]
  refine wpAny_holding (wpAny_bind (wpAny_cRoomFor (Nat.lt_of_succ_lt hu) ?_))
  refine wpAny_bind (I.type.here (wpAny_bind (hb.here ?_)))
  split
  · rename_i q
    have e : subIn K tb (.ref C) = some false := by
      rcases Bool.or_eq_true_iff.mp hn with e | e
      · rw [beq_iff_eq.mp e] at q; simp at q
      · exact beq_iff_eq.mp e
    refine wpAny_bind ((looks_subIn X e).here ?_)
    simp only [Bool.false_eq_true, if_false]
    refine wpAny_bind (wpAny_mono one (fun r s' z => ?_) fun _ _ e => e)
    obtain ⟨v, rfl, hq⟩ := z
    exact wpAny_pure hq
  · refine wpAny_bind (wpAny_pure ?_)
    simp only [Bool.false_eq_true, if_false]
    refine wpAny_bind (wpAny_mono one (fun r s' z => ?_) fun _ _ e => e)
    obtain ⟨v, rfl, hq⟩ := z
    exact wpAny_pure hq
end
end Mi

/-! Mi, part L: own operators, calls of instances. -/
namespace Mi
open PySem PySem.Spec PyProof.Rows L2
/-- what the own classes have to each other -/
structure Kn (T : Nat → Addr) (K : PySem.W.Frag) (cs : List CI) : Prop where
  nf : ∀ ci ∈ cs, ∀ t ∈ tagsOf cs, notBelow ci t = true → PySem.W.notFirst K (T ci.id) (t.v T) = true
  ne : ∀ ci ∈ cs, ∀ s, ci.meths.lookup ("__eq__" : Str) = some s → PySem.W.findIn K (.ref (T ci.id)) "__ne__" = some (some (.builtin "object.__ne__"))
  rop : ∀ ci ∈ cs, ∀ op ∈ [Operator.Add, .Sub, .Mult, .RShift], PySem.W.findIn K (.ref (T ci.id)) (PySem.dunderR op.info.2) = some none
  ck : ∀ ci ∈ cs, ClsK K (T ci.id)
def isCallable : Expr → Bool
  | .Attribute _ _ _ => false
  | _ => true
theorem call_eq {fe : Expr} {es : List Expr} {pos : Pos} {env : Env} (h : isCallable fe = true) : eval (.Call fe es [] pos) env = (do callWith pos (← eval fe env) [] (backTo pos (starEach es env)) (backToKw pos (keywordEach [] env))) := by
  cases fe <;> first | rfl | cases h
section
variable {T : Nat → Addr} {X : Cx} {K : PySem.W.Frag} {ρ : List Addr} {h : Hh} {H : Hp}
theorem ins_at {pins : List (Addr × Obj)} {σ : L2.St} {s : Shared} (I : Inv X pins σ H s) (R : Rel T X.K ρ h H) {d : D} {v : V} {u : Value} {c : Nat} (rd : RepV T X.K ρ H d v) (ru : RelV v u) (e : clsAt h d = some c) :
    ∃ a ox od, u = .ref a ∧ v = .ref a ∧ PySem.W.InstAt s.heap a ox (T c) od ∧ ox.data = .plain := by
  unfold clsAt at e
  split at e
  · rename_i n
    obtain ⟨a, rfl, hp⟩ := rep_ref rd
    split at e
    · rename_i c' fs ho
      cases e
      obtain ⟨dx, gs, hH, _⟩ := R.obj hp ho
      obtain ⟨mA, O, _⟩ := ins_get I.hok hH
      obtain ⟨od, J, _⟩ := O.look
      exact ⟨a, _, _, ru, rfl, J, rfl⟩
    · cases e
  · cases e
theorem ck_of {cs : List CI} (kn : Kn T K cs) {h : Hh} {y : D} {t : Tg} (e : tgOf h y = some t) (ht : t ∈ tagsOf cs) : ∀ c, ClsK K (T c) ∨ t ≠ .c c := fun c => by
  by_cases z : t = .c c
  · subst z
    unfold tagsOf at ht
    rcases List.mem_append.mp ht with q | q
    · exact absurd q (by simp [tagB])
    · obtain ⟨ci, hm, e⟩ := List.mem_map.mp q
      cases e
      exact .inl (kn.ck ci hm)
  · exact .inr z
/-- the type of the right one -/
theorem ty_at {cs : List CI} (kn : Kn T X.K cs) {pins : List (Addr × Obj)} {σ : L2.St} {s : Shared} (I : Inv X pins σ H s) (R : Rel T X.K ρ h H) {d : D} {v : V} {u : Value} {t : Tg} (rd : RepV T X.K ρ H d v) (ru : RelV v u) (e : tgOf h d = some t) (ht : t ∈ tagsOf cs) :
    PySem.W.Looks (model X.prog X.w) s.heap (typeOf u) (t.v T) := by
  obtain ⟨P, Z, p, _⟩ := kit_of I ru (tyX_rep R (ck_of kn e ht) rd e)
  exact Z.ty _ _ I.kIn p
theorem meth_find' {cs : List CI} (hcs : CIsOk T X cs) {c : Nat} {m : Str} {s' : Sem} (e : methAt cs c m = some s') : ∃ ci ∈ cs, ci.id = c ∧ (ci.meths.lookup m = some s' ∧ (cs.find? fun ci => ci.id == c) = some ci) ∧ ∃ g', Meth X.K (T c) m g' ∧ PySem.W.fnIn X.K g' = true ∧ CallC T X (.ref g') s' ∧ CallC T X.in1 (.ref g') s' := by
  unfold methAt at e
  cases z1 : cs.find? fun ci => ci.id == c with
  | none => rw [z1] at e; cases e
  | some ci =>
    rw [z1] at e
    obtain ⟨hmem, hid⟩ := find_ci z1
    subst hid
    obtain ⟨g', hm, hf, hc, hc1⟩ := (hcs ci hmem).meth m s' e
    exact ⟨ci, hmem, rfl, ⟨e, rfl⟩, g', hm, hf, hc, hc1⟩

/-! ### calling an instance -/
theorem pd_callO {cs : List CI} {fe : Expr} {es : List Expr} {mf : ME} {ms : MEs} {pos : Pos} (hcs : CIsOk T X cs) (hf : PD T X fe mf) (hna : isCallable fe = true) (he : es ≠ []) (ha : PDs T X es ms) (hp : ∀ e ∈ es, starred e = false) : PD T X (.Call fe es [] pos) (mCallI cs mf ms) := fun W tk => by
  refine ⟨fun pins s σ H Q I ⟨ρ, h, δ, R, S, a⟩ => ?_⟩
  cases es with
  | nil => exact absurd rfl he
  | cons e es =>
  have q : tM T X.K W mf σ H (fun x H1 => ∃ ρ1 h1 n, Grow ρ H ρ1 H1 ∧ Rel T X.K ρ1 h1 H1 ∧ RepV T X.K ρ1 H1 (.ref n) x ∧ At T X.K (RepV T X.K) W Q σ ρ1 H1 ((ms δ h1).bind fun ds h2 => callI cs (.ref n) ds h2)) :=
    ⟨ρ, h, δ, R, S, At.bind a fun d h1 ρ1 H1 v _ g R1 rv a1 => by
      cases d <;> first | exact False.elim a1 | exact ⟨ρ1, h1, _, g, R1, rv, a1⟩⟩
  refine Call_ (thn ((hf W tk).run pins s σ H _ I q) fun u s1 ⟨x, H1, I1, rx, ρ1, h1, n, g, R1, rd, a1⟩ => ?_) (call_eq hna)
  obtain ⟨a, rfl, hp1⟩ := rep_ref rd
  cases (show u = Value.ref a from rx)
  have q2 : tMs T X.K W ms σ H1 (fun vs H2 => ∃ ρ2 h2 ds, Grow ρ1 H1 ρ2 H2 ∧ Rel T X.K ρ2 h2 H2 ∧ RepVs T X.K ρ2 H2 ds vs ∧ At T X.K (RepV T X.K) W Q σ ρ2 H2 (callI cs (.ref n) ds h2)) := ⟨ρ1, h1, δ, R1, S.mono g, At.bind a1 fun ds h2 ρ2 H2 vs _ g2 R2 rs a2 => ⟨ρ2, h2, ds, g2, R2, rs, a2⟩⟩
  refine StX.callO_with (thn ((ha W tk).run pos pins s1 σ H1 _ I1 q2) fun us s2 ⟨vs, H2, I2, r, ρ2, h2, ds, g2, R2, rs, a2⟩ => ?_) (star_ne (not_starred (hp e List.mem_cons_self))) (plain_any (es := es) fun e he => not_starred (hp e (List.mem_cons_of_mem _ he)))
  unfold callI at a2
  split at a2
  · rename_i c ec
    obtain ⟨a', ox, od, e1, e2, J, hd⟩ := ins_at I2 R2 (rd.mono g2) (show RelV (V.ref a) (Value.ref a) from rfl) ec
    cases e1
    split at a2
    · rename_i s' es'
      obtain ⟨ci, _, _, _, g', hm, hfn, hc, _⟩ := meth_find' hcs es'
      exact ⟨⟨_, ox, od, J, hd⟩, wpAny_call (PySem.W.kco_code I2.kIn J hd hm.at_ hm.fn hfn (hc W tk pins s2 σ H2 (.ref a :: vs) (.ref a :: us) Q ρ2 h2 (.ref n :: ds) I2 (.cons rfl r) R2 (.cons (rd.mono g2) rs) a2))⟩
    · exact a2.elim
  · exact a2.elim

/-! ### own operators -/
theorem tagF_sub : ∀ t ∈ tagF, t ∈ tagB := by decide
theorem typeOf_flat {h : Hh} {e : D} {t : String} {y : V} {u : Value} (et : tgOf h e = some (.b t)) (ht : Tg.b t ∈ tagF) (he : RepV T K ρ H e y) (ry : RelV y u) : typeOf u = pure (.type t) := by
  cases e with
  | non => cases et; cases he; cases ry; rfl
  | bl b => cases et; cases he; cases ry; rfl
  | int b => cases et; cases he; obtain ⟨t, rfl⟩ := ry; rfl
  | str b => cases et; cases he; obtain ⟨t, rfl⟩ := ry; rfl
  | tup b => cases et; simp [tagF] at ht
  | cls b => cases et
  | ref n =>
    unfold tgOf at et
    dsimp only at et
    split at et <;> cases et <;> simp [tagF] at ht
theorem fast_T : ([Operator.Add, .Sub, .Mult, .RShift].all fun op => ["NoneType", "bool", "int", "str"].all fun t => (PySem.fastLookup t (PySem.dunder op.info.2)).isSome && (PySem.fastLookup t (PySem.dunderR op.info.2)).isSome) = true := by decide +kernel
theorem looks_T {op : Operator} {t : String} (hop : op ∈ [Operator.Add, .Sub, .Mult, .RShift]) (ht : Tg.b t ∈ tagF) : ∃ fo ro, PySem.W.findIn K (.type t) (PySem.dunder op.info.2) = some fo ∧ PySem.W.findIn K (.type t) (PySem.dunderR op.info.2) = some ro := by
  have ht' : t ∈ ["NoneType", "bool", "int", "str"] := by simpa [tagF] using ht
  have q := List.all_eq_true.mp (List.all_eq_true.mp fast_T op hop) t ht'
  rw [Bool.and_eq_true] at q
  obtain ⟨fo, e1⟩ := Option.isSome_iff_exists.mp q.1
  obtain ⟨ro, e2⟩ := Option.isSome_iff_exists.mp q.2
  exact ⟨fo, ro, e1, e2⟩
theorem opd_arith {cs : List CI} {op : Operator} {o : O2} {nm : Str} (hcs : CIsOk T X cs) (kn : Kn T X.K cs) (ho : OpD T X (binaryOp op) o) (hop : op ∈ [Operator.Add, .Sub, .Mult, .RShift]) (hnm : PySem.dunder op.info.2 = nm) : OpD T X (binaryOp op) (opArith cs nm o) := by
  intro W tk pins s σ H x y v u Q ρ h d e I rx ry R hd he a
  unfold opArith at a
  split at a
  · rename_i c ec
    obtain ⟨p, ox, od, rfl, rfl, J, hpl⟩ := ins_at I R hd rx ec
    split at a
    · rename_i s' es'
      obtain ⟨ci, hmem, hid, _, g', hm, hfn, hc, _⟩ := meth_find' hcs es'
      subst hid
      obtain ⟨mm, F⟩ := I.fr
      have hcall : At T X.K (RepV T X.K) W Q σ ρ H (s' [d, e] h) → wpAny (model X.prog X.w) X.A (call (.ref g') [.ref p, u]) (PySem.W.CmpBack (EP X pins σ Q)) X.xe s := fun a =>
        thn (hc.d W tk pins s σ H [.ref p, y] [.ref p, u] _ ρ h [d, e] I (.cons rfl (.cons ry .nil)) R (.cons hd (.cons he .nil)) a.rep) fun r s' h' => cmpBack_of h'
      subst hnm
      have ck := kn.ck ci hmem
      split at a
      · rename_i c' et
        split at a
        · rename_i hcc
          subst hcc
          have ht : Tg.c ci.id ∈ tagsOf cs := List.mem_append_right _ (List.mem_map.mpr ⟨ci, hmem, rfl⟩)
          exact PySem.W.binop_K F I.ok.mod.kin J (ty_at kn I R he ry et ht) ck.sf hm.at_ hm.fn (hcall a)
        · exact a.elim
      · rename_i t et
        split at a
        · rename_i ht
          have ht2 : Tg.b t ∈ tagsOf cs := List.mem_append_left _ (tagF_sub _ ht)
          have nf := kn.nf ci hmem _ ht2 rfl
          have hsub : PySem.W.subIn X.K (.type t) (.ref (T ci.id)) = some false := by
            rcases Bool.or_eq_true_iff.mp nf with q | q
            · exact absurd (beq_iff_eq.mp q) (by intro z; cases z)
            · exact beq_iff_eq.mp q
          have hty : typeOf u = pure (.type t) := typeOf_flat et ht he ry
          have lk : ∃ fo ro, PySem.W.findIn X.K (.type t) (PySem.dunder op.info.2) = some fo ∧ PySem.W.findIn X.K (.type t) (PySem.dunderR op.info.2) = some ro := looks_T hop ht
          obtain ⟨fo, ro, l1, l2⟩ := lk
          exact PySem.W.ksp_binT F I.ok.mod.kin J hty ck.sf hm.at_ hm.fn (kn.rop ci hmem op hop) (.inl rfl) l1 l2 hsub (hcall a)
        · exact a.elim
      · exact a.elim
    · exact a.elim
  · exact ho W tk pins s σ H x y v u Q ρ h d e I rx ry R hd he a
theorem und_own {cs : List CI} {o : D → Hh → RE D} (hcs : CIsOk T X cs) (ho : UnD T X (unaryOp .USub) o) : UnD T X (unaryOp .USub) (unOwn cs "__neg__" o) := by
  intro W tk pins s σ H x v Q ρ h d I rx R hd a
  unfold unOwn at a
  split at a
  · rename_i c ec
    obtain ⟨p, ox, od, rfl, rfl, J, hpl⟩ := ins_at I R hd rx ec
    split at a
    · rename_i s' es'
      obtain ⟨ci, hmem, hid, _, g', hm, hfn, hc, _⟩ := meth_find' hcs es'
      subst hid
      obtain ⟨mm, F⟩ := I.fr
      exact PySem.W.ksp_neg F I.ok.mod.kin J hm.at_ hm.fn (hc.d W tk pins s σ H [.ref p] [.ref p] _ ρ h [d] I (.cons rfl .nil) R (.cons hd .nil) a)
    · exact a.elim
  · exact ho W tk pins s σ H x v Q ρ h d I rx R hd a
theorem tagIn_some {cs : List CI} {c : Nat} {h : Hh} {y : D} (e : tagIn cs c h y = true) : ∃ t, tgOf h y = some t ∧ t ∈ tagsOf cs ∧ ∃ ci, (cs.find? fun ci => ci.id == c) = some ci ∧ notBelow ci t = true := by
  unfold tagIn at e
  split at e
  · rename_i t et
    rw [Bool.and_eq_true] at e
    obtain ⟨e1, e2⟩ := e
    split at e2
    · rename_i ci ec
      exact ⟨t, et, of_decide_eq_true e1, ci, ec, e2⟩
    · cases e2
  · cases e
/-- ==, <= and their like -/
theorem opd_rich {cs : List CI} {op : CmpOp} {o : O2} {nm : Str} (hcs : CIsOk T X cs) (kn : Kn T X.K cs) (hu : X.A.units < cLine) (ho : OpD T X (compareOp op) o) (hr : ∀ a b, compareOp op a b = richCompare op a b) (hnm : (cmpInfo op).2.1 = nm) : OpD T X (compareOp op) (opOwn cs nm o) := by
  intro W tk pins s σ H x y v u Q ρ h d e I rx ry R hd he a
  unfold opOwn at a
  split at a
  · rename_i c ec
    obtain ⟨p, ox, od, rfl, rfl, J, hpl⟩ := ins_at I R hd rx ec
    split at a
    · rename_i s' es'
      split at a
      · rename_i hty
        obtain ⟨t, et, ht, ci2, ec2, hnb⟩ := tagIn_some hty
        obtain ⟨ci, hmem, hid, ⟨_, ec⟩, g', hm, hfn, hc, _⟩ := meth_find' hcs es'
        subst hid
        rw [ec] at ec2
        have e3 : ci = ci2 := Option.some.inj ec2
        subst e3
        obtain ⟨mm, F⟩ := I.fr
        subst hnm
        rw [hr]
        exact PySem.W.cmp_K hu F I.ok.mod.kin J (ty_at kn I R he ry et ht) (kn.nf ci hmem t ht hnb) hm.at_ hm.fn
          (thn (hc.d W tk pins s σ H [.ref p, y] [.ref p, u] _ ρ h [d, e] I (.cons rfl (.cons ry .nil)) R (.cons hd (.cons he .nil)) a.rep) fun r s' h' => cmpBack_of h')
      · exact a.elim
    · exact a.elim
  · exact ho W tk pins s σ H x y v u Q ρ h d e I rx ry R hd he a
theorem inv_in1 {pins : List (Addr × Obj)} {σ : L2.St} {s : Shared} (I : Inv X pins σ H s) : Inv X.in1 pins σ H s :=
  ⟨⟨I.ok.mod, I.ok.kind, I.ok.glob, I.ok.blt, I.ok.above, I.ok.inj, I.ok.has, I.ok.cab, I.ok.hd, I.ok.frames, I.ok.stk, I.ok.exf, I.ok.bs, I.ok.bsz, I.ok.noex, I.ok.exfs, I.ok.funs, I.ok.frf⟩, I.os, I.bare, I.base, I.loc, I.cell, I.free, I.freeC, I.pin, I.hok, I.len⟩
theorem inv_out1 {pins : List (Addr × Obj)} {σ : L2.St} {s : Shared} (I : Inv X.in1 pins σ H s) : Inv X pins σ H s :=
  ⟨⟨I.ok.mod, I.ok.kind, I.ok.glob, I.ok.blt, I.ok.above, I.ok.inj, I.ok.has, I.ok.cab, I.ok.hd, I.ok.frames, I.ok.stk, I.ok.exf, I.ok.bs, I.ok.bsz, I.ok.noex, I.ok.exfs, I.ok.funs, I.ok.frf⟩, I.os, I.bare, I.base, I.loc, I.cell, I.free, I.freeC, I.pin, I.hok, I.len⟩
theorem takes_in1 {W : WX} (tk : Takes X W) : Takes X.in1 W := fun u s' ⟨a, B, sI, pins, σ, H, cls, d, e, I, nb, up, sky, na, os, ag, w⟩ => tk u s' ⟨a, B, sI, pins, σ, H, cls, d, e, inv_out1 I, nb, up, sky, na, os, ag, w⟩
theorem ep_out {pins : List (Addr × Obj)} {σ : L2.St} {Q : VK} {v : Value} {s' : Shared} (ok : X.Ok) (h : EP X.in1 pins σ Q v s') : EP X pins σ Q v s' := by
  obtain ⟨x, H', I, r, q⟩ := h
  exact ⟨x, H', ⟨ok, I.os, I.bare, I.base, I.loc, I.cell, I.free, I.freeC, I.pin, I.hok, I.len⟩, r, q⟩
theorem opd_neOwn {cs : List CI} (hcs : CIsOk T X cs) (kn : Kn T X.K cs) (hu : X.A.units + 64 < cLine) : OpD T X (compareOp .NotEq) (opNe cs) := by
  intro W tk pins s σ H x y v u Q ρ h d e I rx ry R hd he a
  unfold opNe at a
  split at a
  · rename_i c ec
    obtain ⟨p, ox, od, rfl, rfl, J, hpl⟩ := ins_at I R hd rx ec
    split at a
    · rename_i s' es'
      split at a
      · rename_i hty
        obtain ⟨t, et, ht, ci2, ec2, hnb⟩ := tagIn_some hty
        obtain ⟨ci, hmem, hid, ⟨hlk, ec⟩, g', hm, hfn, _, hc⟩ := meth_find' hcs es'
        subst hid
        rw [ec] at ec2
        have e3 : ci = ci2 := Option.some.inj ec2
        subst e3
        obtain ⟨mm, F⟩ := I.fr
        have ck := kn.ck ci hmem
        refine ne_K (by omega) F I.ok.mod.kin J (ty_at kn I R he ry et ht) (kn.nf ci hmem t ht hnb) (kn.ne ci hmem s' hlk) hm.at_ hm.fn ck.hm ?_
        have a' : At T X.K (RepV T X.K) W (fun r H' => ∃ k, r = .bl k ∧ Q (.bl (!k)) H') σ ρ H (s' [d, e] h) := At.bind a fun r h1 ρ1 H1 v _ g R1 rv a1 => by
          cases r with
          | bl k => exact ⟨k, rep_bl rv, a1 ρ1 H1 _ .refl R1 (.bl _)⟩
          | _ => exact (show False from a1).elim
        refine thn (hc.d W (takes_in1 tk) pins s σ H [.ref p, y] [.ref p, u] _ ρ h [d, e] (inv_in1 I) (.cons rfl (.cons ry .nil)) R (.cons hd (.cons he .nil)) a') fun r s' h' => ?_
        obtain ⟨z, H', I', rz, k, ez, q⟩ := h'
        subst ez
        cases rz
        exact ⟨k, rfl, ep_out I.ok ⟨.bl (!k), H', I', rfl, q⟩⟩
      · exact a.elim
    · exact a.elim
  · exact opd_ne hu W tk pins s σ H x y v u Q ρ h d e I rx ry R hd he a
end
end Mi

/-! Mi, part M: isinstance. -/
namespace Mi
open PySem PySem.Spec PyProof.Rows L2
def cV (T : Nat → Addr) : Tg → V
  | .b s => .ty s
  | .c n => .ref (T n)
/-- an expression that is a class -/
def PCl (T : Nat → Addr) (X : Cx) (e : Expr) (c : Tg) : Prop := PE X e (fun _ H Q => Q (cV T c) H)
def PCls (T : Nat → Addr) (X : Cx) (es : List Expr) (cs : List Tg) : Prop := PA X es (fun _ H Q => Q (cs.map (cV T)) H)
/-- isinstance's answers -/
def IsaK (T : Nat → Addr) (K : PySem.W.Frag) (sub : List (Nat × Nat)) (tgs : List Tg) : Prop := ∀ t ∈ tgs, ∀ c ∈ tgs, PySem.W.kitOne K (t.v T) (c.v T) = some (isSubT sub t c)
section
variable {T : Nat → Addr} {X : Cx} {K : PySem.W.Frag} {ρ : List Addr} {h : Hh} {H : Hp}
theorem clsV_of (c : Tg) : ClsV (cV T c) (c.v T) := by
  cases c with
  | b s => exact .ty s
  | c n => exact .own (T n)
theorem clsVs_of : ∀ cs : List Tg, Paired ClsV (cs.map (cV T)) (cs.map (Tg.v T))
  | [] => .nil
  | c :: r => .cons (clsV_of c) (clsVs_of r)
theorem kitAny_of {sub : List (Nat × Nat)} {tgs : List Tg} (isa : IsaK T K sub tgs) {t : Tg} (ht : t ∈ tgs) : ∀ cs : List Tg, (∀ c ∈ cs, c ∈ tgs) → PySem.W.kitAny K (t.v T) (cs.map (Tg.v T)) = some (cs.any fun c => isSubT sub t c)
  | [], _ => rfl
  | c :: r, h => by
    show (match PySem.W.kitOne K (t.v T) (c.v T) with
      | some true => some true
      | some false => PySem.W.kitAny K (t.v T) (r.map (Tg.v T))
      | none => none) = _
    rw [isa t ht c (h c List.mem_cons_self), List.any_cons]
    cases isSubT sub t c with
    | true => rfl
    | false => exact kitAny_of isa ht r fun c hc => h c (List.mem_cons_of_mem _ hc)
theorem pcl_b {x : Str} {n : String} {pos : Pos} (hg : Gl X x) (hm : X.mg x = none) (hv : bootBuiltins x = some (.type n)) (hn : x ≠ "__name__") (hd : (x == ("__debug__" : Str)) = false) : PCl T X (.Name x pos) (.b n) := pe_bltn (v := .ty n) hg hm hv rfl hn hd
theorem pcl_c {x : Str} {n : Nat} {pos : Pos} (hg : Gl X x) (hm : X.mg x = some (.ref (T n))) (hd : (x == ("__debug__" : Str)) = false) : PCl T X (.Name x pos) (.c n) := pe_glob (v := .ref (T n)) hg hm rfl hd
theorem pcls_nil : PCls T X [] [] := PA.weak pa_nil fun σ H Q h => h
theorem pcls_cons {e : Expr} {es : List Expr} {c : Tg} {cs : List Tg} (h1 : PCl T X e c) (h2 : PCls T X es cs) (hs : starred e = false) : PCls T X (e :: es) (c :: cs) := PA.weak (pa_cons h1 h2 (star_ne (not_starred hs))) fun σ H Q h => h
/-- what the classes are asked of -/
structure IsOk (T : Nat → Addr) (K : PySem.W.Frag) (sub : List (Nat × Nat)) (tgs : List Tg) : Prop where
  isa : IsaK T K sub tgs
  ck : ∀ t ∈ tgs, ∀ c, ClsK K (T c) ∨ t ≠ .c c
theorem pd_isi {e ce : Expr} {m : ME} {c : Tg} {sub : List (Nat × Nat)} {tgs : List Tg} {p pos : Pos} (ok : IsOk T X.K sub tgs) (hg : Gl X "isinstance") (hm : X.mg "isinstance" = none) (he : PD T X e m) (hc : PCl T X ce c) (hin : c ∈ tgs) (hs : starred e = false) (hs2 : starred ce = false) :
    PD T X (.Call (.Name "isinstance" p) [e, ce] [] pos) (mUn (opIs sub tgs [c]) m) := fun W tk =>
  PE.weak (pe_callB call_isi hg hm boot_isinstance (pa_cons (he W tk) (pa_cons hc pa_nil (star_ne (not_starred hs2))) (star_ne (not_starred hs))) (by decide) (by decide) (star_ne (not_starred hs)) (by rw [star_ne (not_starred hs2)]; rfl)) fun σ H Q ⟨ρ, h, δ, R, S, a⟩ => by
    refine ⟨ρ, h, δ, R, S, At.bind a fun d h1 ρ1 H1 v _ g R1 rv a1 => ?_⟩
    unfold opIs at a1
    split at a1
    · rename_i t et
      split at a1
      · rename_i ht
        refine ⟨v, cV T c, t.v T, c.v T, isSubT sub t c, rfl, clsV_of c, tyX_rep R1 (ok.ck t ht) rv et, ok.isa t ht c hin, ?_⟩
        have := a1 ρ1 H1 (.bl _) .refl R1 (.bl _)
        simpa using this
      · exact a1.elim
    · exact a1.elim
theorem pd_isiT {e : Expr} {es : List Expr} {kk : Nat} {tpos : Pos} {m : ME} {cs : List Tg} {sub : List (Nat × Nat)} {tgs : List Tg} {p pos : Pos} (ok : IsOk T X.K sub tgs) (hg : Gl X "isinstance") (hm : X.mg "isinstance" = none) (he : PD T X e m) (hc : PCls T X es cs) (hin : ∀ c ∈ cs, c ∈ tgs) (hl : cs.length ≤ 100) (hs : starred e = false) :
    PD T X (.Call (.Name "isinstance" p) [e, .Tuple es kk tpos] [] pos) (mUn (opIs sub tgs cs) m) := fun W tk =>
  PE.weak (pe_callB call_isiT hg hm boot_isinstance (pa_cons (he W tk) (pa_cons (pe_tup hc) pa_nil rfl) (star_ne (not_starred hs))) (by decide) (by decide) (star_ne (not_starred hs)) rfl) fun σ H Q ⟨ρ, h, δ, R, S, a⟩ => by
    refine ⟨ρ, h, δ, R, S, At.bind a fun d h1 ρ1 H1 v _ g R1 rv a1 => ?_⟩
    unfold opIs at a1
    split at a1
    · rename_i t et
      split at a1
      · rename_i ht
        refine ⟨by rw [sizeLine_eq, List.length_map]; omega, fun tp htp => ?_⟩
        have R2 := R1.beside (o := .tup (cs.map (cV T))) htp
        exact ⟨v, tp, cs.map (cV T), t.v T, cs.map (Tg.v T), cs.any fun c => isSubT sub t c, rfl, upd_same, clsVs_of cs, tyX_rep R2 (ok.ck t ht) (rv.mono (grow_new htp)) et, kitAny_of ok.isa ht cs hin, a1 ρ1 _ (.bl _) (grow_new htp) R2 (.bl _)⟩
      · exact a1.elim
    · exact a1.elim
end
end Mi

/-! Mi, part N: built-in functions, raise, try, stores in a row. -/
namespace Mi
open PySem PySem.Spec PyProof.Rows L2
section
variable {T : Nat → Addr} {X : Cx} {K : PySem.W.Frag} {ρ : List Addr} {h : Hh} {H : Hp}
theorem RepVs.one {ds : List D} {vs : List V} (r : RepVs T K ρ H ds vs) {d : D} (e : ds = [d]) : ∃ v, vs = [v] ∧ RepV T K ρ H d v := by
  subst e
  cases r with
  | cons r t => cases t; exact ⟨_, rfl, r⟩
theorem bools_rep : ∀ {ds : List D} {vs : List V} {bs : List Bool}, RepVs T K ρ H ds vs → boolsOf ds = some bs → vs = bs.map V.bl
  | _, _, _, .nil, e => by cases e; rfl
  | d :: ds, _, bs, .cons r t, e => by
    cases d <;> try (cases e; done)
    rename_i b
    cases r
    have e : (boolsOf ds).map (b :: ·) = some bs := e
    cases z : boolsOf ds with
    | none => rw [z] at e; cases e
    | some cs =>
      rw [z] at e
      cases e
      rw [bools_rep t z]
      rfl
theorem ints_rep : ∀ {ds : List D} {vs : List V} {bs : List Int}, RepVs T K ρ H ds vs → intsOf ds = some bs → vs = bs.map V.int
  | _, _, _, .nil, e => by cases e; rfl
  | d :: ds, _, bs, .cons r t, e => by
    cases d <;> try (cases e; done)
    rename_i b
    cases r
    have e : (intsOf ds).map (b :: ·) = some bs := e
    cases z : intsOf ds with
    | none => rw [z] at e; cases e
    | some cs =>
      rw [z] at e
      cases e
      rw [ints_rep t z]
      rfl
theorem call_abs' : CallD T X (.builtin "abs") bAbs := CallD.of call_abs fun W Q σ ρ H h ds vs R rs a => by
  unfold bAbs at a
  split at a
  · obtain ⟨v, rfl, r⟩ := rs.one rfl
    cases rep_int r
    exact ⟨_, rfl, a ρ H _ .refl R (.int _)⟩
  · exact a.elim
theorem call_any' (hc : X.calm = true) : CallD T X (.builtin "any") bAny := CallD.of (cr_any hc) fun W Q σ ρ H h ds vs R rs a => by
  unfold bAny at a
  split at a
  · rename_i n
    obtain ⟨v, rfl, r⟩ := rs.one rfl
    obtain ⟨p, rfl, hp⟩ := rep_ref r
    split at a
    · rename_i bs e
      cases el : Mi.lstAt h n with
      | none => rw [el] at e; cases e
      | some xs =>
        rw [el] at e
        obtain ⟨ys, q, rv⟩ := R.lstAt hp el
        exact ⟨p, bs, rfl, by rw [← bools_rep rv e]; exact q, a ρ H _ .refl R (.bl _)⟩
    · exact a.elim
  · exact a.elim
theorem call_all' (hc : X.calm = true) : CallD T X (.builtin "all") bAll := CallD.of (cr_all hc) fun W Q σ ρ H h ds vs R rs a => by
  unfold bAll at a
  split at a
  · rename_i n
    obtain ⟨v, rfl, r⟩ := rs.one rfl
    obtain ⟨p, rfl, hp⟩ := rep_ref r
    split at a
    · rename_i bs e
      cases el : Mi.lstAt h n with
      | none => rw [el] at e; cases e
      | some xs =>
        rw [el] at e
        obtain ⟨ys, q, rv⟩ := R.lstAt hp el
        exact ⟨p, bs, rfl, by rw [← bools_rep rv e]; exact q, a ρ H _ .refl R (.bl _)⟩
    · exact a.elim
  · exact a.elim
theorem call_sum' (hc : X.calm = true) : CallD T X (.builtin "sum") bSum := CallD.of (cr_sum hc) fun W Q σ ρ H h ds vs R rs a => by
  unfold bSum at a
  split at a
  · rename_i n
    obtain ⟨v, rfl, r⟩ := rs.one rfl
    obtain ⟨p, rfl, hp⟩ := rep_ref r
    split at a
    · rename_i bs e
      cases el : Mi.lstAt h n with
      | none => rw [el] at e; cases e
      | some xs =>
        rw [el] at e
        obtain ⟨ys, q, rv⟩ := R.lstAt hp el
        exact ⟨p, bs, rfl, by rw [← ints_rep rv e]; exact q, a ρ H _ .refl R (.int _)⟩
    · exact a.elim
  · exact a.elim
theorem RepVs.three {ds : List D} {vs : List V} (r : RepVs T K ρ H ds vs) (hl : ds.length = 3) : ∃ d e f v u w, ds = [d, e, f] ∧ vs = [v, u, w] ∧ RepV T K ρ H d v ∧ RepV T K ρ H e u ∧ RepV T K ρ H f w := by
  cases r with
  | nil => cases hl
  | cons r1 t =>
    cases t with
    | nil => cases hl
    | cons r2 t =>
      cases t with
      | nil => cases hl
      | cons r3 t =>
        cases t with
        | nil => exact ⟨_, _, _, _, _, _, rfl, rfl, r1, r2, r3⟩
        | cons _ _ => simp at hl
theorem psd_par3 {i j l : Nat} {x y z : Str} {a b c : Expr} {ms : MEs} {px py pz pt pos : Pos} {kt k2 : Nat} {pt2 : Pos} (hc : X.calm = true) (hN : X.N.Nodup) (hi : X.N[i]? = some x) (hj : X.N[j]? = some y) (hk : X.N[l]? = some z) (hij : i ≠ j) (hil : i ≠ l) (hjl : j ≠ l)
    (hx : X.env.scope.names.lookup x = some .local) (hy : X.env.scope.names.lookup y = some .local) (hz : X.env.scope.names.lookup z = some .local) (ha : PDs T X [a, b, c] ms)
    (hw : swappedStores [.Tuple [.Name x px, .Name y py, .Name z pz] kt pt] (.Tuple [a, b, c] k2 pt2) X.env = pure (some [x, y, z]))
    (hs : swapsWithSole [.Tuple [.Name x px, .Name y py, .Name z pz] kt pt] (.Tuple [a, b, c] k2 pt2) pos.line X.env = pure false) :
    PSd T X (.Assign [.Tuple [.Name x px, .Name y py, .Name z pz] kt pt] (.Tuple [a, b, c] k2 pt2) pos) (sPar [i, j, l] ms) := fun W tk =>
  PS.weak (ps_par3 hc hN hi hj hk hij hil hjl hx hy hz (ha W tk) hw hs) fun Dn σ H ⟨ρ, h, δ, R, S, q⟩ => by
    refine ⟨ρ, h, δ, R, S, At.st S q fun ds h1 ρ1 H1 vs _ g1 R1 rv a1 => ?_⟩
    split at a1
    · rename_i hl
      obtain ⟨d, e, f, v, u, w, rfl, rfl, r1, r2, r3⟩ := rv.three hl
      exact ⟨v, u, w, rfl, a1 ρ1 H1 _ .refl R1 ((((S.mono g1).set r1).set r2).set r3)⟩
    · exact a1.elim
theorem call_len' : CallD T X (.builtin "len") bLen := CallD.of call_len fun W Q σ ρ H h ds vs R rs a => by
  unfold bLen at a
  split at a
  · rename_i s
    obtain ⟨v, rfl, r⟩ := rs.one rfl
    cases rep_str r
    split at a
    · rename_i hl
      exact ⟨.str s, s.length, rfl, ⟨maxLen_line hl, rfl⟩, a ρ H _ .refl R (.int _)⟩
    · exact a.elim
  · obtain ⟨v, rfl, r⟩ := rs.one rfl
    obtain ⟨p, xs, rfl, q, rs'⟩ := rep_tup' r
    exact ⟨.ref p, xs.length, rfl, .inr ⟨xs, q, rfl⟩, by rw [← rs'.length]; exact a ρ H _ .refl R (.int _)⟩
  · rename_i n
    obtain ⟨v, rfl, r⟩ := rs.one rfl
    obtain ⟨p, rfl, hp⟩ := rep_ref r
    split at a
    · rename_i xs e
      obtain ⟨ys, q, rv⟩ := R.lstAt hp (ds := xs) (by unfold Mi.lstAt; rw [e])
      exact ⟨.ref p, ys.length, rfl, .inl ⟨ys, q, rfl⟩, by rw [← rv.length]; exact a ρ H _ .refl R (.int _)⟩
    · rename_i xs e
      obtain ⟨ys, q, rv⟩ := R.lstAt hp (ds := xs) (by unfold Mi.lstAt; rw [e])
      exact ⟨.ref p, ys.length, rfl, .inl ⟨ys, q, rfl⟩, by rw [← rv.length]; exact a ρ H _ .refl R (.int _)⟩
    · exact a.elim
  · exact a.elim
/-! ### raise, try -/
/-- a class of exceptions without an own __init__ -/
structure ExK (K : PySem.W.Frag) (C : Addr) : Prop where
  ex : PySem.W.excIn K C He.veBase "ValueError.__new__" = true
  kp : PySem.W.keepIn K (.ref C) = true
  sub : PySem.W.subIn K (.ref C) (.type "BaseException") = some true
  ty : PySem.W.typeIn K (.ref C) = some (.type "type")
theorem psd_raise {x : Str} {c : Nat} {e : Expr} {es : List Expr} {ms : MEs} {p cpos pos : Pos} (hc : X.calm = true) (F : ExK X.K (T c)) (hg : Gl X x) (hm : X.mg x = some (.ref (T c))) (ha : PDs T X (e :: es) ms) (hp : ∀ e' ∈ e :: es, starred e' = false) (hdb : (x == ("__debug__" : Str)) = false) :
    PSd T X (.Raise (some (.Call (.Name x p) (e :: es) [] cpos)) none pos) (sRaise c ms) := fun W tk =>
  PS.weak (ps_raise hc tk (pmk_ownA PySem.F.excBase_ValueError F.ex hm F.kp (raises_own F.sub F.ty) hg (ha W tk) hdb (star_ne (not_starred (hp e List.mem_cons_self))) (plain_any (es := es) fun e he => not_starred (hp e (List.mem_cons_of_mem _ he))))) fun Dn σ H ⟨ρ, h, δ, R, S, a⟩ => by
    refine ⟨ρ, h, δ, R, S, At.st S a fun ds h1 ρ1 H1 vs _ g R1 rv a1 => ?_⟩
    split at a1
    · rename_i hl
      rw [rv.length] at hl
      exact ⟨maxLen_line hl, a1 ρ1 H1 σ _ none .refl R1 (S.mono g) ⟨rfl, rfl⟩⟩
    · exact a1.elim
theorem psd_try0 {body : List Stmt} {h₀ : ExceptHandler} {hs : List ExceptHandler} {b : MS} {pos : Pos} (hb : PSsd T X.nox body b) : PSd T X (.Try body (h₀ :: hs) [] [] pos) (sTry0 b) := fun W tk =>
  PS.weak (ps_try_thru0 (hb (fun _ _ _ _ => False) takes0')) fun Dn σ H ⟨ρ, h, δ, R, S, a⟩ => by
    refine ⟨ρ, h, δ, R, S, ?_⟩
    unfold sTry0 at a
    cases z : b δ h with
    | ex x δ1 h1 => rw [z] at a; exact a.elim
    | nx δ1 h1 => rw [z] at a; exact a
    | bk δ1 h1 => rw [z] at a; exact a
    | ct δ1 h1 => rw [z] at a; exact a
    | rt d h1 => rw [z] at a; exact a
    | no => rw [z] at a; exact a
end
end Mi

/-! Mi, part P: the text turned into functions. -/
namespace Mi
open PySem PySem.Spec PyProof.Rows L2

/-- what a global's name stands for -/
inductive GE where
  | dfn (s : Sem) | cls (c : Nat) (s : Sem) | val (d : D) | exc (c : Nat)
/-- what all defs know -/
structure CG where
  glob : List (Str × GE)
  free : List Str
  cs : List CI
  sub : List (Nat × Nat)
  tgs : List Tg
structure CC where
  g : CG
  N : List Str
  sc : Scope
  fn : Str → Bool
  loops : Bool
def ixFrom (x : Str) : List Str → Nat → Option Nat
  | [], _ => none
  | y :: r, i => if y = x then some i else ixFrom x r (i + 1)
def ixOf (N : List Str) (x : Str) : Option Nat := ixFrom x N 0
def mNo : ME := fun _ _ => .no
def tNo : MT := fun _ _ => .no
def sNo : MS := fun _ _ => .no
def iNo : MI := fun _ _ => .no
def gNo : MG := fun _ _ => none
/-- the functions of one depth -/
structure Fns where
  e : CC → Expr → ME
  t : CC → Expr → MT
  s : CC → Stmt → MS
  g : CC → Expr → MG × List Nat × Bool
  i : CC → Expr → MI
def dead : Fns := ⟨fun _ _ => mNo, fun _ _ => tNo, fun _ _ => sNo, fun _ _ => (gNo, [], false), fun _ _ => iNo⟩
def anyStar (es : List Expr) : Bool := es.any starred
def lsE (c : Fns) (cc : CC) : List Expr → MEs
  | [] => mNil
  | e :: r => mCons (c.e cc e) (lsE c cc r)
def lsS (c : Fns) (cc : CC) : List Stmt → MS
  | [] => sNil
  | s :: r => sSeq (c.s cc s) (lsS c cc r)
def isVis : Option NameKind → Bool
  | some .local | some .cell | some .free => true
  | _ => false
def isGlo : Option NameKind → Bool
  | some .globalImplicit => true
  | _ => false
def cName (cc : CC) (x : Str) : ME := if x = "__debug__" ∨ x = "__classdict__" then mNo else
  if isVis (cc.sc.names.lookup x) then (match ixOf cc.N x with
    | some i => mVar i
    | none => mNo) else if isGlo (cc.sc.names.lookup x) then (match cc.g.glob.lookup x with
      | some (.val d) => mLit d
      | _ => mNo) else mNo
def cOp (cc : CC) : Operator → O2
  | .Add => opArith cc.g.cs "__add__" opAdd
  | .Sub => opArith cc.g.cs "__sub__" opSub
  | .Mult => opArith cc.g.cs "__mul__" opMul
  | .RShift => opArith cc.g.cs "__rshift__" opShr
  | op => opB op
def cCmp (cc : CC) : CmpOp → O2
  | .Eq => opOwn cc.g.cs "__eq__" cmEq
  | .NotEq => opNe cc.g.cs
  | .LtE => opOwn cc.g.cs "__le__" (cmp .LtE)
  | op => cmp op
def cBi (x : Str) : Option Sem := if x = "abs" then some bAbs else if x = "any" then some bAny else if x = "all" then some bAll else if x = "sum" then some bSum else if x = "len" then some bLen else none
def plainIx : Expr → Bool
  | .Slice _ _ _ _ => false
  | _ => true
/-- a class in isinstance -/
def cCls (cc : CC) : Expr → Option Tg
  | .Name x _ => if x = "__debug__" then none else if isGlo (cc.sc.names.lookup x) then (match cc.g.glob.lookup x with
      | some (.cls c _) => some (.c c)
      | _ => if cc.g.free.contains x then (if x = "int" then some (.b "int") else if x = "bool" then some (.b "bool") else if x = "str" then some (.b "str") else if x = "tuple" then some (.b "tuple") else if x = "list" then some (.b "list") else if x = "dict" then some (.b "dict") else none) else none) else none
  | _ => none
def cClss (cc : CC) : List Expr → Option (List Tg)
  | [] => some []
  | e :: r => match cCls cc e, cClss cc r with
    | some c, some cs => some (c :: cs)
    | _, _ => none
def cIsi (c : Fns) (cc : CC) : List Expr → ME
  | [e, .Tuple es _ _] => match cClss cc es with
    | some cs => if (cs.all fun t => decide (t ∈ cc.g.tgs)) && decide (cs.length ≤ 100) && !starred e then mUn (opIs cc.g.sub cc.g.tgs cs) (c.e cc e) else mNo
    | none => mNo
  | [e, ce] => match cCls cc ce with
    | some t => if decide (t ∈ cc.g.tgs) && !starred e then mUn (opIs cc.g.sub cc.g.tgs [t]) (c.e cc e) else mNo
    | none => mNo
  | _ => mNo
def cCallG (c : Fns) (cc : CC) (x : Str) (es : List Expr) : ME := if anyStar es then mNo else match cc.g.glob.lookup x with
  | some (.dfn s) => mCall s (lsE c cc es)
  | some (.cls _ s) => mCall s (lsE c cc es)
  | some _ => mNo
  | none => if cc.g.free.contains x then (if x = "isinstance" then cIsi c cc es else match es with
      | [] => mNo
      | _ => match cBi x with
        | some s => mCall s (lsE c cc es)
        | none => mNo) else mNo
def cCall (c : Fns) (cc : CC) (fe : Expr) (es : List Expr) (pos : Pos) : ME := match fe with
  | .Name x _ => if x = "__debug__" then mNo else if isVis (cc.sc.names.lookup x) then (if anyStar es || es.isEmpty then mNo else mCallI cc.g.cs (c.e cc fe) (lsE c cc es)) else if isGlo (cc.sc.names.lookup x) then cCallG c cc x es else mNo
  | .Attribute o m ap => if anyStar es || decide (30 ≤ es.length) || !(ap.endLine == pos.line) || !plainBase o then mNo else mMeth cc.g.cs m (c.e cc o) (lsE c cc es)
  | fe => if anyStar es || es.isEmpty then mNo else mCallI cc.g.cs (c.e cc fe) (lsE c cc es)
/-- the context of a comprehension's block -/
def CC.blk (cc : CC) (scope : Scope) : CC := ⟨cc.g, cc.N, relS scope cc.sc, fun x => scope.names.lookup x == some .cell, false⟩
def ownOf (N : List Str) (scope : Scope) : List (Str × Nat) := scope.names.filterMap fun y => match y.2 with
  | .local | .cell => (ixOf N y.1).map fun i => (y.1, i)
  | _ => none
def notSet : Expr → Bool
  | .Set _ _ _ => false
  | _ => true
def cTests (c : Fns) (cc : CC) : List Expr → MT
  | [] => tTrue
  | [t] => c.t cc t
  | _ => tNo
def cComp (c : Fns) (cc : CC) (elt : Expr) (gs : List Comprehension) (scope : Scope) : ME := match gs with
  | [⟨tg, it, ifs, 0⟩] => match c.g (cc.blk scope) tg with
    | (g, js, ok) => if ok && blkC cc.N cc.sc scope (ownOf cc.N scope) && notSet it && (js.all fun j => ((ownOf cc.N scope).map (·.2)).contains j) then
        mComp (c.i cc it) g (cTests c (cc.blk scope) ifs) (c.e (cc.blk scope) elt) ((ownOf cc.N scope).map (·.2)) else mNo
  | _ => mNo
def cBool (c : Fns) (cc : CC) (op : BoolOp) : List Expr → ME
  | [] => mNo
  | [a] => c.e cc a
  | a :: r => (match op with | .And => mAnd | .Or => mOr) (c.e cc a) (cBool c cc op r)
def cBoolT (c : Fns) (cc : CC) (op : BoolOp) : List Expr → MT
  | [] => tNo
  | [a] => c.t cc a
  | a :: r => (match op with | .And => tAnd | .Or => tOr) (c.t cc a) (cBoolT c cc op r)
def stepE (c : Fns) (cc : CC) : Expr → ME
  | .Name x _ => cName cc x
  | .Constant (.int i) _ _ => mLit (.int i)
  | .Constant (.bool i) _ _ => mLit (.bl i)
  | .Constant (.str i) _ _ => mLit (.str i)
  | .Constant .none _ _ => mLit .non
  | .Tuple es _ _ => if anyStar es then mNo else mTup (lsE c cc es)
  | .List es _ => if anyStar es then mNo else mLst (lsE c cc es)
  | .BinOp a op b _ => mBin (cOp cc op) (c.e cc a) (c.e cc b)
  | .UnaryOp .USub a _ => mUn (unOwn cc.g.cs "__neg__" unNeg) (c.e cc a)
  | .UnaryOp .Not a _ => mNot (c.e cc a)
  | .Compare a [op] [b] _ => if behindInMarks op b then mNo else mBin (cCmp cc op) (c.e cc a) (c.e cc b)
  | .Compare a [op, op'] [b, d] _ => if lastMarks [op, op'] [b, d] then mNo else mChain (cCmp cc op) (cCmp cc op') (c.e cc a) (c.e cc b) (c.e cc d)
  | .BoolOp op es _ => cBool c cc op es
  | .IfExp t a b _ => mIf (c.t cc t) (c.e cc a) (c.e cc b)
  | .Attribute o f _ => if plainBase o then mAttr cc.g.cs f (c.e cc o) else mNo
  | .Subscript a b _ => if plainIx b then mBin opSub' (c.e cc a) (c.e cc b) else mNo
  | .Call fe es [] pos => cCall c cc fe es pos
  | .ListComp elt gs scope _ => cComp c cc elt gs scope
  | _ => mNo
def stepT (c : Fns) (cc : CC) : Expr → MT
  | .UnaryOp .Not x _ => tNot (c.t cc x)
  | .BoolOp op es _ => cBoolT c cc op es
  | .IfExp _ _ _ _ => tNo
  | .Compare a [op] [b] pos => if behindInMarks op b then tNo else tE (mBin (cCmp cc op) (c.e cc a) (c.e cc b))
  | .Compare _ _ _ _ => tNo
  | e => tE (c.e cc e)
def gName (cc : CC) (x : Str) : MG × List Nat × Bool := match ixOf cc.N x with
  | some i => (match cc.sc.names.lookup x with
    | some .local => (gNm i, [i], true)
    | some .cell => if cc.fn x then (gNm i, [i], true) else (gNo, [], false)
    | _ => (gNo, [], false))
  | none => (gNo, [], false)
def lsG (c : Fns) (cc : CC) : List Expr → MGs × List Nat × Bool
  | [] => (gNil', [], true)
  | e :: r => match c.g cc e, lsG c cc r with
    | (g, js, ok), (gs, ks, ok') => (gCons' g gs, js ++ ks, ok && ok')
def stepG (c : Fns) (cc : CC) : Expr → MG × List Nat × Bool
  | .Name x _ => gName cc x
  | .Tuple es _ _ => if anyStar es then (gNo, [], false) else match lsG c cc es with
    | (gs, js, ok) => (gTp gs, js, ok)
  | _ => (gNo, [], false)
def stepI (c : Fns) (cc : CC) : Expr → MI
  | .Call (.Name x p) es [] pos => if x = "range" ∧ isGlo (cc.sc.names.lookup x) = true then (if (cc.g.glob.lookup x).isNone && cc.g.free.contains x then (match es with
      | [a] => if starred a then iNo else iRange1 (c.e cc a)
      | [a, b] => if starred a || starred b then iNo else iRange2 (c.e cc a) (c.e cc b)
      | _ => iNo) else iNo) else Mi.iList (c.e cc (.Call (.Name x p) es [] pos))
  | e => Mi.iList (c.e cc e)
def nmF (sc : Scope) (line : Nat) : Expr → Option Str
  | .Name id pos => if sc.names.lookup id == some .local && pos.line == line then some id else none
  | _ => none
/-- stores in a row that are swapped -/
def swN (cc : CC) (ts vs : List Expr) : Option (List Str) :=
  if !(ts.length == 2 || ts.length == 3) || vs.length != ts.length then none else if anyStar vs then none else
  let line := (ts.head?.map (·.pos.line)).getD 0
  let names := ts.filterMap (nmF cc.sc line)
  if names.length != ts.length || names.eraseDups.length != names.length then none else some names
def μ0 (δ : Dl) (_ : Hh) : Nat := δ.foldl (fun a d => match d with
  | some (.int i) => a + i.natAbs
  | _ => a) 1000
def notComp : Expr → Bool
  | .ListComp _ _ _ _ | .SetComp _ _ _ _ | .DictComp _ _ _ _ _ => false
  | _ => true
def isLoc (cc : CC) (x : Str) : Bool := decide (cc.sc.names.lookup x = some .local)
def cPar (c : Fns) (cc : CC) (names : List Str) (ts vs : List Expr) : MS := match ts, vs with
  | [.Name x _, .Name y _], [a, b] => (match ixOf cc.N x, ixOf cc.N y with
      | some i, some j => if decide (names = [x, y]) && isLoc cc x && isLoc cc y && decide (i ≠ j) then sPar [i, j] (lsE c cc [a, b]) else sNo
      | _, _ => sNo)
  | [.Name x _, .Name y _, .Name z _], [a, b, d] => (match ixOf cc.N x, ixOf cc.N y, ixOf cc.N z with
      | some i, some j, some l => if decide (names = [x, y, z]) && isLoc cc x && isLoc cc y && isLoc cc z && decide (i ≠ j) && decide (i ≠ l) && decide (j ≠ l) then sPar [i, j, l] (lsE c cc [a, b, d]) else sNo
      | _, _, _ => sNo)
  | _, _ => sNo
/-- a = (b, c): which of the three ways -/
def cAsg (c : Fns) (cc : CC) (tg v : Expr) : MS := if !notComp v || starred tg then sNo else match tg, v with
  | .Attribute o f _, v => Mi.sFld cc.g.cs (c.e cc o) f (c.e cc v)
  | .Tuple ts k p, .Tuple vs k2 p2 => match swN cc ts vs with
    | some names => if vs.all (foldedForSure 8) then (match c.g cc (.Tuple ts k p) with
        | (g, _, ok) => if ok then Mi.sAsg (c.e cc (.Tuple vs k2 p2)) g else sNo)
      else if vs.all (constantsAlone 8) then sNo else cPar c cc names ts vs
    | none => match c.g cc (.Tuple ts k p) with
        | (g, _, ok) => if ok then Mi.sAsg (c.e cc (.Tuple vs k2 p2)) g else sNo
  | .List _ _, _ => sNo
  | tg, v => match c.g cc tg with
      | (g, _, ok) => if ok then Mi.sAsg (c.e cc v) g else sNo
def cRaise (c : Fns) (cc : CC) : Expr → MS
  | .Call (.Name x _) (e :: es) [] _ => if x = "__debug__" then sNo else if isGlo (cc.sc.names.lookup x) && !anyStar (e :: es) then (match cc.g.glob.lookup x with
      | some (.exc n) => sRaise n (lsE c cc (e :: es))
      | _ => sNo) else sNo
  | _ => sNo
def stepS (c : Fns) (cc : CC) : Stmt → MS
  | .Pass _ => sNil
  | .Expr e _ => if notComp e then Mi.sExpr (c.e cc e) else sNo
  | .Return (some e) _ => Mi.sRet (c.e cc e)
  | .Return none _ => sRetN
  | .Assign [tg] v _ => cAsg c cc tg v
  | .If t a b _ => Mi.sIf (c.t cc t) (lsS c cc a) (lsS c cc b)
  | .While t b [] _ => if cc.loops then Mi.sWhile μ0 (c.t cc t) (lsS c cc b) else sNo
  | .For tg it b [] _ => if cc.loops && notSet it then (match c.g cc tg with
      | (g, _, ok) => if ok then Mi.sFor (c.i cc it) g (lsS c cc b) else sNo) else sNo
  | .Raise (some e) none _ => cRaise c cc e
  | .Try b (_ :: _) [] [] _ => sTry0 (lsS c { cc with loops := false } b)
  | _ => sNo
def step (c : Fns) : Fns := ⟨stepE c, stepT c, stepS c, stepG c, stepI c⟩
def comp : Nat → Fns
  | 0 => dead
  | n + 1 => step (comp n)
end Mi

/-! Mi, part Q: the functions that the text is turned into keep their promise. -/
namespace Mi
open PySem PySem.Spec PyProof.Rows L2

/-- the head, and the room that is left -/
structure Gx where
  P : Program
  w : World
  K : PySem.W.Frag
  mg : Str → Option Value
  base : Heap
  k : Nat
structure Fits (G : Gx) (X : Cx) : Prop where
  prog : X.prog = G.P
  w : X.w = G.w
  K : X.K = G.K
  mg : X.mg = G.mg
  base : X.base = G.base
  room : Room G.k X.A
def GEok (T : Nat → Addr) (X : Cx) (x : Str) : GE → Prop
  | .dfn s => ∃ fa, X.mg x = some (.ref fa) ∧ PySem.W.keepIn X.K (.ref fa) = true ∧ CallD T X (.ref fa) s
  | .cls c s => X.mg x = some (.ref (T c)) ∧ PySem.W.keepIn X.K (.ref (T c)) = true ∧ CallD T X (.ref (T c)) s
  | .val d => ∃ v u, X.mg x = some u ∧ RelV v u ∧ ∀ ρ H, RepV T X.K ρ H d v
  | .exc c => X.mg x = some (.ref (T c)) ∧ ExK X.K (T c)
structure Glk (T : Nat → Addr) (G : Gx) (g : CG) : Prop where
  glob : ∀ x e, g.glob.lookup x = some e → ∀ X, Fits G X → GEok T X x e
  free : ∀ x, g.free.contains x = true → G.mg x = none
  cs : ∀ X, Fits G X → CIsOk T X g.cs
  kn : Kn T G.K g.cs
  is : IsOk T G.K g.sub g.tgs
structure Cok (T : Nat → Addr) (G : Gx) (cc : CC) (X : Cx) : Prop where
  fit : Fits G X
  gl : Glk T G cc.g
  sc : X.env.scope = cc.sc
  kind : cc.sc.kind = .function
  N : X.N = cc.N
  nd : cc.N.Nodup
  calm : X.calm = true
  fn : X.fn = cc.fn
  pass : cc.loops = true → PassesOwn (model X.prog X.w) X.A X.env X.xe
section
variable {T : Nat → Addr} {G : Gx} {cc : CC} {X : Cx}
theorem Cok.u (h : Cok T G cc X) : X.A.units + 65 < cLine := by have := h.fit.room.un; omega
theorem Cok.hN (h : Cok T G cc X) : X.N.Nodup := by rw [h.N]; exact h.nd
theorem Cok.cs (h : Cok T G cc X) : CIsOk T X cc.g.cs := h.gl.cs X h.fit
theorem Cok.kn (h : Cok T G cc X) : Kn T X.K cc.g.cs := by rw [h.fit.K]; exact h.gl.kn
theorem Cok.is (h : Cok T G cc X) : IsOk T X.K cc.g.sub cc.g.tgs := by rw [h.fit.K]; exact h.gl.is
theorem Cok.glob (h : Cok T G cc X) {x : Str} {e : GE} (q : cc.g.glob.lookup x = some e) : GEok T X x e := h.gl.glob x e q X h.fit
theorem Cok.free (h : Cok T G cc X) {x : Str} (q : cc.g.free.contains x = true) : X.mg x = none := by rw [h.fit.mg]; exact h.gl.free x q
theorem Cok.gl_ (h : Cok T G cc X) {x : Str} (q : isGlo (cc.sc.names.lookup x) = true) : Gl X x := by
  show X.env.scope.names.lookup x = _
  rw [h.sc]
  unfold isGlo at q
  split at q
  · assumption
  · cases q
theorem Cok.vis (h : Cok T G cc X) {x : Str} (q : isVis (cc.sc.names.lookup x) = true) : Vis X.env.scope x := by
  unfold Vis
  rw [h.sc]
  unfold isVis at q
  split at q
  · exact .inl (by assumption)
  · exact .inr (.inl (by assumption))
  · exact .inr (.inr (by assumption))
  · cases q
theorem Cok.blk (h : Cok T G cc X) {scope : Scope} (hk : scope.kind = .function) (s : Shared) (H : Hp) (C : Addr) (cl : List (Str × Addr)) (fp : List Addr) : Cok T G (cc.blk scope) (X.blk s H scope (compEnvC scope cl C X.env) fp) where
  fit := ⟨h.fit.prog, h.fit.w, h.fit.K, h.fit.mg, h.fit.base, h.fit.room⟩
  gl := h.gl
  sc := by show relS scope X.env.scope = relS scope cc.sc; rw [h.sc]
  kind := by show scope.kind = _; exact hk
  N := h.N
  nd := h.nd
  calm := h.calm
  fn := rfl
  pass := fun z => by cases z
theorem Cok.nox (h : Cok T G cc X) : Cok T G { cc with loops := false } X.nox where
  fit := ⟨h.fit.prog, h.fit.w, h.fit.K, h.fit.mg, h.fit.base, h.fit.room⟩
  gl := h.gl
  sc := h.sc
  kind := h.kind
  N := h.N
  nd := h.nd
  calm := h.calm
  fn := h.fn
  pass := fun z => by cases z
theorem ixFrom_some {x : Str} : ∀ {N : List Str} {k i : Nat}, ixFrom x N k = some i → k ≤ i ∧ N[i - k]? = some x
  | [], _, _, h => by cases h
  | y :: r, k, i, h => by
    unfold ixFrom at h
    split at h
    · rename_i e
      cases h
      exact ⟨Nat.le_refl _, by simp [e]⟩
    · obtain ⟨h1, h2⟩ := ixFrom_some h
      refine ⟨by omega, ?_⟩
      have : i - k = (i - (k + 1)) + 1 := by omega
      rw [this]
      simpa using h2
theorem ixOf_some {N : List Str} {x : Str} {i : Nat} (h : ixOf N x = some i) : N[i]? = some x := by
  have := (ixFrom_some h).2
  simpa using this
theorem pd_no {e : Expr} : PD T X e mNo := fun W tk => ⟨fun pins s σ H Q I ⟨ρ, h, δ, R, S, a⟩ => a.elim⟩
theorem pt_no {e : Expr} : PDt T X e tNo := fun W tk => ⟨fun pins s σ H Q I ⟨ρ, h, δ, R, S, a⟩ => a.elim⟩
theorem ps_no {e : Stmt} : PSd T X e sNo := fun W tk => ⟨fun pins s σ H Q I ⟨ρ, h, δ, R, S, a⟩ => a.elim⟩
theorem pg_no {e : Expr} {js : List Nat} : PGd T X e gNo js := ⟨fun pins s σ H v u Q I r ⟨ρ, d, δ, δ', rd, S, e, k⟩ => by cases e⟩
theorem pi_no {tg e : Expr} : PId T X tg e iNo := fun W tk => ⟨fun pins s σ H R I ⟨ρ, h, δ, _, S, a⟩ => a.elim⟩
/-- what one depth's functions promise -/
structure Sound (T : Nat → Addr) (G : Gx) (c : Fns) : Prop where
  e : ∀ cc X, Cok T G cc X → ∀ x, PD T X x (c.e cc x)
  t : ∀ cc X, Cok T G cc X → ∀ x, PDt T X x (c.t cc x)
  s : ∀ cc X, Cok T G cc X → ∀ x, PSd T X x (c.s cc x)
  g : ∀ cc X, Cok T G cc X → ∀ x, (c.g cc x).2.2 = true → PGd T X x (c.g cc x).1 (c.g cc x).2.1
  i : ∀ cc X, Cok T G cc X → ∀ tg x, notSet x = true → PId T X tg x (c.i cc x)
theorem sound_dead : Sound T G dead := ⟨fun _ _ _ _ => pd_no, fun _ _ _ _ => pt_no, fun _ _ _ _ => ps_no, fun _ _ _ _ z => (by cases z), fun _ _ _ _ _ _ => pi_no⟩
variable {c : Fns}
theorem anyStar_mem {es : List Expr} (h : anyStar es = false) : ∀ e ∈ es, starred e = false := fun e he => by
  unfold anyStar at h
  rw [List.any_eq_false] at h
  simpa using h e he
theorem anyStar_cons {e : Expr} {es : List Expr} (h : anyStar (e :: es) = false) : starred e = false ∧ anyStar es = false := by
  unfold anyStar at h ⊢
  rw [List.any_cons, Bool.or_eq_false_iff] at h
  exact h
theorem lsE_ok (S : Sound T G c) (h : Cok T G cc X) : ∀ {es : List Expr}, anyStar es = false → PDs T X es (lsE c cc es)
  | [], _ => pds_nil
  | e :: r, hs => pds_cons (S.e cc X h e) (lsE_ok S h (anyStar_cons hs).2) (not_starred (anyStar_cons hs).1)
theorem lsS_ok (S : Sound T G c) (h : Cok T G cc X) : ∀ {es : List Stmt}, PSsd T X es (lsS c cc es)
  | [] => psd_nil
  | e :: r => psd_cons (S.s cc X h e) (lsS_ok S h)
theorem nd_ {x : Str} (h : ¬ x = "__debug__") : (x == ("__debug__" : Str)) = false := beq_eq_false_iff_ne.mpr h
theorem name_ok (h : Cok T G cc X) {x : Str} {pos : Pos} : PD T X (.Name x pos) (cName cc x) := by
  unfold cName
  split
  · exact pd_no
  · rename_i hx
    have hx1 : ¬ x = "__debug__" := fun z => hx (.inl z)
    have hx2 : ¬ x = "__classdict__" := fun z => hx (.inr z)
    split
    · rename_i hv
      split
      · rename_i i hi
        exact pd_var (by rw [h.N]; exact ixOf_some hi) (h.vis hv) (nd_ hx1) (beq_eq_false_iff_ne.mpr hx2)
      · exact pd_no
    · split
      · rename_i hg
        split
        · rename_i d hd
          obtain ⟨v, u, hm, r, hr⟩ := h.glob hd
          exact pd_glob (h.gl_ hg) hm r hr (nd_ hx1)
        · exact pd_no
      · exact pd_no
theorem op_ok (h : Cok T G cc X) : ∀ op, OpD T X (binaryOp op) (cOp cc op) := fun op => by
  cases op
  case Add => exact opd_arith h.cs h.kn opd_add (by decide) (by decide +kernel)
  case Sub => exact opd_arith h.cs h.kn opd_sub (by decide) (by decide +kernel)
  case Mult => exact opd_arith h.cs h.kn opd_mul (by decide) (by decide +kernel)
  case RShift => exact opd_arith h.cs h.kn opd_shr (by decide) (by decide +kernel)
  all_goals exact opd_b _
theorem cmp_ok (h : Cok T G cc X) : ∀ op, OpD T X (compareOp op) (cCmp cc op) := fun op => by
  have u := h.u
  cases op
  case Eq => exact opd_rich h.cs h.kn (by omega) (opd_eq (by omega)) (fun _ _ => rfl) (by decide +kernel)
  case NotEq => exact opd_neOwn h.cs h.kn (by omega)
  case LtE => exact opd_rich h.cs h.kn (by omega) (opd_cmp u .LtE) (fun _ _ => rfl) (by decide +kernel)
  all_goals exact opd_cmp u _
theorem bool_ok (S : Sound T G c) (h : Cok T G cc X) {op : BoolOp} {pos : Pos} : ∀ {es : List Expr}, PD T X (.BoolOp op es pos) (cBool c cc op es)
  | [] => pd_no
  | [a] => pd_one (S.e cc X h a)
  | a :: b :: r => by
    cases op
    · exact pd_and (S.e cc X h a) (bool_ok S h)
    · exact pd_or (S.e cc X h a) (bool_ok S h)
theorem boolT_ok (S : Sound T G c) (h : Cok T G cc X) {op : BoolOp} {pos : Pos} : ∀ {es : List Expr}, es ≠ [] → PDw T X (.BoolOp op es pos) (cBoolT c cc op es)
  | [], z => absurd rfl z
  | [a], _ => by
    cases op
    · exact pw_a1 (S.t cc X h a)
    · exact pw_o1 (S.t cc X h a)
  | a :: b :: r, _ => by
    cases op
    · exact pw_a (S.t cc X h a) (boolT_ok S h (by simp))
    · exact pw_o (S.t cc X h a) (boolT_ok S h (by simp))

theorem boot_cls {x : Str} {n : String} (h : (x = "int" ∧ n = "int") ∨ (x = "bool" ∧ n = "bool") ∨ (x = "str" ∧ n = "str") ∨ (x = "tuple" ∧ n = "tuple") ∨ (x = "list" ∧ n = "list") ∨ (x = "dict" ∧ n = "dict")) : bootBuiltins x = some (.type n) ∧ x ≠ "__name__" := by
  rcases h with ⟨rfl, rfl⟩ | ⟨rfl, rfl⟩ | ⟨rfl, rfl⟩ | ⟨rfl, rfl⟩ | ⟨rfl, rfl⟩ | ⟨rfl, rfl⟩
  · exact ⟨boot_int, by decide⟩
  · exact ⟨boot_bool, by decide⟩
  · exact ⟨boot_str, by decide⟩
  · exact ⟨boot_tuple, by decide⟩
  · exact ⟨boot_list, by decide⟩
  · exact ⟨boot_dict, by decide⟩
theorem cls_ok' (h : Cok T G cc X) {e : Expr} {t : Tg} (q : cCls cc e = some t) : PCl T X e t ∧ starred e = false := by
  unfold cCls at q
  split at q
  · rename_i x pos
    refine ⟨?_, rfl⟩
    split at q
    · cases q
    · rename_i hd
      split at q
      · rename_i hg
        split at q
        · rename_i n s hn
          cases q
          obtain ⟨hm, _⟩ := h.glob hn
          exact pcl_c (h.gl_ hg) hm (nd_ hd)
        · split at q
          · rename_i hf
            have key : ∀ n, ((x = "int" ∧ n = "int") ∨ (x = "bool" ∧ n = "bool") ∨ (x = "str" ∧ n = "str") ∨ (x = "tuple" ∧ n = "tuple") ∨ (x = "list" ∧ n = "list") ∨ (x = "dict" ∧ n = "dict")) → PCl T X (.Name x pos) (.b n) := fun n z =>
              pcl_b (h.gl_ hg) (h.free hf) (boot_cls z).1 (boot_cls z).2 (nd_ hd)
            split at q
            · cases q; exact key _ (.inl ⟨by assumption, rfl⟩)
            · split at q
              · cases q; exact key _ (.inr (.inl ⟨by assumption, rfl⟩))
              · split at q
                · cases q; exact key _ (.inr (.inr (.inl ⟨by assumption, rfl⟩)))
                · split at q
                  · cases q; exact key _ (.inr (.inr (.inr (.inl ⟨by assumption, rfl⟩))))
                  · split at q
                    · cases q; exact key _ (.inr (.inr (.inr (.inr (.inl ⟨by assumption, rfl⟩)))))
                    · split at q
                      · cases q; exact key _ (.inr (.inr (.inr (.inr (.inr ⟨by assumption, rfl⟩)))))
                      · cases q
          · cases q
      · cases q
  · cases q
theorem clss_ok (h : Cok T G cc X) : ∀ {es : List Expr} {cs : List Tg}, cClss cc es = some cs → PCls T X es cs
  | [], _, q => by cases q; exact pcls_nil
  | e :: r, cs, q => by
    unfold cClss at q
    split at q
    · rename_i c cs' q1 q2
      cases q
      exact pcls_cons (cls_ok' h q1).1 (clss_ok h q2) (cls_ok' h q1).2
    · cases q
theorem isi_ok (S : Sound T G c) (h : Cok T G cc X) {es : List Expr} {p pos : Pos} (hg : Gl X "isinstance") (hm : X.mg "isinstance" = none) : PD T X (.Call (.Name "isinstance" p) es [] pos) (cIsi c cc es) := by
  unfold cIsi
  split
  · split
    · rename_i cs q
      split
      · rename_i hb
        simp only [Bool.and_eq_true, Bool.not_eq_true', decide_eq_true_eq, List.all_eq_true] at hb
        exact pd_isiT h.is hg hm (S.e cc X h _) (clss_ok h q) (fun t ht => hb.1.1 t ht) hb.1.2 hb.2
      · exact pd_no
    · exact pd_no
  · split
    · rename_i t q
      split
      · rename_i hb
        simp only [Bool.and_eq_true, Bool.not_eq_true', decide_eq_true_eq] at hb
        exact pd_isi h.is hg hm (S.e cc X h _) (cls_ok' h q).1 hb.1 hb.2 (cls_ok' h q).2
      · exact pd_no
    · exact pd_no
  · exact pd_no
theorem bi_ok (h : Cok T G cc X) {x : Str} {s : Sem} (q : cBi x = some s) : ∃ id, CallD T X (.builtin id) s ∧ bootBuiltins x = some (.builtin id) ∧ x ≠ "__name__" := by
  unfold cBi at q
  split at q
  · rename_i e; subst e; cases q; exact ⟨"abs", call_abs', boot_abs, by decide⟩
  · split at q
    · rename_i e; subst e; cases q; exact ⟨"any", call_any' h.calm, boot_any, by decide⟩
    · split at q
      · rename_i e; subst e; cases q; exact ⟨"all", call_all' h.calm, boot_all, by decide⟩
      · split at q
        · rename_i e; subst e; cases q; exact ⟨"sum", call_sum' h.calm, boot_sum, by decide⟩
        · split at q
          · rename_i e; subst e; cases q; exact ⟨"len", call_len', boot_len, by decide⟩
          · cases q
theorem callG_ok (S : Sound T G c) (h : Cok T G cc X) {x : Str} {es : List Expr} {p pos : Pos} (hg : Gl X x) (hd : ¬ x = "__debug__") : PD T X (.Call (.Name x p) es [] pos) (cCallG c cc x es) := by
  unfold cCallG
  split
  · exact pd_no
  · rename_i hs
    have hs : anyStar es = false := by simpa using hs
    have gen : ∀ fa s, X.mg x = some (.ref fa) → PySem.W.keepIn X.K (.ref fa) = true → CallD T X (.ref fa) s → PD T X (.Call (.Name x p) es [] pos) (mCall s (lsE c cc es)) := fun fa s hm hk hc => by
      cases es with
      | nil => exact pd_call0 hc hk hg hm (nd_ hd)
      | cons e es => exact pd_call hc hk hg hm (lsE_ok S h hs) (fun e' he => not_starred (anyStar_mem hs e' he)) (nd_ hd)
    split
    · rename_i s q
      obtain ⟨fa, hm, hk, hc⟩ := h.glob q
      exact gen fa s hm hk hc
    · rename_i n s q
      obtain ⟨hm, hk, hc⟩ := h.glob q
      exact gen _ s hm hk hc
    · exact pd_no
    · split
      · rename_i hf
        have hm := h.free hf
        split
        · rename_i e
          subst e
          exact isi_ok S h hg hm
        · split
          · exact pd_no
          · split
            · rename_i s q
              obtain ⟨id, hc, hb, hn⟩ := bi_ok h q
              cases es with
              | nil => first | (exfalso; apply_assumption; rfl) | simp_all
              | cons e es => exact pd_callB hc hg hm hb (lsE_ok S h hs) (fun e' he => not_starred (anyStar_mem hs e' he)) hn (nd_ hd)
            · exact pd_no
      · exact pd_no
theorem call_ok (S : Sound T G c) (h : Cok T G cc X) {fe : Expr} {es : List Expr} {pos : Pos} : PD T X (.Call fe es [] pos) (cCall c cc fe es pos) := by
  unfold cCall
  split
  · rename_i x p
    split
    · exact pd_no
    · rename_i hd
      split
      · split
        · exact pd_no
        · rename_i hb
          simp only [Bool.or_eq_true, not_or, Bool.not_eq_true] at hb
          exact pd_callO h.cs (S.e cc X h _) rfl (by intro z; rw [z] at hb; cases hb.2) (lsE_ok S h hb.1) (anyStar_mem hb.1)
      · split
        · rename_i hg
          exact callG_ok S h (h.gl_ hg) hd
        · exact pd_no
  · rename_i o m ap
    split
    · exact pd_no
    · rename_i hb
      simp only [Bool.or_eq_true, not_or, Bool.not_eq_true, Bool.not_eq_true', decide_eq_false_iff_not, Bool.not_eq_false', Bool.not_eq_false] at hb
      obtain ⟨⟨⟨h1, h2⟩, h3⟩, h4⟩ := hb
      refine pd_meth h.cs (S.e cc X h o) ?_ (anyStar_mem h1) (by simpa using h2) (by simpa using h3) (by simpa using h4)
      cases es with
      | nil => exact .inr ⟨rfl, rfl⟩
      | cons e es => exact .inl ⟨by simp, lsE_ok S h h1⟩
  · rename_i hn1 hn2
    split
    · exact pd_no
    · rename_i hb
      simp only [Bool.or_eq_true, not_or, Bool.not_eq_true] at hb
      refine pd_callO h.cs (S.e cc X h _) ?_ (by intro z; rw [z] at hb; cases hb.2) (lsE_ok S h hb.1) (anyStar_mem hb.1)
      cases fe <;> first | rfl | exact absurd rfl (hn2 _ _ _)
theorem plainIx_ok {e : Expr} (h : plainIx e = true) : PlainIx e := by
  intro o i
  cases e <;> first | rfl | cases h
theorem notSet_ok {e : Expr} {env : Env} (h : notSet e = true) : ∀ x, foldedSetIterable e env x = pure x := by
  intro x
  cases e <;> first | rfl | cases h
theorem comp_ok (S : Sound T G c) (h : Cok T G cc X) {elt : Expr} {gs : List Comprehension} {scope : Scope} {pos : Pos} : PD T X (.ListComp elt gs scope pos) (cComp c cc elt gs scope) := by
  unfold cComp
  split
  · rename_i tg it ifs
    split
    rename_i g js ok q
    split
    · rename_i hb
      simp only [Bool.and_eq_true, List.all_eq_true, List.contains_iff_mem] at hb
      obtain ⟨⟨⟨h1, h2⟩, h3⟩, h4⟩ := hb
      have B : BlkOk X.N X.env.scope scope (Mi.ownOf cc.N scope) := by
        rw [h.N, h.sc]
        exact blkOk_by h2
      have hk : scope.kind = .function := B.kind
      refine pd_comp rfl h.calm h.hN (S.i cc X h tg it h3) B (fun s H C cl fp => ?_) (fun s H C cl fp => ?_) (fun s H C cl fp => S.e _ _ (h.blk hk s H C cl fp) elt) (notSet_ok h3) (fun j hj => by simpa using h4 j hj)
      · have := S.g _ _ (h.blk hk s H C cl fp) tg
        rw [q] at this
        exact this h1
      · unfold cTests
        split
        · exact ptsd_nil
        · exact ptsd_one (S.t _ _ (h.blk hk s H C cl fp) _)
        · exact fun W tk => ⟨fun pins s σ H Q I ⟨ρ, h, δ, R, S, a⟩ => a.elim⟩
    · exact pd_no
  · exact pd_no
theorem stepE_ok (S : Sound T G c) (h : Cok T G cc X) (x : Expr) : PD T X x (stepE c cc x) := by
  unfold stepE
  split
  · exact name_ok h
  · exact pd_int
  · exact pd_bl
  · exact pd_str
  · exact pd_non
  · split
    · exact pd_no
    · rename_i hs; exact pd_tup (lsE_ok S h (by simpa using hs))
  · split
    · exact pd_no
    · rename_i hs; exact pd_lst (lsE_ok S h (by simpa using hs))
  · exact pd_bin (op_ok h _) (S.e cc X h _) (S.e cc X h _)
  · exact pd_un (und_own h.cs und_neg) (S.e cc X h _)
  · exact pd_not (S.e cc X h _)
  · split
    · exact pd_no
    · rename_i hs; exact pd_cmp (cmp_ok h _) (S.e cc X h _) (S.e cc X h _) (by simpa using hs)
  · split
    · exact pd_no
    · rename_i hs; exact pd_chain (cmp_ok h _) (cmp_ok h _) (S.e cc X h _) (S.e cc X h _) (S.e cc X h _) (by simpa using hs)
  · exact bool_ok S h
  · exact pd_if (S.t cc X h _) (S.e cc X h _) (S.e cc X h _)
  · split
    · rename_i hb; exact pd_attr h.cs (S.e cc X h _) (abase hb)
    · exact pd_no
  · split
    · rename_i hb; exact pd_ix (by have := h.u; omega) (S.e cc X h _) (S.e cc X h _) (plainIx_ok hb)
    · exact pd_no
  · exact call_ok S h
  · exact comp_ok S h
  · exact pd_no
theorem stepT_ok (S : Sound T G c) (h : Cok T G cc X) (x : Expr) : PDt T X x (stepT c cc x) := by
  unfold stepT
  split
  · exact pt_not' (S.t cc X h _)
  · rename_i op es pos
    cases es with
    | nil => exact pt_no
    | cons e es => exact (boolT_ok S h (by simp)).pt
  · exact pt_no
  · split
    · exact pt_no
    · rename_i hs; exact pt_cmp' (cmp_ok h _) (S.e cc X h _) (S.e cc X h _) (by simpa using hs)
  · exact pt_no
  · rename_i h1 h2 h3 h4 h5
    refine pt_e (S.e cc X h _) fun whole => ?_
    cases x with
    | UnaryOp op a p => cases op <;> first | rfl | exact absurd rfl (h1 _ _)
    | BoolOp op a p => exact absurd rfl (h2 _ _ _)
    | IfExp a b d p => exact absurd rfl (h3 _ _ _ _)
    | Compare a b d p => exact absurd rfl (h5 _ _ _ _)
    | _ => rfl

theorem gName_ok (h : Cok T G cc X) {x : Str} {pos : Pos} (q : (Mi.gName cc x).2.2 = true) : PGd T X (.Name x pos) (Mi.gName cc x).1 (Mi.gName cc x).2.1 := by
  unfold Mi.gName at q ⊢
  split at q
  · rename_i i hi
    have hN : X.N[i]? = some x := by rw [h.N]; exact ixOf_some hi
    split at q
    · rename_i hl
      have hl' : X.env.scope.names.lookup x = some .local := by rw [h.sc]; exact hl
      exact pgd_name h.hN hN (.inl hl') (.inr hl')
    · rename_i hl
      split at q
      · rename_i hf
        rw [if_pos hf]
        have hl' : X.env.scope.names.lookup x = some .cell := by rw [h.sc]; exact hl
        exact pgd_name h.hN hN (.inr hl') (.inl (by rw [h.fn]; exact hf))
      · cases q
    · cases q
  · cases q
theorem lsG_ok (S : Sound T G c) (h : Cok T G cc X) : ∀ {es : List Expr}, anyStar es = false → (lsG c cc es).2.2 = true → PGsd T X es (lsG c cc es).1 (lsG c cc es).2.1 ∧ ∀ ds δ δ', (lsG c cc es).1 ds δ = some δ' → ds.length = es.length
  | [], _, _ => ⟨pgsd_nil, fun ds δ δ' e => by cases ds with | nil => rfl | cons _ _ => cases e⟩
  | e :: r, hs, q => by
    have e1 : lsG c cc (e :: r) = (gCons' (c.g cc e).1 (lsG c cc r).1, (c.g cc e).2.1 ++ (lsG c cc r).2.1, (c.g cc e).2.2 && (lsG c cc r).2.2) := rfl
    rw [e1] at q ⊢
    obtain ⟨q1, q2⟩ := Bool.and_eq_true_iff.mp q
    obtain ⟨h1, h2⟩ := lsG_ok S h (anyStar_cons hs).2 q2
    refine ⟨pgsd_cons (S.g cc X h e q1) h1 (not_starred (anyStar_cons hs).1), fun ds δ δ' e => ?_⟩
    cases ds with
    | nil => cases e
    | cons d ds =>
      have e : ((c.g cc _).1 d δ).bind ((lsG c cc r).1 ds) = some δ' := e
      cases z : (c.g cc _).1 d δ with
      | none => rw [z] at e; cases e
      | some δ1 =>
        rw [z] at e
        simp [h2 ds δ1 δ' e]
theorem stepG_ok (S : Sound T G c) (h : Cok T G cc X) (x : Expr) (q : (stepG c cc x).2.2 = true) : PGd T X x (stepG c cc x).1 (stepG c cc x).2.1 := by
  unfold stepG at q ⊢
  split at q
  · exact gName_ok h q
  · rename_i es k pos
    split at q
    · cases q
    · rename_i hs
      have hs : anyStar es = false := by simpa using hs
      rw [if_neg (by rw [hs]; exact Bool.false_ne_true)]
      obtain ⟨h1, h2⟩ := lsG_ok S h hs q
      exact pgd_tup h.calm h1 (fun e he => not_starred (anyStar_mem hs e he)) rfl h2
  · cases q
theorem stepI_ok (S : Sound T G c) (h : Cok T G cc X) (tg x : Expr) (hx : notSet x = true) : PId T X tg x (stepI c cc x) := by
  unfold stepI
  split
  · rename_i x p es pos
    split
    · rename_i hr
      obtain ⟨rfl, hg⟩ := hr
      split
      · rename_i hf
        rw [Bool.and_eq_true] at hf
        have hm := h.free hf.2
        split
        · split
          · exact pi_no
          · rename_i hs; exact pid_range1 (h.gl_ hg) hm (S.e cc X h _) (not_starred (by simpa using hs))
        · split
          · exact pi_no
          · rename_i hs
            simp only [Bool.or_eq_true, not_or, Bool.not_eq_true] at hs
            exact pid_range2 (h.gl_ hg) hm (S.e cc X h _) (S.e cc X h _) (not_starred hs.1) (not_starred hs.2)
        · exact pi_no
      · exact pi_no
    · exact pid_seq (S.e cc X h _)
  · exact pid_seq (S.e cc X h _)

/-! ### statements -/
theorem notComp_ok {e : Expr} {t : Option Expr} {n : Nat} {env : Env} (h : notComp e = true) : swapsWith e t n env = pure false := by
  cases e <;> first | rfl | cases h
theorem blockKind_fn {env : Env} (h : env.scope.kind = .function) : env.blockKind = .function := by
  unfold Env.blockKind
  rw [h]
  rfl
/-- what is swapped -/
theorem star_any_eq {vs : List Expr} (f : Expr → Bool) (h : ∀ e, f e = starred e) : vs.any f = anyStar vs := by
  have e : f = starred := funext h
  rw [e]
  rfl
theorem nm_eq {ts : List Expr} {sc : Scope} {line : Nat} (f : Expr → Option Str) (h : ∀ e, f e = nmF sc line e) : ts.filterMap f = ts.filterMap (nmF sc line) := by
  have e : f = nmF sc line := funext h
  rw [e]
theorem swN_ok (h : Cok T G cc X) {ts vs : List Expr} {k k2 : Nat} {p p2 : Pos} :
    ∃ u, swappedStores [.Tuple ts k p] (.Tuple vs k2 p2) X.env = (match swN cc ts vs with
      | none => pure none
      | some names => if vs.all (foldedForSure 8) then pure none else if vs.all (constantsAlone 8) then u else pure (some names)) := by
  have hb : X.env.blockKind = .function := blockKind_fn (by rw [h.sc]; exact h.kind)
  have hk : ∀ id, X.env.kindOf id = cc.sc.names.lookup id := fun id => by show X.env.scope.names.lookup id = _; rw [h.sc]
  refine ⟨?_, ?_⟩
  rotate_left
  · unfold swappedStores swN
    simp only [pure_bind, hb, hk, bne_self_eq_false, Bool.or_false]
    rw [star_any_eq _ (fun e => by cases e <;> rfl)]
    rw [nm_eq (sc := cc.sc) (line := (Option.map (fun x => x.pos.line) ts.head?).getD 0) _ (fun e => by cases e <;> rfl)]
    generalize ts.filterMap (nmF cc.sc ((Option.map (fun x => x.pos.line) ts.head?).getD 0)) = names
    split
    · rfl
    · split
      · rfl
      · split
        · rfl
        · rfl
theorem loc_ok (h : Cok T G cc X) {x : Str} (q : isLoc cc x = true) : X.env.scope.names.lookup x = some .local := by
  rw [h.sc]
  exact of_decide_eq_true q
theorem par_ok (S : Sound T G c) (h : Cok T G cc X) {names : List Str} {ts vs : List Expr} {k k2 : Nat} {p p2 pos : Pos} (hs : anyStar vs = false) (hw : swappedStores [.Tuple ts k p] (.Tuple vs k2 p2) X.env = pure (some names)) :
    PSd T X (.Assign [.Tuple ts k p] (.Tuple vs k2 p2) pos) (cPar c cc names ts vs) := by
  unfold cPar
  split
  · split
    · rename_i i j hi hj
      split
      · rename_i hb
        simp only [Bool.and_eq_true, decide_eq_true_eq] at hb
        obtain ⟨⟨⟨h1, h2⟩, h3⟩, h4⟩ := hb
        subst h1
        exact psd_par h.calm h.hN (by rw [h.N]; exact ixOf_some hi) (by rw [h.N]; exact ixOf_some hj) h4 (loc_ok h h2) (loc_ok h h3) (lsE_ok S h hs) hw rfl
      · exact ps_no
    · exact ps_no
  · split
    · rename_i i j l hi hj hl
      split
      · rename_i hb
        simp only [Bool.and_eq_true, decide_eq_true_eq] at hb
        obtain ⟨⟨⟨⟨⟨⟨h1, h2⟩, h3⟩, h4⟩, h5⟩, h6⟩, h7⟩ := hb
        subst h1
        exact psd_par3 h.calm h.hN (by rw [h.N]; exact ixOf_some hi) (by rw [h.N]; exact ixOf_some hj) (by rw [h.N]; exact ixOf_some hl) h5 h6 h7 (loc_ok h h2) (loc_ok h h3) (loc_ok h h4) (lsE_ok S h hs) hw rfl
      · exact ps_no
    · exact ps_no
  · exact ps_no
theorem asg_def (S : Sound T G c) (h : Cok T G cc X) {tg v : Expr} {pos : Pos} (hv : notComp v = true) (ht : starred tg = false) (hw : swappedStores [tg] v X.env = pure none) :
    PSd T X (.Assign [tg] v pos) (match c.g cc tg with | (g, _, ok) => if ok then Mi.sAsg (c.e cc v) g else sNo) := by
  have hg := S.g cc X h tg
  generalize c.g cc tg = r at hg ⊢
  obtain ⟨g, js, ok⟩ := r
  cases ok with
  | true => exact psd_asg (S.e cc X h v) (hg rfl) (notComp_ok hv) hw (not_starred ht)
  | false => exact ps_no
theorem asg_ok (S : Sound T G c) (h : Cok T G cc X) {tg v : Expr} {pos : Pos} : PSd T X (.Assign [tg] v pos) (cAsg c cc tg v) := by
  unfold cAsg
  split
  · exact ps_no
  · rename_i hb
    simp only [Bool.or_eq_true, not_or, Bool.not_eq_true, Bool.not_eq_true', Bool.not_eq_false', Bool.not_eq_false] at hb
    obtain ⟨hv, ht⟩ := hb
    have hv : notComp v = true := by simpa using hv
    split
    · exact psd_fld h.cs (S.e cc X h _) (S.e cc X h _) (notComp_ok hv)
    · rename_i ts k p vs k2 p2 _
      obtain ⟨u, hu⟩ := swN_ok (ts := ts) (vs := vs) (k := k) (k2 := k2) (p := p) (p2 := p2) h
      split
      · rename_i names q
        rw [q] at hu
        dsimp only at hu
        have hs : anyStar vs = false := by
          unfold swN at q
          split at q
          · cases q
          · split at q
            · cases q
            · rename_i z; simpa using z
        split
        · rename_i hf
          rw [if_pos hf] at hu
          exact asg_def S h hv rfl hu
        · rename_i hf
          rw [if_neg hf] at hu
          split
          · exact ps_no
          · rename_i hc
            rw [if_neg hc] at hu
            exact par_ok S h hs hu
      · rename_i q
        rw [q] at hu
        exact asg_def S h hv rfl hu
    · exact ps_no
    · refine asg_def S h hv ht ?_
      unfold swappedStores
      cases tg with
      | Tuple ts k p =>
        cases v with
        | Tuple vs k2 p2 => rename_i z; exact (z _ _ _ _ _ _ rfl rfl).elim
        | _ => rfl
      | List ts p => exfalso; simp_all
      | _ => cases v <;> rfl
theorem raise_ok (S : Sound T G c) (h : Cok T G cc X) {e : Expr} {pos : Pos} : PSd T X (.Raise (some e) none pos) (cRaise c cc e) := by
  unfold cRaise
  split
  · split
    · exact ps_no
    · rename_i hd
      split
      · rename_i hb
        simp only [Bool.and_eq_true, Bool.not_eq_true'] at hb
        split
        · rename_i n q
          obtain ⟨hm, F⟩ := h.glob q
          exact psd_raise h.calm F (h.gl_ hb.1) hm (lsE_ok S h hb.2) (anyStar_mem hb.2) (nd_ hd)
        · exact ps_no
      · exact ps_no
  · exact ps_no
theorem stepS_ok (S : Sound T G c) (h : Cok T G cc X) (x : Stmt) : PSd T X x (stepS c cc x) := by
  unfold stepS
  split
  · exact psd_pass
  · split
    · rename_i hc; exact psd_expr (S.e cc X h _) (notComp_ok hc)
    · exact ps_no
  · exact psd_ret (S.e cc X h _)
  · exact psd_retN
  · exact asg_ok S h
  · exact psd_if (S.t cc X h _) (lsS_ok S h) (lsS_ok S h)
  · split
    · rename_i hl; exact psd_while μ0 (h.pass hl) (S.t cc X h _) (lsS_ok S h)
    · exact ps_no
  · rename_i tg it b pos
    split
    · rename_i hb
      rw [Bool.and_eq_true] at hb
      have hg := S.g cc X h tg
      generalize c.g cc tg = r at hg ⊢
      obtain ⟨g, js, ok⟩ := r
      cases ok with
      | true => exact psd_for (h.pass hb.1) h.calm (S.i cc X h tg it hb.2) (hg rfl) (lsS_ok S h) (notSet_ok hb.2)
      | false => exact ps_no
    · exact ps_no
  · exact raise_ok S h
  · exact psd_try0 (lsS_ok S h.nox)
  · exact ps_no
theorem sound : ∀ n, Sound T G (comp n)
  | 0 => sound_dead
  | n + 1 => ⟨fun _ _ h x => stepE_ok (sound n) h x, fun _ _ h x => stepT_ok (sound n) h x, fun _ _ h x => stepS_ok (sound n) h x, fun _ _ h x q => stepG_ok (sound n) h x q, fun _ _ h tg x q => stepI_ok (sound n) h tg x q⟩
end
end Mi

/-! Mi, part R: the rule of a def. -/
namespace Mi
open PySem PySem.Spec PyProof.Rows L2
section
variable {T : Nat → Addr} {K : PySem.W.Frag} {ρ : List Addr} {H : Hp}
theorem start_rep {n : Nat} {N : List Str} {ds : List D} {vs : List V} (hn : N.length = n) (r : RepVs T K ρ H ds vs) : RepS T K ρ H (startD n ds) (L2.start N vs) := by
  subst hn
  unfold startD L2.start
  refine ⟨by simp [r.length], fun i d e => ?_⟩
  by_cases hi : i < ds.length
  · rw [List.getElem?_append_left (by simpa using hi), List.getElem?_map] at e
    cases z : ds[i]? with
    | none => rw [z] at e; cases e
    | some d' =>
      rw [z] at e
      cases e
      obtain ⟨v, e1, e2⟩ := r.get z
      refine ⟨v, ?_, e2⟩
      rw [List.getElem?_append_left (by rw [List.length_map, ← r.length]; exact hi), List.getElem?_map, e1]
      rfl
  · rw [List.getElem?_append_right (by simpa using hi), List.getElem?_replicate] at e
    split at e <;> cases e
theorem spOf_len {n : Nat} {f : Sem} {vs : List V} {H : Hp} {Q : VK} {E : XK} (h : spOf T K n f vs H Q E) : vs.length = n := by
  obtain ⟨ρ, h, ds, R, rs, e, _⟩ := h
  rw [← rs.length]
  exact e
/-- a body's reading from a def's promise -/
theorem body_rep {n p : Nat} {N : List Str} {m : MS} {vs : List V} {H : Hp} {Q : VK} {E : XK} (hn : N.length = n) (h : spOf T K p (mkDef n p m) vs H Q E) :
    tMS T K (fun c d _ H => E c d H) m { nx := fun _ H' => Q .non H', rt := Q } (L2.start N vs) H := by
  obtain ⟨ρ, h, ds, R, rs, e, a⟩ := h
  refine ⟨ρ, h, startD n ds, R, start_rep hn rs, ?_⟩
  unfold mkDef at a
  rw [if_pos e] at a
  cases z : m (startD n ds) h with
  | nx δ h1 => rw [z] at a; exact fun ρ' H' σ' g R' S' => a ρ' H' .non g R' .non
  | rt d h1 => rw [z] at a; exact a
  | bk δ h1 => rw [z] at a; exact a.elim
  | ct δ h1 => rw [z] at a; exact a.elim
  | ex x δ h1 => rw [z] at a; exact fun ρ' H' σ' cls dd g R' S' p => a ρ' H' cls dd g R' p
  | no => rw [z] at a; exact a.elim
/-- THE RULE of a def -/
theorem def_ok {P : Program} {w : World} {mg : Str → Option Value} {base : Heap} {x qual : Str} {params : Arguments} {body : List Stmt} {scope : Scope} {dvs : List V} {kws : List (Str × V)} {f : Addr} {fd : FuncData} {N ps : List Str} {k : Nat} {g : CG} (n : Nat)
    (F : FunD K x qual params body scope dvs kws f fd) (S : FnScope N ps scope) (GL : Glk T ⟨P, w, K, mg, base, k⟩ g) :
    FnOk P w K mg base (L2.CX P w) (k + 1) f fd ps (spOf T K ps.length (mkDef N.length ps.length (lsS (comp n) ⟨g, N, scope, fun _ => true, true⟩ body))) :=
  F.ok S (fun vs H Q E h => spOf_len h) fun cdv A outer s H vs Q E hr h => by
    have C : Cok T ⟨P, w, K, mg, base, k⟩ ⟨g, N, scope, fun _ => true, true⟩ (cxOf (L2.CX P w) P w K mg base N qual scope f cdv A outer s H E) :=
      ⟨⟨rfl, rfl, rfl, rfl, rfl, hr⟩, GL, rfl, S.kind, rfl, S.nd, rfl, rfl, fun _ => passes_of rfl⟩
    exact ⟨_, lsS_ok (sound n) C _ (takes_of rfl rfl rfl rfl), body_rep rfl h⟩
end
end Mi

/-! Mi, part S: super().__init__(..) at a def's end. -/
namespace Mi
open PySem PySem.Spec PyProof.Rows L2 NdefX
theorem mcall_eq0 {o : Expr} {m : Str} {apos pos : Pos} {es : List Expr} {env : Env} (hp : ∀ e ∈ es, starred e = false) (hl : es.length < 30) (hpos : (apos.endLine == pos.line) = true) :
    eval (.Call (.Attribute o m apos) es [] pos) env = (do
      let ov ← attributeBase o m env (eval o env)
      standAt apos.atName
      let (f, first) ← holding [ov] (getMethod ov m (do return (← importBound o env).getD true))
      callWith pos f first (backTo pos (starEach es env)) (backToKw pos (keywordEach [] env))) := by
  have e : eval (.Call (.Attribute o m apos) es [] pos) env = (do
      let ov ← attributeBase o m env (eval o env)
      standAt apos.atName
      methodCall o m apos pos env ov (es.length + 0) (backTo pos (starEach es env)) (backToKw pos (keywordEach [] env))) := rfl
  rw [e]
  have f : methodCallForm (es.length + 0) (backTo pos (starEach es env)) (backToKw pos (keywordEach [] env)) = true := by
    unfold methodCallForm
    rw [backTo_all, (starEach_plain hp).2]
    show (true && true && decide (es.length + 0 + 0 < 30)) = true
    simpa using hl
  unfold methodCall
  simp only [f]
  unfold calleeOf methodCallPos
  simp only [hpos, Bool.or_true, Bool.not_true, if_true, pure_bind]
/-- what of the text super().m of the class D needs: the def at f, its first parameter, its code object, its cell; m above D is the def at f2 -/
structure SuK (P : Program) (K : PySem.W.Frag) (mg : Str → Option Value) (f D f2 : Addr) (fd : FuncData) (cd cc : Addr) (slf m : Str) : Prop where
  lk : ∃ oc od osl, K.lookup f = some ⟨oc, od, .func fd, osl⟩
  ar : ∃ ar, (fd.params.posonlyargs ++ fd.params.args).head? = some ar ∧ ar.arg = slf
  code : ∃ ccl cdd vs ccs file tf, K.lookup cd = some ⟨ccl, cdd, .fields vs, ccs⟩ ∧ vs[2]? = some (.str file tf) ∧ ((P.main.file : Str) == file) = true
  cell : ∃ cl cld csl, K.lookup cc = some ⟨cl, cld, .cell (some (.ref D)), csl⟩
  cls : ∃ cdD, PySem.W.clsIn K D = some cdD
  sub : PySem.W.mroIn K D (.ref D) = some true
  nosup : mg "super" = none
  opq : PySem.W.nsIn K cStatics "thirdparty.any" = some none
  up : PySem.W.ks_superIn K D D m = some (some (.ref f2))
  ty : PySem.W.typeIn K (.ref f2) = some (.type "function")
  fi : PySem.W.fnIn K f2 = true
  top : (P.main.scope.names.lookup ("super" : Str)).isSome = false
theorem boot_super : bootBuiltins "super" = some (.type "super") := by decide +kernel
section
variable {T : Nat → Addr} {X : Cx} {ρ : List Addr} {h : Hh} {H : Hp}
def mSuper (c : Nat) (f : Sem) (ms : MEs) : ME := fun (δ : Dl) (h : Hh) => match (δ[0]? : Option (Option D)) with
  | some (some (D.ref n)) => if clsAt h (.ref n) = some c then (ms δ h).bind fun ds h2 => f (.ref n :: ds) h2 else .no
  | _ => .no
theorem super_call {body : List Stmt} {F : NF} {f f2 L cc : Addr} {fd : FuncData} {self m : Str} {c : Nat} {s2 : Sem} {e : Expr} {es : List Expr} {ms : MEs} {p0 p1 ap pos : Pos} {W : WX} {pins : List (Addr × Obj)} {s : Shared} {σ : L2.St} {δ : Dl} {Q : VK}
    (henv : X.env = envF F f L) (k : SuK X.prog X.K X.mg f (T c) f2 fd F.c cc self m) (hcl : F.cl.lookup ("__class__" : Str) = some cc) (hks : F.scope.names.lookup ("super" : Str) = some .globalImplicit) (hkc : F.scope.names.lookup ("__class__" : Str) = some .free) (hka : F.scope.names.lookup self = some .local)
    (hm : (m == ("__class__" : Str)) = false) (h0 : X.N[0]? = some self) (hc : CallC T X (.ref f2) s2) (ha : PDs T X (e :: es) ms) (hp : ∀ x ∈ e :: es, starred x = false) (hl : (e :: es).length < 30) (hpos : (ap.endLine == pos.line) = true) (tk : Takes X W)
    (I : Inv X pins σ H s) (R : Rel T X.K ρ h H) (S : RepS T X.K ρ H δ σ) (a : At T X.K (RepV T X.K) W Q σ ρ H (mSuper c s2 ms δ h)) :
    PySem.wpAt (model X.prog X.w) X.A (.func body X.env) (eval (.Call (.Attribute (.Call (.Name "super" p0) [] [] p1) m ap) (e :: es) [] pos) X.env) (EP X pins σ Q) X.xe s := by
  rw [mcall_eq0 hp hl hpos]
  unfold mSuper at a
  split at a
  · rename_i n en
    split at a
    · rename_i ec
      obtain ⟨v, ev, rv⟩ := S.2 0 _ en
      obtain ⟨x, rfl, hx⟩ := rep_ref rv
      obtain ⟨x', ox, od, ex, _, J, hpl⟩ := ins_at I R (.ref hx) (show RelV (V.ref x) (Value.ref x) from rfl) ec
      cases ex
      obtain ⟨oc0, od0, osl0, hf⟩ := k.lk
      obtain ⟨ar, har, rfl⟩ := k.ar
      obtain ⟨ccl, cdd, vs, ccs, file, tf, hcode, hvs, hfile⟩ := k.code
      obtain ⟨cl1, cld, csl, hcell⟩ := k.cell
      obtain ⟨cdD, hD⟩ := k.cls
      have hsc : X.env.scope = F.scope := by rw [henv]
      have KI := I.kIn
      obtain ⟨oD, hD1, hD2⟩ : ∃ oD, s.heap.get? (T c) = some oD ∧ oD.data = .cls cdD := by
        unfold PySem.W.clsIn at hD
        split at hD
        · rename_i c' d cd' sl ho
          cases hD
          exact ⟨_, KI _ _ ho, rfl⟩
        · cases hD
      have nfree : Vis X.env.scope ar.arg := .inl (by rw [hsc]; exact hka)
      obtain ⟨mL, hn, hv⟩ := I.loc
      obtain ⟨u, ru, lu⟩ := hv 0 ar.arg _ h0 ev nfree
      cases (show u = Value.ref x from ru)
      have hk0 : X.env.scope.kind = .function := I.ok.kind
      have hself : mL ar.arg = some (.ref x) := by
        rcases lu with ⟨_, q⟩ | ⟨q, _⟩
        · exact q
        · have q2 : X.env.kindOf ar.arg = some .local := by show X.env.scope.names.lookup _ = _; rw [hsc]; exact hka
          rw [q2] at q
          rcases q with q | q <;> cases q
      have hfu : X.env.func = some f := by rw [henv]
      have hco : X.env.code = .ref F.c := by rw [henv]
      have hce : X.env.cells.lookup ("__class__" : Str) = some cc := by rw [henv]; exact hcl
      have hks' : X.env.kindOf "super" = some .globalImplicit := by show X.env.scope.names.lookup _ = _; rw [hsc]; exact hks
      have hkc' : X.env.kindOf "__class__" = some .free := by show X.env.scope.names.lookup _ = _; rw [hsc]; exact hkc
      have hka' : X.env.kindOf ar.arg = some .local := by show X.env.scope.names.lookup _ = _; rw [hsc]; exact hka
      refine PySem.wpAt_bind (PySem.ks_wpAt_super_base (env := X.env) hks' hkc' hm hfu (KI _ _ hf) rfl har hco (KI _ _ hcode) rfl hvs hfile k.top ?_)
      obtain ⟨mb, b1, b2⟩ := I.mod.blt
      refine PySem.W.ks_loadName_global hk0 hks' (Calls.loadGlobal_builtin (by rw [I.ok.glob]; exact I.mod.glob.keeps I.bk) k.nosup (by rw [I.ok.blt]; exact b1.keeps I.bk) ((b2 _ (by decide)).trans boot_super) ⟨rfl, ?_⟩)
      refine wpAny_loadName_free hk0 hkc' hce ⟨_, KI _ _ hcell, rfl⟩ ?_
      refine wpAny_loadName_local hk0 hka' hn hself ?_
      refine PySem.ks_wpAny_isType_cls hD1 hD2 ⟨rfl, ?_⟩
      refine PySem.ks_wpAny_call_super hD1 hD2 J.at_ J.cls (fun c e => ?_) (PySem.W.looks_mroIn KI k.sub) (fun h' eso kso => ?_)
      · have := J.no
        unfold PySem.W.notCls at this
        rw [e] at this
        exact Bool.noConfusion this
      · have I1 : Inv X pins σ H { s with heap := h' } := I.kept (t' := s.toks) kso
        refine PySem.wpAt_of_wpAny (wpAny_bind (wpAny_standAt (wpAny_bind (wpAny_holding ?_))))
        obtain ⟨of, hof, hofc⟩ : ∃ of, h'.get? f2 = some of ∧ of.cls = .type "function" := by
          have ht' : (X.K.lookup f2).map (·.cls) = some (.type "function") := k.ty
          cases z : X.K.lookup f2 with
          | none => rw [z] at ht'; cases ht'
          | some of => rw [z] at ht'; exact ⟨of, I1.kIn _ _ z, Option.some.inj ht'⟩
        have hm2 := k.up
        unfold PySem.W.ks_superIn at hm2
        rw [hD, Option.bind_some] at hm2
        refine PySem.ks_wpAny_getMethod_super (l₀ := cdD.mro) eso (PySem.W.looks_opaque I1.kIn k.opq) ?_ rfl I1.kIn hm2 hof hofc (PySem.W.ks_ne KI J hD) hm ?_
        · exact fun A Q E s k q => wpAny_bind ((PySem.W.looks_clsIn I1.kIn hD) A _ E s k (wpAny_pure q))
        · have I2 := ClX.met_new (C := x) (g := f2) I1
          have hq : X.base.get? h'.objs.size = none := ClX.base_none I1 (Nat.le_refl _)
          have q : tMs T X.K W ms σ H (fun vs H1 => ∃ ρ1 h1 ds, Grow ρ H ρ1 H1 ∧ Rel T X.K ρ1 h1 H1 ∧ RepVs T X.K ρ1 H1 ds vs ∧ At T X.K (RepV T X.K) W Q σ ρ1 H1 (s2 (.ref n :: ds) h1)) :=
            ⟨ρ, h, δ, R, S, At.bind a fun ds h1 ρ1 H1 vs _ g R1 rv a1 => ⟨ρ1, h1, ds, g, R1, rv, a1⟩⟩
          refine ClX.callwith_cm I2 hq k.fi (thn ((ha W tk).run pos _ _ σ H _ I2 q) fun us s3 ⟨ws, H3, I3, r3, ρ3, h3, ds, g3, R3, rs, a3⟩ => ⟨⟨ClX.pin_at I3, I3.kIn⟩, ?_⟩) (star_ne (not_starred (hp e List.mem_cons_self))) (plain_any (es := es) fun e he => not_starred (hp e (List.mem_cons_of_mem _ he)))
          refine thn (wpAny_call (PySem.W.method_call (ClX.pin_at I3) (hc W tk _ s3 σ H3 (.ref x :: ws) (.ref x :: us) Q ρ3 h3 (.ref n :: ds) I3 (.cons rfl r3) R3 (.cons (.ref (g3.at_ hx)) rs) a3))) fun _ _ y => ClX.unpinE y
    · exact a.elim
  · exact a.elim
end

section
variable {M : Model} {A : Around} {c : Code} {E : Value → Shared → Prop} {s : Shared} {env : Env}
theorem execs_app : ∀ (pre rest : List Stmt), execs (pre ++ rest) env = (do match ← execs pre env with | .next => execs rest env | f => pure f)
  | [], rest => rfl
  | st :: r, rest => by
    rw [List.cons_append, execs_cons, execs_cons, bind_assoc]
    congr 1
    funext f
    cases f with
    | next => exact execs_app r rest
    | _ => rfl
theorem wpAt_app {pre rest : List Stmt} {Q : Flow → Shared → Prop} (h : wpAny M A (execs pre env) (fun f s' => match f with | .next => PySem.wpAt M A c (execs rest env) Q E s' | f => Q f s') E s) : PySem.wpAt M A c (execs (pre ++ rest) env) Q E s := by
  rw [execs_app]
  refine PySem.wpAt_bind (PySem.wpAt_mono (PySem.wpAt_of_wpAny h) (fun f s' h' => ?_) fun _ _ x => x)
  cases f with
  | next => exact h'
  | _ => exact PySem.wpAt_of_wpAny (wpAny_pure h')
end
section
variable {T : Nat → Addr} {K : PySem.W.Frag} {ρ : List Addr} {H : Hp}
theorem startF_rep {n : Nat} {N : List Str} {ds : List D} {vs : List V} (hn : N.length = n) (hl : ds.length < n) (r : RepVs T K ρ H ds vs) : RepS T K ρ H (startD n ds) (startF N vs [none]) := by
  have e : startF N vs [none] = L2.start N vs := by
    unfold startF L2.start
    congr 1
    have : N.length - vs.length = (N.length - vs.length - 1) + 1 := by rw [← r.length]; omega
    rw [this]
    rfl
  rw [e]
  exact start_rep hn r
theorem body_repF {n p : Nat} {N : List Str} {m : MS} {vs : List V} {H : Hp} {Q : VK} {E : XK} (hn : N.length = n) (hl : p < n) (h : spOf T K p (mkDef n p m) vs H Q E) :
    tMS T K (fun c d _ H => E c d H) m { nx := fun _ H' => Q .non H', rt := Q } (startF N vs [none]) H := by
  obtain ⟨ρ, h, ds, R, rs, e, a⟩ := h
  refine ⟨ρ, h, startD n ds, R, startF_rep hn (by omega) rs, ?_⟩
  unfold mkDef at a
  rw [if_pos e] at a
  cases z : m (startD n ds) h with
  | nx δ h1 => rw [z] at a; exact fun ρ' H' σ' g R' S' => a ρ' H' .non g R' .non
  | rt d h1 => rw [z] at a; exact a
  | bk δ h1 => rw [z] at a; exact a.elim
  | ct δ h1 => rw [z] at a; exact a.elim
  | ex x δ h1 => rw [z] at a; exact fun ρ' H' σ' cls dd g R' S' p => a ρ' H' cls dd g R' p
  | no => rw [z] at a; exact a.elim
/-- THE RULE of a def of a class whose last statement is super().m(..) -/
theorem super_ok {P : Program} {w : World} {mg : Str → Option Value} {base : Heap} {name qual : Str} {params : Arguments} {pre : List Stmt} {scope : Scope} {dV kV doc pm ct : Value} {an : Option Addr} {f f2 cd cc : Addr} {N ps : List Str} {k : Nat} {g : CG} (n : Nat) {slf m : Str} {c : Nat} {s2 : Sem} {e : Expr} {es : List Expr} {p0 p1 ap pos pos' : Pos}
    (lk : ∃ oc od osl, K.lookup f = some ⟨oc, od, .func (PySem.W.fnX name qual params (pre ++ [.Expr (.Call (.Attribute (.Call (.Name "super" p0) [] [] p1) m ap) (e :: es) [] pos) pos']) scope [("__class__", cc)] dV kV doc pm an (.ref cd) ct), osl⟩) (hcd : PySem.W.codeIn K (.ref cd) qual = true)
    (ku : SuK P K mg f (T c) f2 (PySem.W.fnX name qual params (pre ++ [.Expr (.Call (.Attribute (.Call (.Name "super" p0) [] [] p1) m ap) (e :: es) [] pos) pos']) scope [("__class__", cc)] dV kV doc pm an (.ref cd) ct) cd cc slf m)
    (S : NScope N ps ["__class__"] scope) (hks : scope.names.lookup ("super" : Str) = some .globalImplicit) (hslf : N[0]? = some slf) (hka : scope.names.lookup slf = some .local) (hm : (m == ("__class__" : Str)) = false)
    (hp : ∀ x ∈ e :: es, starred x = false) (hl : (e :: es).length < 30) (hpos : (ap.endLine == pos.line) = true) (GL : Glk T ⟨P, w, K, mg, base, k⟩ g) (hc : ∀ X, Fits ⟨P, w, K, mg, base, k⟩ X → CallC T X (.ref f2) s2) :
    FnOk P w K mg base (L2.CX P w) (k + 1) f (PySem.W.fnX name qual params (pre ++ [.Expr (.Call (.Attribute (.Call (.Name "super" p0) [] [] p1) m ap) (e :: es) [] pos) pos']) scope [("__class__", cc)] dV kV doc pm an (.ref cd) ct) ps
      (spOf T K ps.length (mkDef N.length ps.length (sSeq (lsS (comp n) ⟨g, N, scope, fun _ => false, true⟩ pre) (Mi.sExpr (mSuper c s2 (lsE (comp n) ⟨g, N, scope, fun _ => false, true⟩ (e :: es))))))) := by
  refine ⟨fun vs H Q E h => spOf_len h, fun A outer s H args us vs Q E hr e0 hbind r hsp => ?_⟩
  have KX : K.In s.heap := e0.mod.kin.keeps fun b o e => (e0.bs b o e).1
  have hlen := spOf_len hsp
  have lim : s.heap.NoLimit := e0.mod.nolimit.keeps fun b o e => (e0.bs b o e).1
  obtain ⟨oc, od, osl, lk⟩ := lk
  have hpl : ps.length + 1 ≤ N.length := by
    have := congrArg List.length S.pre
    rw [List.length_take, List.length_append] at this
    simp at this
    omega
  obtain ⟨cl1, cld, csl, hcell⟩ := ku.cell
  let F : NF := ⟨name, qual, params, [], scope, [("__class__", cc)], cd⟩
  have hcl : F.cl.lookup ("__class__" : Str) = some cc := rfl
  have C : CellsAt F.cl ["__class__"] [none] s.heap H := by
    refine ⟨rfl, fun y c' h => ?_, fun x y c' h1 h2 => ?_, fun i y hi => ?_⟩
    · have : c' = cc := by
        have h' : (match y == ("__class__" : Str) with | true => some cc | false => none) = some c' := h
        split at h'
        · exact (Option.some.inj h').symm
        · cases h'
      subst this
      refine ⟨?_, ⟨_, _, KX _ _ hcell, rfl⟩⟩
      obtain ⟨q1, q2⟩ := e0.bs c' _ (e0.mod.kin _ _ hcell)
      exact q2
    · have key : ∀ z : Str, F.cl.lookup z = some c' → z = ("__class__" : Str) := fun z h => by
        have h' : (match z == ("__class__" : Str) with | true => some cc | false => none) = some c' := h
        split at h'
        · rename_i q; exact beq_iff_eq.mp q
        · cases h'
      rw [key x h1, key y h2]
    · cases i with
      | zero =>
        cases hi
        exact ⟨cc, rfl, fun v z => by cases z⟩
      | succ i => cases hi
  refine PySem.ks_codeAny_call_defAt (fd := PySem.W.fnX name qual params (pre ++ [.Expr (.Call (.Attribute (.Call (.Name "super" p0) [] [] p1) m ap) (e :: es) [] pos) pos']) scope [("__class__", cc)] dV kV doc pm an (.ref cd) ct) hr.depth (KX _ _ lk) rfl lim (PySem.W.codeRec_of KX hcd) rfl hbind S.nocell (fun ⟨z, _⟩ hy => S.par z (List.of_mem_zip hy).1) (fun h₁ hns kp => ?_) S.co S.gen S.kind
  show PySem.wpAt _ _ (.func _ (envF F f s.heap.objs.size)) (execs _ (envF F f s.heap.objs.size)) _ _ _
  have I : Inv (ncx (L2.CX P w) P w K mg base N F f A outer s H E) [] (startF N vs [none]) H { s with heap := h₁, toks := s.toks + (ps.zip us).length } := inv_startN S hr.hd e0 hlen r C hns kp
  have hr' : Room k (A.deeper (envF F f s.heap.objs.size)) := hr.deeper _
  have Cx : Cok T ⟨P, w, K, mg, base, k⟩ ⟨g, N, scope, fun _ => false, true⟩ (ncx (L2.CX P w) P w K mg base N F f A outer s H E) :=
    ⟨⟨rfl, rfl, rfl, rfl, rfl, hr'⟩, GL, rfl, S.kind, rfl, S.nd, rfl, rfl, fun _ => passes_of rfl⟩
  have tk : Takes (ncx (L2.CX P w) P w K mg base N F f A outer s H E) (fun cls d _ H => E cls d H) := takes_of rfl rfl rfl rfl
  have hb := body_repF (T := T) (K := K) (N := N) rfl (by omega) hsp
  -- the first statements
  let X := ncx (L2.CX P w) P w K mg base N F f A outer s H E
  let D0 : Ends := { nx := fun _ H' => Q .non H', rt := Q }
  let M2 : MS := Mi.sExpr (mSuper c s2 (lsE (comp n) ⟨g, N, scope, fun _ => false, true⟩ (e :: es)))
  have hpre : tMS T K (fun c d _ H => E c d H) (lsS (comp n) ⟨g, N, scope, fun _ => false, true⟩ pre) { nx := fun σ' H' => tMS T K (fun c d _ H => E c d H) M2 D0 σ' H', rt := Q } (startF N vs [none]) H := by
    obtain ⟨ρ, h, δ, R, S', a⟩ := hb
    refine ⟨ρ, h, δ, R, S', ?_⟩
    unfold sSeq at a
    cases z : lsS (comp n) ⟨g, N, scope, fun _ => false, true⟩ pre δ h with
    | nx δ1 h1 => rw [z] at a; exact fun ρ' H' σ' g' R' S' => ⟨ρ', h1, δ1, R', S', AtS.grow g' a⟩
    | rt d h1 => rw [z] at a; exact a
    | bk d h1 => rw [z] at a; exact a
    | ct d h1 => rw [z] at a; exact a
    | ex x d h1 => rw [z] at a; exact a
    | no => rw [z] at a; exact a
  have fin : ∀ {σ' : L2.St} {H' : Hp} {v : V} {u : Value} {s' : Shared}, Inv X [] σ' H' s' → L2.RelV v u → Q v H' → CE outer P w H s Q u s' :=
    fun {σ' H' v u s'} J rv q => ⟨v, H', J.os, J.bare, J.base, J.hok, rv, q⟩
  refine wpAt_app (wpAny_mono ((lsS_ok (sound n) Cx _ tk).run [] _ (startF N vs [none]) H _ I hpre) (fun fl s' hs => ?_) fun e s' hs => hs)
  cases fl with
  | ret u =>
    obtain ⟨v, σ', H', J, rv, q⟩ := hs
    exact fin J rv q
  | brk =>
    obtain ⟨_, _, _, q⟩ := hs
    exact False.elim q
  | cont =>
    obtain ⟨_, _, _, q⟩ := hs
    exact False.elim q
  | next =>
    obtain ⟨σ', H', J, ρ, h, δ, R, S', a⟩ := hs
    refine PySem.ks_wpAt_execs_cons (PySem.ks_wpAt_Expr_any (PySem.wpAt_mono (super_call (X := X) (F := F) (f := f) (L := s.heap.objs.size) (T := T) (W := fun c d _ H => E c d H) (Q := fun v H' => Q .non H') rfl ku hcl hks (S.frk _ (by simp)) hka hm hslf (hc X Cx.fit) (lsE_ok (sound n) Cx (by
      unfold anyStar
      rw [List.any_eq_false]
      intro x hx
      rw [hp x hx]
      exact Bool.false_ne_true)) hp hl hpos tk J R S' (At.st S' a fun d h1 ρ1 H1 v _ g1 R1 rv a1 => a1 ρ1 H1 σ' .refl R1 (S'.mono g1))) (fun v s2 hv => ?_) fun _ _ x => x) ?_ rfl)
    · obtain ⟨v, H2, J2, rv, q⟩ := hv
      exact PySem.wpAt_of_wpAny (wpAny_pure (fin (v := V.non) (u := Value.none) J2 rfl q))
    · show (scope.kind == .module && _) = false
      rw [S.kind]
      rfl
end
end Mi

/-! Mi, part T: the head's facts. -/
namespace Mi
open PySem PySem.Spec PyProof.Rows L2 He
/-! ### where things stand -/
def gaA (x : Str) (K : PySem.W.Frag) : Addr := ga K x
def maA (C m : Str) (K : PySem.W.Frag) : Addr := ma K (ga K C) m
/-- a property's getter -/
def paA (C m : Str) (K : PySem.W.Frag) : Addr := match PySem.W.recIn K (ma K (ga K C) m) "property" with
  | some (.ref g :: _) => g
  | _ => 0
/-- a def: where it stands, its words, its defaults, what it closes over -/
structure FD where
  ad : PySem.W.Frag → Addr
  name : Str
  qual : Str
  params : Arguments
  body : List Stmt
  scope : Scope
  dfl : List Dv := []
  cl : List Str := []
abbrev FW : Type := Option (Str × Str × Arguments × FuncBody × Scope × Addr × List Str × Addr)
def fW (K : PySem.W.Frag) (a : Addr) : FW := match K.lookup a with
  | some ⟨_, _, .func fd, _⟩ => some (fd.name, fd.qualname, fd.params, fd.body, fd.scope, fd.globals, fd.closure.map (·.1), fd.builtins)
  | _ => none
def FD.val (d : FD) : FW := some (d.name, d.qual, d.params, .stmts d.body, d.scope, mainGlobals, d.cl, builtinsNs)
def FD.dvs (d : FD) (K : PySem.W.Frag) : List V := d.dfl.map (Dv.v K)
def isRefV : Value → Bool
  | .ref _ => true
  | _ => false
def FD.ok (K : PySem.W.Frag) (d : FD) : Bool := PySem.W.keepIn K (.ref (d.ad K)) && (PySem.W.fnIn K (d.ad K) && (match K.lookup (d.ad K) with
  | some ⟨_, _, .func fd, _⟩ => PySem.W.codeIn K fd.code d.qual && (dflB K fd.defaults (d.dvs K) && isRefV fd.code)
  | _ => false))
theorem FD.at_ {K : PySem.W.Frag} {d : FD} (e : fW K (d.ad K) = d.val) (c : d.ok K = true) : PySem.W.keepIn K (.ref (d.ad K)) = true ∧ PySem.W.fnIn K (d.ad K) = true ∧
    ∃ oc od osl cl dV kV doc pm an cd ct, K.lookup (d.ad K) = some ⟨oc, od, .func (PySem.W.fnX d.name d.qual d.params d.body d.scope cl dV kV doc pm an (.ref cd) ct), osl⟩ ∧ cl.map (·.1) = d.cl ∧ PySem.W.codeIn K (.ref cd) d.qual = true ∧ DflV K dV (d.dvs K) := by
  obtain ⟨kp, c2⟩ := ba c
  obtain ⟨fi, c2⟩ := ba c2
  refine ⟨kp, fi, ?_⟩
  unfold fW at e
  cases q : K.lookup (d.ad K) with
  | none =>
    rw [q] at c2
    cases c2
  | some o =>
    obtain ⟨oc, od, dt, osl⟩ := o
    rw [q] at c2 e
    cases dt with
    | func fd =>
      obtain ⟨n1, n2, n3, n4, n5, n6, n7, n8, n9, n10, n11, n12, n13, n14, n15⟩ := fd
      have e2 : (some (n1, n2, n3, n4, n5, n6, n7.map (·.1), n15) : FW) = some (d.name, d.qual, d.params, .stmts d.body, d.scope, mainGlobals, d.cl, builtinsNs) := e
      simp only [Option.some.injEq, Prod.mk.injEq] at e2
      obtain ⟨h1, h2, h3, h4, h5, h6, h7, h8⟩ := e2
      subst h1 h2 h3 h4 h5 h6 h8
      have c3 : (PySem.W.codeIn K n13 d.qual && (dflB K n8 (d.dvs K) && isRefV n13)) = true := c2
      obtain ⟨k1, k2⟩ := ba c3
      obtain ⟨k3, k4⟩ := ba k2
      cases n13 with
      | ref cd => exact ⟨oc, od, osl, n7, n8, n9, n10, n11, n12, cd, n14, rfl, h7, k1, dflB_ok k3⟩
      | _ => cases k4
    | _ => cases c2
theorem FD.funD {K : PySem.W.Frag} {d : FD} (e : fW K (d.ad K) = d.val) (c : d.ok K = true) (hcl : d.cl = []) : ∃ fd, FunD K d.name d.qual d.params d.body d.scope (d.dvs K) [] (d.ad K) fd := by
  obtain ⟨kp, _, oc, od, osl, cl, dV, kV, doc, pm, an, cd, ct, lk, hc, hcd, hd⟩ := FD.at_ e c
  rw [hcl] at hc
  cases cl with
  | nil => exact ⟨_, ⟨oc, od, dV, kV, doc, pm, an, .ref cd, ct, osl, rfl, lk, hcd, hd, .inl rfl⟩, kp⟩
  | cons _ _ => cases hc

/-! ### the facts -/
/-- the classes' numbers: names in a row -/
def Tk (cn : List Str) (K : PySem.W.Frag) : Nat → Addr := fun c => ga K (cn.getD c Str.empty)
def eqOO (a b : Option (Option Value)) : Bool := decide (a = b)
def clsB (K : PySem.W.Frag) (C : Addr) : Bool := PySem.W.plainGet K C Str.empty && (PySem.W.hasDictIn K C && (PySem.W.plainOver K C && (eqOO (PySem.W.findIn K (.ref C) "__setattr__") (some (some (.builtin "object.__setattr__"))) &&
  (eqOO (PySem.W.findIn K (.ref C) "__class__") (some (some (.builtin "object.__class__"))) && (decide (PySem.W.mroIn K C (.type "object") = some true) && PySem.W.selfFirst K C)))))
def consB (K : PySem.W.Frag) : Bool := eqOO (PySem.W.specialIn K (.builtin "object.__class__") "__get__") (some (some (.builtin "getset_descriptor.__get__"))) && decide (PySem.W.takesIn K (.builtin "object.__class__") = some true)
theorem clsB_ok {K : PySem.W.Frag} {C : Addr} (h0 : consB K = true) (h : clsB K C = true) : ClsK K C := by
  obtain ⟨a1, a2⟩ := ba h0
  obtain ⟨c1, h⟩ := ba h
  obtain ⟨c2, h⟩ := ba h
  obtain ⟨c3, h⟩ := ba h
  obtain ⟨c4, h⟩ := ba h
  obtain ⟨c5, h⟩ := ba h
  obtain ⟨c6, c7⟩ := ba h
  exact ⟨⟨c1, c2, c3, of_decide_eq_true c4⟩, of_decide_eq_true c5, of_decide_eq_true a1, of_decide_eq_true a2, of_decide_eq_true c6, c7⟩
def belowB (sub : List (Nat × Nat)) (c : Nat) : Tg → Bool
  | .c m => sub.contains (m, c)
  | _ => false
/-- the classes of instances have this to each other -/
def knB (T : Nat → Addr) (K : PySem.W.Frag) (sub : List (Nat × Nat)) (ids : List Nat) : Bool := (ids.all fun c => clsB K (T c)) && ((ids.all fun c => (tagB ++ ids.map Tg.c).all fun t => belowB sub c t || PySem.W.notFirst K (T c) (t.v T)) && ((ids.all fun c => eqOO (PySem.W.findIn K (.ref (T c)) "__ne__") (some (some (.builtin "object.__ne__")))) &&
  (ids.all fun c => [Operator.Add, .Sub, .Mult, .RShift].all fun op => eqOO (PySem.W.findIn K (.ref (T c)) (PySem.dunderR op.info.2)) (some none))))
theorem knB_ok {T : Nat → Addr} {K : PySem.W.Frag} {sub : List (Nat × Nat)} {ids : List Nat} (h0 : consB K = true) (h : knB T K sub ids = true) {cs : List CI} (hids : cs.map (·.id) = ids) (hb : (cs.all fun ci => sub.all fun p => !(p.2 == ci.id) || ci.below.contains p.1) = true) : Kn T K cs := by
  subst hids
  obtain ⟨a1, h⟩ := ba h
  obtain ⟨a2, h⟩ := ba h
  obtain ⟨a3, a4⟩ := ba h
  simp only [List.all_eq_true] at a1 a2 a3 a4
  have hm : ∀ ci ∈ cs, ci.id ∈ cs.map (·.id) := fun ci h => List.mem_map.mpr ⟨ci, h, rfl⟩
  refine ⟨fun ci hci t ht hn => by
    have q := a2 _ (hm ci hci) t (by
      unfold tagsOf at ht
      rw [List.map_map]
      exact ht)
    rcases Bool.or_eq_true_iff.mp q with q | q
    · exfalso
      cases t with
      | b _ => cases q
      | c m =>
        have q : sub.contains (m, ci.id) = true := q
        have z := List.all_eq_true.mp (List.all_eq_true.mp hb ci hci) (m, ci.id) (by simpa using q)
        have hn : (!ci.below.contains m) = true := hn
        simp at z hn
        exact hn z
    · exact q, fun ci hci _ _ => of_decide_eq_true (a3 _ (hm ci hci)), fun ci hci op hop => of_decide_eq_true (a4 _ (hm ci hci) op hop), fun ci hci => clsB_ok h0 (a1 _ (hm ci hci))⟩
def isaB (T : Nat → Addr) (K : PySem.W.Frag) (sub : List (Nat × Nat)) (tgs : List Tg) : Bool := tgs.all fun t => tgs.all fun c => decide (PySem.W.kitOne K (t.v T) (c.v T) = some (isSubT sub t c))
theorem isaB_ok {T : Nat → Addr} {K : PySem.W.Frag} {sub : List (Nat × Nat)} {ids : List Nat} (h0 : consB K = true) (hc : (ids.all fun c => clsB K (T c)) = true) (h : isaB T K sub (tagB ++ ids.map Tg.c) = true) : IsOk T K sub (tagB ++ ids.map Tg.c) := by
  refine ⟨fun t ht c hc => ?_, fun t ht c => ?_⟩
  · unfold isaB at h
    simp only [List.all_eq_true] at h
    exact of_decide_eq_true (h t ht c hc)
  · rcases List.mem_append.mp ht with q | q
    · exact .inr fun e => by subst e; simp [tagB] at q
    · obtain ⟨c', hc', e⟩ := List.mem_map.mp q
      by_cases z : c' = c
      · subst z
        exact .inl (clsB_ok h0 (List.all_eq_true.mp hc c' hc'))
      · exact .inr fun e' => by rw [← e] at e'; exact z (by injection e')
def exB (K : PySem.W.Frag) (C : Addr) : Bool := PySem.W.excIn K C veBase "ValueError.__new__" && (PySem.W.keepIn K (.ref C) && (decide (PySem.W.subIn K (.ref C) (.type "BaseException") = some true) && decide (PySem.W.typeIn K (.ref C) = some (.type "type"))))
theorem exB_ok {K : PySem.W.Frag} {C : Addr} (c : exB K C = true) : ExK K C := by
  obtain ⟨c1, c⟩ := ba c
  obtain ⟨c2, c⟩ := ba c
  obtain ⟨c3, c4⟩ := ba c
  exact ⟨c1, c2, of_decide_eq_true c3, of_decide_eq_true c4⟩
def gloB (K : PySem.W.Frag) (x : Str) : Bool := eqOO (PySem.W.nsIn K mainGlobals x) (some (some (.ref (ga K x))))
def freeB (K : PySem.W.Frag) (x : Str) : Bool := eqOO (PySem.W.nsIn K mainGlobals x) (some none)
def noB (K : PySem.W.Frag) (C : Addr) (f : Str) : Bool := eqOO (PySem.W.findIn K (.ref C) f) (some none)
theorem noB_ok {K : PySem.W.Frag} {C : Addr} {f : Str} (c : noB K C f = true) : NoAttr K C f := eqO_ok c
def meB (K : PySem.W.Frag) (C : Addr) (m : Str) : Bool := eqOO (PySem.W.findIn K (.ref C) m) (some (some (.ref (ma K C m)))) && (PySem.W.isFn K (.ref (ma K C m)) && PySem.W.keepIn K (.ref (ma K C m)))
theorem meB_ok {K : PySem.W.Frag} {C : Addr} {m : Str} (c : meB K C m = true) : Meth K C m (ma K C m) := by
  obtain ⟨c1, c⟩ := ba c
  obtain ⟨c2, c3⟩ := ba c
  exact ⟨of_decide_eq_true c1, c2, c3⟩
def mkB (K : PySem.W.Frag) (C : Addr) : Bool := PySem.W.makesIn K C && (eqOO (PySem.W.findIn K (.ref C) "__init__") (some (some (.ref (ma K C "__init__")))) && (PySem.W.isFn K (.ref (ma K C "__init__")) && PySem.W.keepIn K (.ref C)))
theorem mkB_ok {K : PySem.W.Frag} {C : Addr} (c : mkB K C = true) : Mk K C (ma K C "__init__") := by
  obtain ⟨c1, c⟩ := ba c
  obtain ⟨c2, c⟩ := ba c
  obtain ⟨c3, c4⟩ := ba c
  exact ⟨c1, of_decide_eq_true c2, c3, c4⟩
/-- a constant text of a class -/
def coB (K : PySem.W.Frag) (C : Addr) (f z : Str) : Bool := match PySem.W.findIn K (.ref C) f with
  | some (some (.str y t)) => decide (y = z) && (eqOO (PySem.W.specialIn K (.str y t) "__get__") (some none) && !PySem.W.copiedNames.contains f)
  | _ => false
theorem coB_ok {K : PySem.W.Frag} {C : Addr} {f z : Str} (c : coB K C f z = true) : ∃ u, Con K C f (.str z) u := by
  unfold coB at c
  split at c
  · rename_i y t e
    obtain ⟨c1, c⟩ := ba c
    obtain ⟨c2, c3⟩ := ba c
    have e1 : y = z := of_decide_eq_true c1
    subst e1
    exact ⟨_, e, ⟨t, rfl⟩, of_decide_eq_true c2, by simpa using c3⟩
  · cases c
def prB (K : PySem.W.Frag) (C : Addr) (f : Str) (g : Addr) : Bool := eqOO (PySem.W.findIn K (.ref C) f) (some (some (.ref (ma K C f)))) && (eqOO (PySem.W.specialIn K (.ref (ma K C f)) "__get__") (some (some (.builtin "property.__get__"))) && (decide (PySem.W.takesIn K (.ref (ma K C f)) = some true) &&
  (match PySem.W.recIn K (ma K C f) "property" with
  | some (.ref g' :: _) => decide (g' = g)
  | _ => false)))
theorem prB_ok {K : PySem.W.Frag} {C g : Addr} {f : Str} (c : prB K C f g = true) : PropOf K C f (ma K C f) g := by
  obtain ⟨c1, c⟩ := ba c
  obtain ⟨c2, c⟩ := ba c
  obtain ⟨c3, c4⟩ := ba c
  refine ⟨of_decide_eq_true c1, of_decide_eq_true c2, of_decide_eq_true c3, ?_⟩
  split at c4
  · rename_i g' rest e
    have := of_decide_eq_true c4
    subst this
    exact ⟨rest, e⟩
  · cases c4
/-! ### the Hook -/
abbrev AlM : Type := List FW × Bool
def asM (g : Addr → Option Obj) : Nat → List Addr
  | 0 => [mainGlobals, cStatics]
  | n + 1 => growD g (asM g n)
def obsM (fn : List FD) (extra : PySem.W.Frag → Bool) (K : PySem.W.Frag) : AlM := (fn.map fun d => fW K (d.ad K), (fn.all fun d => d.ok K) && extra K)
def valM (fn : List FD) : AlM := (fn.map FD.val, true)
def SaysM (fn : List FD) (extra : PySem.W.Frag → Bool) (K : PySem.W.Frag) : Prop := obsM fn extra K = valM fn
def obsMG (n : Nat) (fn : List FD) (extra : PySem.W.Frag → Bool) (g : Addr → Option Obj) : AlM := obsM fn extra (frG g (asM g n))
def hookM (n : Nat) (fn : List FD) (extra : PySem.W.Frag → Bool) : PySem.W.Hook where
  α := AlM
  obs := fun s => obsMG n fn extra s.heap.get?
  val := fun _ => valM fn
  says := fun _ h => ∃ K : PySem.W.Frag, K.In h ∧ SaysM fn extra K
  of := fun _ _ e => ⟨_, frG_in, e⟩
  keeps := fun _ _ _ ⟨K, hK, c⟩ k => ⟨K, PySem.W.Frag.In.keeps hK k, c⟩
theorem obsMG_eq {n : Nat} {fn : List FD} {extra : PySem.W.Frag → Bool} {g : Addr → Option Obj} {s : Shared} (h : ∀ a, g a = s.heap.get? a) : obsMG n fn extra g = (hookM n fn extra).obs s := by
  have e : g = s.heap.get? := funext h
  rw [e] <;> rfl
section
variable {fn : List FD} {extra : PySem.W.Frag → Bool} {K : PySem.W.Frag}
theorem SaysM.ex (c : SaysM fn extra K) : extra K = true := (ba (show ((fn.all fun d => d.ok K) && extra K) = true from congrArg (fun z : AlM => z.2) c)).2
theorem SaysM.fd (c : SaysM fn extra K) (i : Nat) {d : FD} (h : fn[i]? = some d) : fW K (d.ad K) = d.val ∧ d.ok K = true := by
  have c1 := (ba (show ((fn.all fun d => d.ok K) && extra K) = true from congrArg (fun z : AlM => z.2) c)).1
  have e : fn.map (fun d => fW K (d.ad K)) = fn.map FD.val := congrArg (fun z : AlM => z.1) c
  have e2 : (fn.map fun d => fW K (d.ad K))[i]? = (fn.map FD.val)[i]? := by rw [e]
  rw [List.getElem?_map, List.getElem?_map, h] at e2
  exact ⟨Option.some.inj e2, List.all_eq_true.mp c1 d (List.mem_of_getElem? h)⟩
end
end Mi

/-! Mi, part U: a def's promise, packed; classes from their facts. -/
namespace Mi
open PySem PySem.Spec PyProof.Rows L2 He NdefX
abbrev gat (G : Gx) (j : Nat) : Gx := ⟨G.P, G.w, G.K, G.mg, G.base, j⟩
/-- a def that keeps a promise at the level k -/
structure DOk (T : Nat → Addr) (G : Gx) (k : Nat) (ad : Addr) (s : Sem) (p : Nat) (dfl : List D) : Prop where
  kp : PySem.W.keepIn G.K (.ref ad) = true
  fi : PySem.W.fnIn G.K ad = true
  ex : ∃ (fd : FuncData) (ps : List Str), FnOk G.P G.w G.K G.mg G.base (L2.CX G.P G.w) k ad fd ps (spOf T G.K p s) ∧
    ∀ r, r ≤ dfl.length → ∃ (ds : List Value) (dvs : List V), Binds G.K fd ps ds ∧ Vals dvs ds ∧ ∀ ρ H, RepVs T G.K ρ H (dfl.drop (dfl.length - r)) dvs
section
variable {T : Nat → Addr} {G : Gx} {k j : Nat} {ad : Addr} {s : Sem} {p : Nat} {dfl : List D} {X : Cx}
theorem Fits.in1 (F : Fits (gat G (j + 1)) X) : Fits (gat G j) X.in1 := ⟨F.prog, F.w, F.K, F.mg, F.base, F.room.in1⟩
theorem Fits.down (F : Fits (gat G j) X) (h : k ≤ j) : Fits (gat G k) X := ⟨F.prog, F.w, F.K, F.mg, F.base, F.room.mono h⟩
theorem DOk.callC (d : DOk T G k ad s p dfl) (F : Fits (gat G j) X) (hk : k + 1 ≤ j) : CallC T X (.ref ad) (semCall s p dfl) := by
  refine Fn1.call ⟨by rw [F.K]; exact d.kp, ?_⟩
  obtain ⟨fd, ps, h1, h2⟩ := d.ex
  refine ⟨fd, ps, k, ?_, F.room.mono hk, ?_⟩
  · rw [F.prog, F.w, F.K, F.mg, F.base]; exact h1
  · rw [F.K]; exact h2
theorem semCall_nil {n p : Nat} {b : MS} : semCall (mkDef n p b) p [] = mkDef n p b := by
  funext ds h
  unfold semCall mkDef
  by_cases e : ds.length = p
  · rw [if_pos ⟨by omega, by simp; omega⟩]
    simp
  · rw [if_neg e]
    split
    · rename_i h1
      exfalso
      obtain ⟨h1, h2⟩ := h1
      simp at h2
      omega
    · rfl
theorem DOk.glob (d : DOk T G k ad s p dfl) {x : Str} (hm : G.mg x = some (.ref ad)) (hk : k + 1 ≤ j) : ∀ X, Fits (gat G j) X → GEok T X x (.dfn (semCall s p dfl)) := fun X F =>
  ⟨ad, by rw [F.mg]; exact hm, by rw [F.K]; exact d.kp, (d.callC F hk).d⟩
/-- a class, made -/
theorem DOk.made {c : Nat} {x : Str} {fI : Addr} (d : DOk T G k fI s p dfl) (M : Mk G.K (T c) fI) (hm : G.mg x = some (.ref (T c))) (hk : k + 1 ≤ j) : ∀ X, Fits (gat G j) X → GEok T X x (.cls c (mkIns c (semCall s p dfl))) := fun X F => by
  refine ⟨by rw [F.mg]; exact hm, by rw [F.K]; exact M.kp, Mk1.call ⟨by rw [F.K]; exact M.kp, ?_⟩⟩
  obtain ⟨fd, ps, h1, h2⟩ := d.ex
  refine ⟨fI, fd, ps, k, by rw [F.K]; exact M, ?_, F.room.mono hk, ?_⟩
  · rw [F.prog, F.w, F.K, F.mg, F.base]; exact h1
  · rw [F.K]; exact h2
/-- a class that is only named -/
theorem cls_named {c : Nat} {x : Str} (hm : G.mg x = some (.ref (T c))) (hk : PySem.W.keepIn G.K (.ref (T c)) = true) : ∀ X, Fits (gat G j) X → GEok T X x (.cls c fun _ _ => .no) := fun X F =>
  ⟨by rw [F.mg]; exact hm, by rw [F.K]; exact hk, fun W tk pins s σ H xs us Q ρ h ds I r R rs a => a.elim⟩
theorem exc_named {c : Nat} {x : Str} (hm : G.mg x = some (.ref (T c))) (he : ExK G.K (T c)) : ∀ X, Fits (gat G j) X → GEok T X x (.exc c) := fun X F => ⟨by rw [F.mg]; exact hm, by rw [F.K]; exact he⟩
/-! ### classes -/
def PropD (T : Nat → Addr) (G : Gx) (j : Nat) (C : Addr) (q : Str × Sem) : Prop := ∃ (pp g : Addr) (k : Nat), PropOf G.K C q.1 pp g ∧ DOk T G k g q.2 1 [] ∧ k + 1 ≤ j
def MethD (T : Nat → Addr) (G : Gx) (j : Nat) (C : Addr) (q : Str × Sem) : Prop := ∃ (g : Addr) (k : Nat) (s0 : Sem) (p : Nat) (dfl : List D), Meth G.K C q.1 g ∧ DOk T G k g s0 p dfl ∧ q.2 = semCall s0 p dfl ∧ k + 2 ≤ j
structure CId (T : Nat → Addr) (G : Gx) (j : Nat) (ci : CI) : Prop where
  ck : ClsK G.K (T ci.id)
  no : ∀ f ∈ ci.fields, NoAttr G.K (T ci.id) f
  con : ∀ q ∈ ci.consts, ∃ z u, q.2 = .str z ∧ Con G.K (T ci.id) q.1 (.str z) u
  prop : ∀ q ∈ ci.props, PropD T G j (T ci.id) q
  meth : ∀ q ∈ ci.meths, MethD T G j (T ci.id) q
theorem lookup_mem {α : Type} {l : List (Str × α)} {x : Str} {a : α} (h : l.lookup x = some a) : (x, a) ∈ l := PySem.mem_of_lookup h
theorem CId.ok {ci : CI} (h : CId T G (j + 1) ci) (F : Fits (gat G (j + 1)) X) : CIok T X ci where
  ck := by rw [F.K]; exact h.ck
  no := by rw [F.K]; exact h.no
  con := fun f d e => by
    obtain ⟨z, u, e1, e2⟩ := h.con _ (lookup_mem e)
    cases e1
    exact ⟨_, u, by rw [F.K]; exact e2, fun ρ H => .str z⟩
  prop := fun f s' e => by
    obtain ⟨pp, g, k, h1, h2, h3⟩ := h.prop _ (lookup_mem e)
    obtain ⟨fd, ps, q1, q2⟩ := h2.ex
    obtain ⟨ds, dvs, b, v, r⟩ := q2 0 (Nat.le_refl _)
    have r0 := r [] (fun _ => none)
    cases r0
    cases v
    refine ⟨pp, g, fd, ps, k, by rw [F.K]; exact h1, ?_, F.room.mono h3, by rw [F.K]; exact b⟩
    rw [F.prog, F.w, F.K, F.mg, F.base]
    exact q1
  meth := fun m s' e => by
    obtain ⟨g, k, s0, p, dfl, h1, h2, h3, h4⟩ := h.meth _ (lookup_mem e)
    refine ⟨g, by rw [F.K]; exact h1, by rw [F.K]; exact h2.fi, ?_, ?_⟩
    · have h3 : s' = semCall s0 p dfl := h3
      rw [h3]; exact h2.callC F (by omega)
    · have h3 : s' = semCall s0 p dfl := h3
      rw [h3]; exact h2.callC (Fits.in1 F) (by omega)
/-! ### defs from the head's facts -/
def dvD : Dv → D
  | .bl b => .bl b
  | .int i => .int i
  | .str x => .str x
  | _ => .non
def simpleDv : Dv → Bool
  | .non | .bl _ | .int _ | .str _ => true
  | _ => false
theorem dv_rep {K : PySem.W.Frag} {ρ : List Addr} {H : Hp} : ∀ {v : Dv}, simpleDv v = true → RepV T K ρ H (dvD v) (v.v K)
  | .non, _ => .non
  | .bl b, _ => .bl b
  | .int i, _ => .int i
  | .str x, _ => .str x
theorem dvs_rep {K : PySem.W.Frag} {ρ : List Addr} {H : Hp} : ∀ {l : List Dv}, l.all simpleDv = true → RepVs T K ρ H (l.map dvD) (l.map (Dv.v K))
  | [], _ => .nil
  | v :: r, h => by
    rw [List.all_cons, Bool.and_eq_true] at h
    exact .cons (dv_rep h.1) (dvs_rep h.2)
/-- how the def binds its arguments: r of its defaults are taken -/
def BindOk (d : FD) (ps : List Str) : Prop := ∀ (K : PySem.W.Frag) (cl : List (Str × Addr)) (dV kV doc pm : Value) (an : Option Addr) (cdv ct : Value), DflV K dV (d.dvs K) → ∀ r, r ≤ d.dfl.length → ∃ ds, Vals ((d.dvs K).drop (d.dfl.length - r)) ds ∧ Binds K (PySem.W.fnX d.name d.qual d.params d.body d.scope cl dV kV doc pm an cdv ct) ps ds
theorem bind_N {d : FD} {ps : List Str} (hd : d.dfl = []) (h : ∀ (cl : List (Str × Addr)) (kV doc pm : Value) (an : Option Addr) (cdv ct : Value) (us : List Value), us.length = ps.length → bindArgs (PySem.W.fnX d.name d.qual d.params d.body d.scope cl .none kV doc pm an cdv ct) ⟨us, []⟩ = pure (ps.zip us)) : BindOk d ps := by
  intro K cl dV kV doc pm an cdv ct hD r hr
  have e : d.dvs K = [] := by unfold FD.dvs; rw [hd]; rfl
  rw [e] at hD ⊢
  rcases hD with ⟨_, rfl⟩ | ⟨e, _⟩
  · refine ⟨[], by rw [List.drop_nil]; exact .nil, .all (h cl kV doc pm an cdv ct)⟩
  · exact absurd rfl e
theorem bind_D {d : FD} {ps : List Str} (hd : d.dfl ≠ []) (h : ∀ (r : Nat), r ≤ d.dfl.length → ∃ n, n + r = ps.length ∧ ∀ (cl : List (Str × Addr)) (T : Addr) (kV doc pm : Value) (an : Option Addr) (cdv ct : Value) (us its : List Value), us.length = n → its.length = d.dfl.length →
      ∃ k, bindArgs (PySem.W.fnX d.name d.qual d.params d.body d.scope cl (.ref T) kV doc pm an cdv ct) ⟨us, []⟩ = seqItems? (.ref T) >>= k ∧ k (some its.toArray) = pure (ps.zip (us ++ its.drop (d.dfl.length - r)))) : BindOk d ps := by
  intro K cl dV kV doc pm an cdv ct hD r hr
  obtain ⟨n, hn, h⟩ := h r hr
  have el : (d.dvs K).length = d.dfl.length := by unfold FD.dvs; rw [List.length_map]
  rcases hD with ⟨e, _⟩ | ⟨_, T, o, its, m, rfl, lT, oT, rT⟩
  · exfalso
    rw [e] at el
    exact hd (List.length_eq_zero_iff.mp el.symm)
  · refine ⟨its.drop (d.dfl.length - r), rT.drop _, fun s us X hlen => ?_⟩
    have l1 : its.length = d.dfl.length := by rw [← rT.length, el]
    have l2 : us.length = n := by
      rw [List.length_append, List.length_drop, l1] at hlen
      omega
    obtain ⟨k, e1, e2⟩ := h cl T kV doc pm an cdv ct us its l2 l1
    refine BindsTo.of_looks fun M => ?_
    rw [e1]
    exact looks_items X lT oT (.of_pure e2)
/-- a plain def -/
theorem FD.dok {d : FD} {N ps : List Str} {g : CG} (n : Nat) (e : fW G.K (d.ad G.K) = d.val) (c : d.ok G.K = true) (hcl : d.cl = []) (hs : d.dfl.all simpleDv = true) (S : FnScope N ps d.scope) (B : BindOk d ps) (GL : Glk T (gat G k) g) :
    DOk T G (k + 1) (d.ad G.K) (mkDef N.length ps.length (lsS (comp n) ⟨g, N, d.scope, fun _ => true, true⟩ d.body)) ps.length (d.dfl.map dvD) := by
  obtain ⟨kp, fi, oc, od, osl, cl, dV, kV, doc, pm, an, cd, ct, lk, hc, hcd, hd⟩ := FD.at_ e c
  rw [hcl] at hc
  cases cl with
  | cons _ _ => cases hc
  | nil =>
    have F : FunD G.K d.name d.qual d.params d.body d.scope (d.dvs G.K) [] (d.ad G.K) (PySem.W.fnX d.name d.qual d.params d.body d.scope [] dV kV doc pm an (.ref cd) ct) := ⟨⟨oc, od, dV, kV, doc, pm, an, .ref cd, ct, osl, rfl, lk, hcd, hd, .inl rfl⟩, kp⟩
    refine ⟨kp, fi, _, ps, def_ok n F S GL, fun r hr => ?_⟩
    rw [List.length_map] at hr
    obtain ⟨ds, v, b⟩ := B G.K [] dV kV doc pm an (.ref cd) ct hd r hr
    refine ⟨ds, _, b, v, fun ρ H => ?_⟩
    rw [List.length_map]
    exact (dvs_rep hs).drop _

/-- what super().m in the def d of the class at C needs -/
def suB (file : Str) (K : PySem.W.Frag) (d : FD) (C f2 : Addr) (slf m : Str) : Bool := (match K.lookup (d.ad K) with
  | some ⟨_, _, .func fd, _⟩ => (match (fd.params.posonlyargs ++ fd.params.args).head? with
      | some ar => decide (ar.arg = slf)
      | none => false) && ((match fd.code with
      | .ref cd => (match K.lookup cd with
        | some ⟨_, _, .fields vs, _⟩ => (match (vs[2]? : Option Value) with
          | some (Value.str f _) => file == f
          | _ => false)
        | _ => false)
      | _ => false) && (match fd.closure with
      | [(n, cc)] => decide (n = ("__class__" : Str)) && (match K.lookup cc with
        | some ⟨_, _, .cell (some (.ref D)), _⟩ => decide (D = C)
        | _ => false)
      | _ => false))
  | _ => false) && ((PySem.W.clsIn K C).isSome && (decide (PySem.W.mroIn K C (.ref C) = some true) && (eqOO (PySem.W.nsIn K cStatics "thirdparty.any") (some none) && (eqOO (PySem.W.ks_superIn K C C m) (some (some (.ref f2))) && (PySem.W.isFn K (.ref f2) && PySem.W.fnIn K f2)))))
theorem suB_ok {P : Program} {K : PySem.W.Frag} {mg : Str → Option Value} {d : FD} {C f2 : Addr} {slf m : Str} {cl : List (Str × Addr)} {dV kV doc pm ct : Value} {an : Option Addr} {cd : Addr} {oc : Value} {od : Option Addr} {osl : Array (Option Value)} (h : suB P.main.file K d C f2 slf m = true)
    (lk : K.lookup (d.ad K) = some ⟨oc, od, .func (PySem.W.fnX d.name d.qual d.params d.body d.scope cl dV kV doc pm an (.ref cd) ct), osl⟩) (hs : mg "super" = none) (ht : (P.main.scope.names.lookup ("super" : Str)).isSome = false) :
    ∃ cc, cl = [(("__class__" : Str), cc)] ∧ SuK P K mg (d.ad K) C f2 (PySem.W.fnX d.name d.qual d.params d.body d.scope cl dV kV doc pm an (.ref cd) ct) cd cc slf m := by
  unfold suB at h
  rw [lk] at h
  obtain ⟨h, z1⟩ := ba h
  obtain ⟨g1, z2⟩ := ba z1
  obtain ⟨g2, z3⟩ := ba z2
  obtain ⟨g3, z4⟩ := ba z3
  obtain ⟨g4, z5⟩ := ba z4
  obtain ⟨g5, g6⟩ := ba z5
  clear z1 z2 z3 z4 z5
  dsimp only at h
  obtain ⟨a1, h2⟩ := ba h
  obtain ⟨a2, a3⟩ := ba h2
  clear h h2
  obtain ⟨n, cc, ecl⟩ : ∃ n cc, cl = [(n, cc)] := by
    cases cl with
    | nil => cases a3
    | cons q r =>
      cases r with
      | nil => exact ⟨q.1, q.2, rfl⟩
      | cons _ _ => cases a3
  subst ecl
  obtain ⟨b1, b2⟩ := ba a3
  have e1 : n = ("__class__" : Str) := of_decide_eq_true b1
  subst e1
  split at b2
  · rename_i c1 c2 D c3 ec
    have e2 : D = C := of_decide_eq_true b2
    subst e2
    refine ⟨cc, rfl, ⟨⟨oc, od, osl, lk⟩, ?_, ?_, ⟨c1, c2, c3, ec⟩, Option.isSome_iff_exists.mp g1, of_decide_eq_true g2, hs, of_decide_eq_true g3, of_decide_eq_true g4, beq_iff_eq.mp g5, g6, ht⟩⟩
    · split at a1
      · rename_i ar ea
        exact ⟨ar, ea, of_decide_eq_true a1⟩
      · cases a1
    · split at a2
      · rename_i q1 q2 vs q3 eq
        split at a2
        · rename_i f t ef
          exact ⟨q1, q2, vs, q3, f, t, eq, ef, a2⟩
        · cases a2
      · cases a2
  · cases b2
/-- a def whose last statement is super().m(..) -/
theorem FD.dokS {d : FD} {N ps : List Str} {g : CG} (n : Nat) {pre : List Stmt} {slf m : Str} {c : Nat} {f2 : Addr} {s2 : Sem} {e₀ : Expr} {es : List Expr} {p0 p1 ap pos pos' : Pos} (e : fW G.K (d.ad G.K) = d.val) (co : d.ok G.K = true) (hs : d.dfl.all simpleDv = true) (B : BindOk d ps)
    (hbody : d.body = pre ++ [.Expr (.Call (.Attribute (.Call (.Name "super" p0) [] [] p1) m ap) (e₀ :: es) [] pos) pos']) (hsu : suB G.P.main.file G.K d (T c) f2 slf m = true) (hsup : G.mg "super" = none) (ht : (G.P.main.scope.names.lookup ("super" : Str)).isSome = false)
    (S : NScope N ps ["__class__"] d.scope) (hks : d.scope.names.lookup ("super" : Str) = some .globalImplicit) (hslf : N[0]? = some slf) (hka : d.scope.names.lookup slf = some .local) (hm : (m == ("__class__" : Str)) = false)
    (hp : ∀ x ∈ e₀ :: es, starred x = false) (hl : (e₀ :: es).length < 30) (hpos : (ap.endLine == pos.line) = true) (GL : Glk T (gat G k) g) {p2 : Nat} {dfl2 : List D} {k2 : Nat} (D2 : DOk T G k2 f2 s2 p2 dfl2) (hk2 : k2 + 1 ≤ k) :
    DOk T G (k + 1) (d.ad G.K) (mkDef N.length ps.length (sSeq (lsS (comp n) ⟨g, N, d.scope, fun _ => false, true⟩ pre) (Mi.sExpr (mSuper c (semCall s2 p2 dfl2) (lsE (comp n) ⟨g, N, d.scope, fun _ => false, true⟩ (e₀ :: es)))))) ps.length (d.dfl.map dvD) := by
  obtain ⟨kp, fi, oc, od, osl, cl, dV, kV, doc, pm, an, cd, ct, lk, hc, hcd, hd⟩ := FD.at_ e co
  obtain ⟨cc, rfl, su⟩ := suB_ok hsu lk hsup ht
  have bd : BindOk d ps := B
  obtain ⟨ad, name, qual, params, body, scope, dfl, cl'⟩ := d
  dsimp only at hbody
  subst hbody
  refine ⟨kp, fi, _, ps, super_ok n ⟨oc, od, osl, lk⟩ hcd su S hks hslf hka hm hp hl hpos GL (fun X F => D2.callC F hk2), fun r hr => ?_⟩
  rw [List.length_map] at hr
  obtain ⟨ds, v, b⟩ := bd G.K [("__class__", cc)] dV kV doc pm an (.ref cd) ct hd r hr
  refine ⟨ds, _, b, v, fun ρ H => ?_⟩
  rw [List.length_map]
  exact (dvs_rep hs).drop _
end
end Mi

/-! Mi, part V: globals from the head's facts. -/
namespace Mi
open PySem PySem.Spec PyProof.Rows L2 He
/-- the head -/
structure Hd (fn : List FD) (extra : PySem.W.Frag → Bool) (P : Program) (G : Gx) : Prop where
  P : G.P = P
  says : SaysM fn extra G.K
  ns : ∃ h : Heap, G.K.In h ∧ h.Ns mainGlobals G.mg
section
variable {fn : List FD} {extra : PySem.W.Frag → Bool} {P : Program} {G : Gx} {T : Nat → Addr} {j : Nat}
theorem Hd.glo (h : Hd fn extra P G) {x : Str} (c : gloB G.K x = true) : G.mg x = some (.ref (ga G.K x)) := by
  obtain ⟨hh, X, N⟩ := h.ns
  exact PySem.W.mg_of X N (of_decide_eq_true c)
theorem Hd.fre (h : Hd fn extra P G) {x : Str} (c : freeB G.K x = true) : G.mg x = none := by
  obtain ⟨hh, X, N⟩ := h.ns
  exact PySem.W.mg_none_of X N (of_decide_eq_true c)
theorem Hd.frees (h : Hd fn extra P G) {l : List Str} (c : (l.all fun x => freeB G.K x) = true) : ∀ x, l.contains x = true → G.mg x = none := fun x hx => h.fre (List.all_eq_true.mp c x (by simpa using hx))
theorem Hd.int (h : Hd fn extra P G) {x : Str} {i : Int} (c : (Fa.int x i).ok G.K = true) : ∀ X, Fits (gat G j) X → GEok T X x (.val (.int i)) := fun X F => by
  obtain ⟨hh, X', N⟩ := h.ns
  obtain ⟨t, e⟩ := int_ok X' N c
  exact ⟨.int i, _, by rw [F.mg]; exact e, ⟨t, rfl⟩, fun ρ H => .int i⟩
theorem Hd.str (h : Hd fn extra P G) {x z : Str} (c : (Fa.str x z).ok G.K = true) : ∀ X, Fits (gat G j) X → GEok T X x (.val (.str z)) := fun X F => by
  obtain ⟨hh, X', N⟩ := h.ns
  obtain ⟨t, e⟩ := str_ok X' N c
  exact ⟨.str z, _, by rw [F.mg]; exact e, ⟨t, rfl⟩, fun ρ H => .str z⟩
theorem Hd.tup (h : Hd fn extra P G) {x : Str} {vs : List Dv} (c : gloB G.K x = true) (ct : tupB G.K x vs = true) (hs : vs.all simpleDv = true) : ∀ X, Fits (gat G j) X → GEok T X x (.val (.tup (vs.map dvD))) := fun X F =>
  ⟨.ref (ga G.K x), _, by rw [F.mg]; exact h.glo c, rfl, fun ρ H => by rw [F.K]; exact .tup (tupB_ok ct H) (dvs_rep hs)⟩
theorem DOk.glob0 {n p k : Nat} {b : MS} {ad : Addr} (d : DOk T G k ad (mkDef n p b) p []) {x : Str} (hm : G.mg x = some (.ref ad)) (hk : k + 1 ≤ j) : ∀ X, Fits (gat G j) X → GEok T X x (.dfn (mkDef n p b)) := by
  have q := DOk.glob d hm hk
  rw [semCall_nil] at q
  exact q
theorem DOk.made0 {n p k c : Nat} {b : MS} {fI : Addr} {x : Str} (d : DOk T G k fI (mkDef n p b) p []) (M : Mk G.K (T c) fI) (hm : G.mg x = some (.ref (T c))) (hk : k + 1 ≤ j) : ∀ X, Fits (gat G j) X → GEok T X x (.cls c (mkIns c (mkDef n p b))) := by
  have q := DOk.made d M hm hk
  rw [semCall_nil] at q
  exact q
/-- what a def knows, from its parts -/
theorem glk_of {g : CG} (hg : ∀ q ∈ g.glob, ∀ X, Fits (gat G j) X → GEok T X q.1 q.2) (hf : ∀ x, g.free.contains x = true → G.mg x = none) (hc : ∀ ci ∈ g.cs, CId T G j ci) (kn : Kn T G.K g.cs) (is : IsOk T G.K g.sub g.tgs) (hj : 0 < j) : Glk T (gat G j) g where
  glob := fun x e q => hg (x, e) (lookup_mem q)
  free := hf
  cs := fun X F ci hci => by
    cases j with
    | zero => cases hj
    | succ j => exact (hc ci hci).ok F
  kn := kn
  is := is
theorem CId.mono {k : Nat} {ci : CI} (h : CId T G k ci) (hk : k ≤ j) : CId T G j ci :=
  ⟨h.ck, h.no, h.con, fun q hq => let ⟨pp, g, k', a, b, c⟩ := h.prop q hq; ⟨pp, g, k', a, b, by omega⟩, fun q hq => let ⟨g, k', s0, p, dfl, a, b, c, d⟩ := h.meth q hq; ⟨g, k', s0, p, dfl, a, b, c, by omega⟩⟩
end

theorem all_at {l : List Bool} (h : l.all id = true) (i : Nat) {b : Bool} (e : l[i]? = some b) : b = true := List.all_eq_true.mp h b (List.mem_of_getElem? e)
def meBg (K : PySem.W.Frag) (C : Addr) (m : Str) (g : Addr) : Bool := eqOO (PySem.W.findIn K (.ref C) m) (some (some (.ref g))) && (PySem.W.isFn K (.ref g) && PySem.W.keepIn K (.ref g))
theorem meBg_ok {K : PySem.W.Frag} {C g : Addr} {m : Str} (c : meBg K C m g = true) : Meth K C m g := by
  obtain ⟨c1, c⟩ := ba c
  obtain ⟨c2, c3⟩ := ba c
  exact ⟨of_decide_eq_true c1, c2, c3⟩
section
variable {P : Program} {w : World} {K : PySem.W.Frag} {mg : Str → Option Value} {base : Heap} {k : Nat} {f : Addr} {fd : FuncData} {ps : List Str} {sp : Sp} {T : Nat → Addr}
/-- nothing is let out -/
theorem fnOk_no (F : FnOk P w K mg base (L2.CX P w) k f fd ps sp) : FnOk P w K mg base CX0 k f fd ps (fun vs H Q _ => sp vs H Q fun _ _ _ => False) :=
  ⟨fun vs H Q E h => F.len _ _ _ _ h, fun A outer s H args us vs Q E hr e0 hb r h => codeAny_mono (F.run A outer s H args us vs Q _ hr e0 hb r h) fun r s' hq => by
    cases r with
    | ok fl => cases fl <;> exact hq
    | error e =>
      obtain ⟨a, B, H', cls, d, ea, fl, hok, ub, na, os, ag, he⟩ := hq
      exact he.elim⟩
theorem law_sp {s : Sem} {H : Hp} {a : Addr} {ns : List Int} (hO : Only H) (hS : SqL K H a (ns.map V.int)) (hl : ∃ h', s [.ref 0] [.rol (ns.map D.int)] = .ok (.bl true) h') : spOf T K 1 s [.ref a] H (fun v _ => v = .bl true) (fun _ _ _ => False) := by
  have rv : ∀ ρ (l : List Int), RepVs T K ρ H (l.map D.int) (l.map V.int) := fun ρ l => by
    induction l with
    | nil => exact .nil
    | cons i l ih => exact .cons (.int i) ih
  refine ⟨[a], [.rol (ns.map D.int)], [.ref 0], ⟨fun m n b hm hn => ?_, rfl, fun n o e => ?_⟩, .cons (.ref rfl) .nil, rfl, ?_⟩
  · cases m with
    | zero => exact .inr (.inl ⟨_, rfl⟩)
    | succ m => simp at hm
  · cases n with
    | zero =>
      cases e
      refine ⟨a, rfl, _, ?_, rv _ ns⟩
      rcases hS with q | q
      · rcases q with q | ⟨ob, q⟩
        · rcases hO a with z | ⟨o, xs, z⟩ <;> (rw [z] at q; cases q)
        · exact .inl ⟨ob, q⟩
      · exact .inr q
    | succ n => simp at e
  · obtain ⟨h', e⟩ := hl
    rw [e]
    intro ρ' H' b g R r
    cases r
    rfl
end
section
variable {T : Nat → Addr} {G : Gx} {k : Nat}
/-- the law's def -/
theorem FD.law {d : FD} {N : List Str} {x : Str} {g : CG} (n : Nat) (K : PySem.W.Frag) (e : fW K (d.ad K) = d.val) (c : d.ok K = true) (hcl : d.cl = []) (hd : d.dfl = []) (S : FnScope N [x] d.scope)
    (hb : ∀ (cl : List (Str × Addr)) (kV doc pm : Value) (an : Option Addr) (cdv ct : Value) (us : List Value), us.length = [x].length → bindArgs (PySem.W.fnX d.name d.qual d.params d.body d.scope cl .none kV doc pm an cdv ct) ⟨us, []⟩ = pure ([x].zip us)) :
    ∃ fd : FuncData, (∀ (s : Shared) (v : Value), BindsTo s fd ⟨[v], []⟩ [(x, v)]) ∧ ∀ (P : Program) (w : World) (mg : Str → Option Value) (base : Heap), Glk T ⟨P, w, K, mg, base, k⟩ g →
      FnOk P w K mg base CX0 (k + 1) (d.ad K) fd [x] (fun vs H Q _ => spOf T K 1 (mkDef N.length 1 (lsS (comp n) ⟨g, N, d.scope, fun _ => true, true⟩ d.body)) vs H Q fun _ _ _ => False) := by
  obtain ⟨kp, fi, oc, od, osl, cl, dV, kV, doc, pm, an, cd, ct, lk, hc, hcd, hD⟩ := FD.at_ e c
  rw [hcl] at hc
  cases cl with
  | cons _ _ => cases hc
  | nil =>
    have ed : d.dvs K = [] := by unfold FD.dvs; rw [hd]; rfl
    rw [ed] at hD
    rcases hD with ⟨_, rfl⟩ | ⟨z, _⟩
    · have F : FunD K d.name d.qual d.params d.body d.scope [] [] (d.ad K) (PySem.W.fnX d.name d.qual d.params d.body d.scope [] .none kV doc pm an (.ref cd) ct) := ⟨⟨oc, od, .none, kV, doc, pm, an, .ref cd, ct, osl, rfl, lk, hcd, .inl ⟨rfl, rfl⟩, .inl rfl⟩, kp⟩
      exact ⟨_, fun s v => BindsTo.of_eq (hb [] kV doc pm an (.ref cd) ct [v] rfl), fun P w mg base GL => fnOk_no (def_ok n F S GL)⟩
    · exact absurd rfl z
end
end Mi

namespace Lw
open PySem Mi
abbrev prog : Program := PySem.Challenge.pw_backsame_k03_whole_steps
abbrev Sem := Mi.Sem
abbrev gaA := Mi.gaA
open L2 (defArgs defBody defScope)
open He (ga)
def top (i : Nat) : Stmt := prog.main.body.getD i (.Pass ⟨0, 0, 0, 0⟩)
def clsBody : Stmt → List Stmt
  | .ClassDef _ _ _ b _ _ _ _ _ _ _ => b
  | _ => []
def meth (i j : Nat) : Stmt := (clsBody (top i)).getD j (.Pass ⟨0, 0, 0, 0⟩)
def supArgs (b : List Stmt) : List Expr := match b.getLast? with
  | some (.Expr (.Call _ es _ _) _) => es
  | _ => []
def cn : List Str := ["Ratio", "Step", "Scale", "Shift", "Round", "BackError", "InvalidRatio", "InvalidStep"]
def ids : List Nat := [0, 1, 2, 3, 4]
def subs : List (Nat × Nat) := [(2, 1), (3, 1), (4, 1)]
def tgs : List Tg := tagB ++ ids.map Tg.c
def frees : List Str := ["isinstance", "int", "bool", "str", "tuple", "list", "dict", "abs", "any", "all", "sum", "range", "len", "sorted", "super"]
def file0 : Str := prog.main.file
theorem frees_at {K : PySem.W.Frag} {x : Str} (h : (frees.all fun x => freeB K x) = true) (m : x ∈ frees) : freeB K x = true := List.all_eq_true.mp h x m
def v_MODES : D := .tup [.str "down", .str "up", .str "half", .str "even"]
def v_MOST : D := .int 99
def cs0 : List CI := [⟨0, ["pair"], [], [], [], []⟩,
  ⟨1, ["number", "rule"], [("WORD", .str "step")], [], [], [2, 3, 4]⟩,
  ⟨2, ["number", "rule"], [("WORD", .str "scale")], [], [], []⟩,
  ⟨3, ["number", "rule"], [("WORD", .str "shift")], [], [], []⟩,
  ⟨4, ["number", "rule"], [("WORD", .str "round")], [], [], []⟩]
def d_is_integer : FD := ⟨gaA "is_integer", "is_integer", "is_integer", defArgs (top 5), defBody (top 5), defScope (top 5), [], []⟩
def cg_is_integer : CG := ⟨[], frees, cs0, subs, tgs⟩
def N_is_integer : List Str := ["value"]
def b_is_integer : MS := (sSeq (Mi.sRet (mAnd (mUn (opIs subs tgs [.b "int"]) (mVar 0)) (mNot (mUn (opIs subs tgs [.b "bool"]) (mVar 0))))) sNil)
def s_is_integer : Sem := mkDef 1 1 b_is_integer
abbrev e_is_integer : Sem := s_is_integer
def d_common : FD := ⟨gaA "common", "common", "common", defArgs (top 6), defBody (top 6), defScope (top 6), [], []⟩
def cg_common : CG := ⟨[], frees, cs0, subs, tgs⟩
def N_common : List Str := ["one", "other"]
def b_common : MS := (sSeq (sPar [0, 1] (mCons (mCall bAbs (mCons (mVar 0) mNil)) (mCons (mCall bAbs (mCons (mVar 1) mNil)) mNil))) (sSeq (Mi.sWhile μ0 (tE (mBin (opNe cs0) (mVar 1) (mLit (.int 0)))) (sSeq (sPar [0, 1] (mCons (mVar 1) (mCons (mBin (opMod) (mVar 0) (mVar 1)) mNil))) sNil)) (sSeq (Mi.sRet (mVar 0)) sNil)))
def s_common : Sem := mkDef 2 2 b_common
abbrev e_common : Sem := s_common
def d_lowest : FD := ⟨gaA "lowest", "lowest", "lowest", defArgs (top 7), defBody (top 7), defScope (top 7), [], []⟩
def cg_lowest : CG := ⟨[("common", .dfn e_common)], frees, cs0, subs, tgs⟩
def N_lowest : List Str := ["pair", "divisor"]
def b_lowest : MS := (sSeq (Mi.sAsg (mCall e_common (mCons (mBin opSub' (mVar 0) (mLit (.int 0))) (mCons (mBin opSub' (mVar 0) (mLit (.int 1))) mNil))) (gNm 1)) (sSeq (Mi.sRet (mTup (mCons (mBin (opFdiv) (mBin opSub' (mVar 0) (mLit (.int 0))) (mVar 1)) (mCons (mBin (opFdiv) (mBin opSub' (mVar 0) (mLit (.int 1))) (mVar 1)) mNil)))) sNil))
def s_lowest : Sem := mkDef 2 1 b_lowest
abbrev e_lowest : Sem := s_lowest
def d_added : FD := ⟨gaA "added", "added", "added", defArgs (top 8), defBody (top 8), defScope (top 8), [], []⟩
def cg_added : CG := ⟨[("lowest", .dfn e_lowest)], frees, cs0, subs, tgs⟩
def N_added : List Str := ["one", "other"]
def b_added : MS := (sSeq (Mi.sRet (mCall e_lowest (mCons (mTup (mCons (mBin (opArith cs0 "__add__" opAdd) (mBin (opArith cs0 "__mul__" opMul) (mBin opSub' (mVar 0) (mLit (.int 0))) (mBin opSub' (mVar 1) (mLit (.int 1)))) (mBin (opArith cs0 "__mul__" opMul) (mBin opSub' (mVar 1) (mLit (.int 0))) (mBin opSub' (mVar 0) (mLit (.int 1))))) (mCons (mBin (opArith cs0 "__mul__" opMul) (mBin opSub' (mVar 0) (mLit (.int 1))) (mBin opSub' (mVar 1) (mLit (.int 1)))) mNil))) mNil))) sNil)
def s_added : Sem := mkDef 2 2 b_added
abbrev e_added : Sem := s_added
def d_multiplied : FD := ⟨gaA "multiplied", "multiplied", "multiplied", defArgs (top 9), defBody (top 9), defScope (top 9), [], []⟩
def cg_multiplied : CG := ⟨[("lowest", .dfn e_lowest)], frees, cs0, subs, tgs⟩
def N_multiplied : List Str := ["one", "other"]
def b_multiplied : MS := (sSeq (Mi.sRet (mCall e_lowest (mCons (mTup (mCons (mBin (opArith cs0 "__mul__" opMul) (mBin opSub' (mVar 0) (mLit (.int 0))) (mBin opSub' (mVar 1) (mLit (.int 0)))) (mCons (mBin (opArith cs0 "__mul__" opMul) (mBin opSub' (mVar 0) (mLit (.int 1))) (mBin opSub' (mVar 1) (mLit (.int 1)))) mNil))) mNil))) sNil)
def s_multiplied : Sem := mkDef 2 2 b_multiplied
abbrev e_multiplied : Sem := s_multiplied
def d_Ratio_init : FD := ⟨maA "Ratio" "__init__", "__init__", "Ratio.__init__", defArgs (meth 10 0), defBody (meth 10 0), defScope (meth 10 0), [.int 1], []⟩
def cg_Ratio_init : CG := ⟨[("lowest", .dfn e_lowest), ("is_integer", .dfn e_is_integer), ("InvalidRatio", .exc 6)], frees, cs0, subs, tgs⟩
def N_Ratio_init : List Str := ["self", "numerator", "denominator"]
def b_Ratio_init : MS := (sSeq (Mi.sIf (tOr (tNot (tE (mCall e_is_integer (mCons (mVar 1) mNil)))) (tOr (tNot (tE (mCall e_is_integer (mCons (mVar 2) mNil)))) (tE (mBin (cmp .Lt) (mVar 2) (mLit (.int 1)))))) (sSeq (sRaise 6 (mCons (mLit (.str "not a numerator and a positive denominator")) mNil)) sNil) sNil) (sSeq (Mi.sFld cs0 (mVar 0) "pair" (mCall e_lowest (mCons (mTup (mCons (mVar 1) (mCons (mVar 2) mNil))) mNil))) sNil))
def s_Ratio_init : Sem := mkDef 3 3 b_Ratio_init
def e_Ratio_init : Sem := semCall s_Ratio_init 3 [.int 1]
def e_Ratio : Sem := mkIns 0 e_Ratio_init
def d_pair_of : FD := ⟨gaA "pair_of", "pair_of", "pair_of", defArgs (top 11), defBody (top 11), defScope (top 11), [], []⟩
def cg_pair_of : CG := ⟨[("Ratio", .cls 0 e_Ratio), ("InvalidRatio", .exc 6)], frees, cs0, subs, tgs⟩
def N_pair_of : List Str := ["value"]
def b_pair_of : MS := (sSeq (Mi.sIf (tNot (tE (mUn (opIs subs tgs [.c 0]) (mVar 0)))) (sSeq (sRaise 6 (mCons (mLit (.str "not a Ratio")) mNil)) sNil) sNil) (sSeq (Mi.sRet (mAttr cs0 "pair" (mVar 0))) sNil))
def s_pair_of : Sem := mkDef 1 1 b_pair_of
abbrev e_pair_of : Sem := s_pair_of
def d_ratio_of : FD := ⟨gaA "ratio_of", "ratio_of", "ratio_of", defArgs (top 12), defBody (top 12), defScope (top 12), [], []⟩
def cg_ratio_of : CG := ⟨[("Ratio", .cls 0 e_Ratio)], frees, cs0, subs, tgs⟩
def N_ratio_of : List Str := ["pair"]
def b_ratio_of : MS := (sSeq (Mi.sRet (mCall e_Ratio (mCons (mBin opSub' (mVar 0) (mLit (.int 0))) (mCons (mBin opSub' (mVar 0) (mLit (.int 1))) mNil)))) sNil)
def s_ratio_of : Sem := mkDef 1 1 b_ratio_of
abbrev e_ratio_of : Sem := s_ratio_of
def d_Ratio_top : FD := ⟨paA "Ratio" "top", "top", "Ratio.top", defArgs (meth 10 1), defBody (meth 10 1), defScope (meth 10 1), [], []⟩
def cg_Ratio_top : CG := ⟨[], frees, cs0, subs, tgs⟩
def N_Ratio_top : List Str := ["self"]
def b_Ratio_top : MS := (sSeq (Mi.sRet (mBin opSub' (mAttr cs0 "pair" (mVar 0)) (mLit (.int 0)))) sNil)
def s_Ratio_top : Sem := mkDef 1 1 b_Ratio_top
abbrev e_Ratio_top : Sem := s_Ratio_top
def d_Ratio_bottom : FD := ⟨paA "Ratio" "bottom", "bottom", "Ratio.bottom", defArgs (meth 10 2), defBody (meth 10 2), defScope (meth 10 2), [], []⟩
def cg_Ratio_bottom : CG := ⟨[], frees, cs0, subs, tgs⟩
def N_Ratio_bottom : List Str := ["self"]
def b_Ratio_bottom : MS := (sSeq (Mi.sRet (mBin opSub' (mAttr cs0 "pair" (mVar 0)) (mLit (.int 1)))) sNil)
def s_Ratio_bottom : Sem := mkDef 1 1 b_Ratio_bottom
abbrev e_Ratio_bottom : Sem := s_Ratio_bottom
def d_Ratio_eq : FD := ⟨maA "Ratio" "__eq__", "__eq__", "Ratio.__eq__", defArgs (meth 10 3), defBody (meth 10 3), defScope (meth 10 3), [], []⟩
def cg_Ratio_eq : CG := ⟨[("Ratio", .cls 0 e_Ratio)], frees, cs0, subs, tgs⟩
def N_Ratio_eq : List Str := ["self", "other"]
def b_Ratio_eq : MS := (sSeq (Mi.sRet (mAnd (mUn (opIs subs tgs [.c 0]) (mVar 1)) (mBin (opOwn cs0 "__eq__" cmEq) (mAttr cs0 "pair" (mVar 0)) (mAttr cs0 "pair" (mVar 1))))) sNil)
def s_Ratio_eq : Sem := mkDef 2 2 b_Ratio_eq
abbrev e_Ratio_eq : Sem := s_Ratio_eq
def d_Ratio_add : FD := ⟨maA "Ratio" "__add__", "__add__", "Ratio.__add__", defArgs (meth 10 4), defBody (meth 10 4), defScope (meth 10 4), [], []⟩
def cg_Ratio_add : CG := ⟨[("ratio_of", .dfn e_ratio_of), ("added", .dfn e_added), ("pair_of", .dfn e_pair_of)], frees, cs0, subs, tgs⟩
def N_Ratio_add : List Str := ["self", "other"]
def b_Ratio_add : MS := (sSeq (Mi.sRet (mCall e_ratio_of (mCons (mCall e_added (mCons (mAttr cs0 "pair" (mVar 0)) (mCons (mCall e_pair_of (mCons (mVar 1) mNil)) mNil))) mNil))) sNil)
def s_Ratio_add : Sem := mkDef 2 2 b_Ratio_add
abbrev e_Ratio_add : Sem := s_Ratio_add
def d_Ratio_sub : FD := ⟨maA "Ratio" "__sub__", "__sub__", "Ratio.__sub__", defArgs (meth 10 5), defBody (meth 10 5), defScope (meth 10 5), [], []⟩
def cg_Ratio_sub : CG := ⟨[("ratio_of", .dfn e_ratio_of), ("added", .dfn e_added), ("pair_of", .dfn e_pair_of)], frees, cs0, subs, tgs⟩
def N_Ratio_sub : List Str := ["self", "other", "there"]
def b_Ratio_sub : MS := (sSeq (Mi.sAsg (mCall e_pair_of (mCons (mVar 1) mNil)) (gNm 2)) (sSeq (Mi.sRet (mCall e_ratio_of (mCons (mCall e_added (mCons (mAttr cs0 "pair" (mVar 0)) (mCons (mTup (mCons (mUn (unOwn cs0 "__neg__" unNeg) (mBin opSub' (mVar 2) (mLit (.int 0)))) (mCons (mBin opSub' (mVar 2) (mLit (.int 1))) mNil))) mNil))) mNil))) sNil))
def s_Ratio_sub : Sem := mkDef 3 2 b_Ratio_sub
abbrev e_Ratio_sub : Sem := s_Ratio_sub
def d_Ratio_mul : FD := ⟨maA "Ratio" "__mul__", "__mul__", "Ratio.__mul__", defArgs (meth 10 6), defBody (meth 10 6), defScope (meth 10 6), [], []⟩
def cg_Ratio_mul : CG := ⟨[("ratio_of", .dfn e_ratio_of), ("multiplied", .dfn e_multiplied), ("pair_of", .dfn e_pair_of)], frees, cs0, subs, tgs⟩
def N_Ratio_mul : List Str := ["self", "other"]
def b_Ratio_mul : MS := (sSeq (Mi.sRet (mCall e_ratio_of (mCons (mCall e_multiplied (mCons (mAttr cs0 "pair" (mVar 0)) (mCons (mCall e_pair_of (mCons (mVar 1) mNil)) mNil))) mNil))) sNil)
def s_Ratio_mul : Sem := mkDef 2 2 b_Ratio_mul
abbrev e_Ratio_mul : Sem := s_Ratio_mul
def d_Ratio_neg : FD := ⟨maA "Ratio" "__neg__", "__neg__", "Ratio.__neg__", defArgs (meth 10 7), defBody (meth 10 7), defScope (meth 10 7), [], []⟩
def cg_Ratio_neg : CG := ⟨[("ratio_of", .dfn e_ratio_of)], frees, cs0, subs, tgs⟩
def N_Ratio_neg : List Str := ["self"]
def b_Ratio_neg : MS := (sSeq (Mi.sRet (mCall e_ratio_of (mCons (mTup (mCons (mUn (unOwn cs0 "__neg__" unNeg) (mBin opSub' (mAttr cs0 "pair" (mVar 0)) (mLit (.int 0)))) (mCons (mBin opSub' (mAttr cs0 "pair" (mVar 0)) (mLit (.int 1))) mNil))) mNil))) sNil)
def s_Ratio_neg : Sem := mkDef 1 1 b_Ratio_neg
abbrev e_Ratio_neg : Sem := s_Ratio_neg
def d_Ratio_le : FD := ⟨maA "Ratio" "__le__", "__le__", "Ratio.__le__", defArgs (meth 10 8), defBody (meth 10 8), defScope (meth 10 8), [], []⟩
def cg_Ratio_le : CG := ⟨[("pair_of", .dfn e_pair_of)], frees, cs0, subs, tgs⟩
def N_Ratio_le : List Str := ["self", "other", "there"]
def b_Ratio_le : MS := (sSeq (Mi.sAsg (mCall e_pair_of (mCons (mVar 1) mNil)) (gNm 2)) (sSeq (Mi.sRet (mBin (opOwn cs0 "__le__" (cmp .LtE)) (mBin (opArith cs0 "__mul__" opMul) (mBin opSub' (mAttr cs0 "pair" (mVar 0)) (mLit (.int 0))) (mBin opSub' (mVar 2) (mLit (.int 1)))) (mBin (opArith cs0 "__mul__" opMul) (mBin opSub' (mVar 2) (mLit (.int 0))) (mBin opSub' (mAttr cs0 "pair" (mVar 0)) (mLit (.int 1)))))) sNil))
def s_Ratio_le : Sem := mkDef 3 2 b_Ratio_le
abbrev e_Ratio_le : Sem := s_Ratio_le
def d_floor_of : FD := ⟨gaA "floor_of", "floor_of", "floor_of", defArgs (top 13), defBody (top 13), defScope (top 13), [], []⟩
def cg_floor_of : CG := ⟨[], frees, cs0, subs, tgs⟩
def N_floor_of : List Str := ["pair"]
def b_floor_of : MS := (sSeq (Mi.sRet (mBin (opFdiv) (mBin opSub' (mVar 0) (mLit (.int 0))) (mBin opSub' (mVar 0) (mLit (.int 1))))) sNil)
def s_floor_of : Sem := mkDef 1 1 b_floor_of
abbrev e_floor_of : Sem := s_floor_of
def d_turned : FD := ⟨gaA "turned", "turned", "turned", defArgs (top 14), defBody (top 14), defScope (top 14), [], []⟩
def cg_turned : CG := ⟨[], frees, cs0, subs, tgs⟩
def N_turned : List Str := ["pair"]
def b_turned : MS := (sSeq (Mi.sRet (mIf (tE (mBin (cmp .Gt) (mBin opSub' (mVar 0) (mLit (.int 0))) (mLit (.int 0)))) (mTup (mCons (mBin opSub' (mVar 0) (mLit (.int 1))) (mCons (mBin opSub' (mVar 0) (mLit (.int 0))) mNil))) (mTup (mCons (mUn (unOwn cs0 "__neg__" unNeg) (mBin opSub' (mVar 0) (mLit (.int 1)))) (mCons (mUn (unOwn cs0 "__neg__" unNeg) (mBin opSub' (mVar 0) (mLit (.int 0)))) mNil))))) sNil)
def s_turned : Sem := mkDef 1 1 b_turned
abbrev e_turned : Sem := s_turned
def d_rounded : FD := ⟨gaA "rounded", "rounded", "rounded", defArgs (top 23), defBody (top 23), defScope (top 23), [], []⟩
def cg_rounded : CG := ⟨[("added", .dfn e_added), ("floor_of", .dfn e_floor_of)], frees, cs0, subs, tgs⟩
def N_rounded : List Str := ["pair", "mode", "below", "rest", "twice"]
def b_rounded : MS := (sSeq (Mi.sAsg (mCall e_floor_of (mCons (mVar 0) mNil)) (gNm 2)) (sSeq (Mi.sAsg (mCall e_added (mCons (mVar 0) (mCons (mTup (mCons (mUn (unOwn cs0 "__neg__" unNeg) (mVar 2)) (mCons (mLit (.int 1)) mNil))) mNil))) (gNm 3)) (sSeq (Mi.sIf (tOr (tE (mBin (opOwn cs0 "__eq__" cmEq) (mBin opSub' (mVar 3) (mLit (.int 0))) (mLit (.int 0)))) (tE (mBin (opOwn cs0 "__eq__" cmEq) (mVar 1) (mLit (.str "down"))))) (sSeq (Mi.sRet (mVar 2)) sNil) sNil) (sSeq (Mi.sIf (tE (mBin (opOwn cs0 "__eq__" cmEq) (mVar 1) (mLit (.str "up")))) (sSeq (Mi.sRet (mBin (opArith cs0 "__add__" opAdd) (mVar 2) (mLit (.int 1)))) sNil) sNil) (sSeq (Mi.sAsg (mBin (opArith cs0 "__sub__" opSub) (mBin (opArith cs0 "__mul__" opMul) (mLit (.int 2)) (mBin opSub' (mVar 3) (mLit (.int 0)))) (mBin opSub' (mVar 3) (mLit (.int 1)))) (gNm 4)) (sSeq (Mi.sIf (tE (mBin (opNe cs0) (mVar 4) (mLit (.int 0)))) (sSeq (Mi.sRet (mIf (tE (mBin (cmp .Gt) (mVar 4) (mLit (.int 0)))) (mBin (opArith cs0 "__add__" opAdd) (mVar 2) (mLit (.int 1))) (mVar 2))) sNil) sNil) (sSeq (Mi.sRet (mIf (tOr (tE (mBin (opOwn cs0 "__eq__" cmEq) (mVar 1) (mLit (.str "half")))) (tE (mBin (opOwn cs0 "__eq__" cmEq) (mBin (opMod) (mVar 2) (mLit (.int 2))) (mLit (.int 1))))) (mBin (opArith cs0 "__add__" opAdd) (mVar 2) (mLit (.int 1))) (mVar 2))) sNil)))))))
def s_rounded : Sem := mkDef 5 2 b_rounded
abbrev e_rounded : Sem := s_rounded
def d_done : FD := ⟨gaA "done", "done", "done", defArgs (top 24), defBody (top 24), defScope (top 24), [], []⟩
def cg_done : CG := ⟨[("multiplied", .dfn e_multiplied), ("rounded", .dfn e_rounded), ("turned", .dfn e_turned), ("added", .dfn e_added)], frees, cs0, subs, tgs⟩
def N_done : List Str := ["word", "number", "rule", "pair"]
def b_done : MS := (sSeq (Mi.sIf (tE (mBin (opOwn cs0 "__eq__" cmEq) (mVar 0) (mLit (.str "scale")))) (sSeq (Mi.sRet (mCall e_multiplied (mCons (mVar 3) (mCons (mVar 1) mNil)))) sNil) sNil) (sSeq (Mi.sIf (tE (mBin (opOwn cs0 "__eq__" cmEq) (mVar 0) (mLit (.str "shift")))) (sSeq (Mi.sRet (mCall e_added (mCons (mVar 3) (mCons (mVar 1) mNil)))) sNil) sNil) (sSeq (Mi.sRet (mCall e_multiplied (mCons (mTup (mCons (mCall e_rounded (mCons (mCall e_multiplied (mCons (mVar 3) (mCons (mCall e_turned (mCons (mVar 1) mNil)) mNil))) (mCons (mVar 2) mNil))) (mCons (mLit (.int 1)) mNil))) (mCons (mVar 1) mNil)))) sNil)))
def s_done : Sem := mkDef 4 4 b_done
abbrev e_done : Sem := s_done
def d_is_small : FD := ⟨gaA "is_small", "is_small", "is_small", defArgs (top 18), defBody (top 18), defScope (top 18), [], []⟩
def cg_is_small : CG := ⟨[("MOST", .val v_MOST), ("Ratio", .cls 0 e_Ratio)], frees, cs0, subs, tgs⟩
def N_is_small : List Str := ["value"]
def b_is_small : MS := (sSeq (Mi.sRet (mAnd (mUn (opIs subs tgs [.c 0]) (mVar 0)) (mAnd (mBin (opOwn cs0 "__le__" (cmp .LtE)) (mCall bAbs (mCons (mBin opSub' (mAttr cs0 "pair" (mVar 0)) (mLit (.int 0))) mNil)) (mLit v_MOST)) (mBin (opOwn cs0 "__le__" (cmp .LtE)) (mBin opSub' (mAttr cs0 "pair" (mVar 0)) (mLit (.int 1))) (mLit v_MOST))))) sNil)
def s_is_small : Sem := mkDef 1 1 b_is_small
abbrev e_is_small : Sem := s_is_small
def d_Step_init : FD := ⟨maA "Step" "__init__", "__init__", "Step.__init__", defArgs (meth 19 1), defBody (meth 19 1), defScope (meth 19 1), [], []⟩
def cg_Step_init : CG := ⟨[], frees, cs0, subs, tgs⟩
def N_Step_init : List Str := ["self", "pair", "mode"]
def b_Step_init : MS := (sSeq (Mi.sFld cs0 (mVar 0) "number" (mVar 1)) (sSeq (Mi.sFld cs0 (mVar 0) "rule" (mVar 2)) sNil))
def s_Step_init : Sem := mkDef 3 3 b_Step_init
abbrev e_Step_init : Sem := s_Step_init
def e_Step : Sem := mkIns 1 e_Step_init
def d_Step_listed : FD := ⟨maA "Step" "listed", "listed", "Step.listed", defArgs (meth 19 3), defBody (meth 19 3), defScope (meth 19 3), [], []⟩
def cg_Step_listed : CG := ⟨[], frees, cs0, subs, tgs⟩
def N_Step_listed : List Str := ["self"]
def b_Step_listed : MS := (sSeq (Mi.sRet (mTup (mCons (mAttr cs0 "WORD" (mVar 0)) (mCons (mAttr cs0 "number" (mVar 0)) (mCons (mAttr cs0 "rule" (mVar 0)) mNil))))) sNil)
def s_Step_listed : Sem := mkDef 1 1 b_Step_listed
abbrev e_Step_listed : Sem := s_Step_listed
def d_Step_call : FD := ⟨maA "Step" "__call__", "__call__", "Step.__call__", defArgs (meth 19 4), defBody (meth 19 4), defScope (meth 19 4), [], []⟩
def cg_Step_call : CG := ⟨[("ratio_of", .dfn e_ratio_of), ("done", .dfn e_done), ("Ratio", .cls 0 e_Ratio), ("InvalidRatio", .exc 6)], frees, cs0, subs, tgs⟩
def N_Step_call : List Str := ["self", "value"]
def b_Step_call : MS := (sSeq (Mi.sIf (tNot (tE (mUn (opIs subs tgs [.c 0]) (mVar 1)))) (sSeq (sRaise 6 (mCons (mLit (.str "not a Ratio")) mNil)) sNil) sNil) (sSeq (Mi.sRet (mCall e_ratio_of (mCons (mCall e_done (mCons (mAttr cs0 "WORD" (mVar 0)) (mCons (mAttr cs0 "number" (mVar 0)) (mCons (mAttr cs0 "rule" (mVar 0)) (mCons (mAttr cs0 "pair" (mVar 1)) mNil))))) mNil))) sNil))
def s_Step_call : Sem := mkDef 2 2 b_Step_call
abbrev e_Step_call : Sem := s_Step_call
def d_Scale_init : FD := ⟨maA "Scale" "__init__", "__init__", "Scale.__init__", defArgs (meth 20 1), defBody (meth 20 1), defScope (meth 20 1), [], ["__class__"]⟩
def cg_Scale_init : CG := ⟨[("is_small", .dfn e_is_small), ("InvalidStep", .exc 7)], frees, cs0, subs, tgs⟩
def N_Scale_init : List Str := ["self", "ratio", "__class__"]
def b_Scale_init : MS := (sSeq (sSeq (Mi.sIf (tOr (tNot (tE (mCall e_is_small (mCons (mVar 1) mNil)))) (tE (mBin (opOwn cs0 "__eq__" cmEq) (mBin opSub' (mAttr cs0 "pair" (mVar 1)) (mLit (.int 0))) (mLit (.int 0))))) (sSeq (sRaise 7 (mCons (mLit (.str "not a small ratio other than 0")) mNil)) sNil) sNil) sNil) (Mi.sExpr (mSuper 2 e_Step_init (mCons (mAttr cs0 "pair" (mVar 1)) (mCons (mLit (.non)) mNil)))))
def s_Scale_init : Sem := mkDef 3 2 b_Scale_init
abbrev e_Scale_init : Sem := s_Scale_init
def e_Scale : Sem := mkIns 2 e_Scale_init
def d_Scale_ratio : FD := ⟨paA "Scale" "ratio", "ratio", "Scale.ratio", defArgs (meth 20 2), defBody (meth 20 2), defScope (meth 20 2), [], []⟩
def cg_Scale_ratio : CG := ⟨[("ratio_of", .dfn e_ratio_of)], frees, cs0, subs, tgs⟩
def N_Scale_ratio : List Str := ["self"]
def b_Scale_ratio : MS := (sSeq (Mi.sRet (mCall e_ratio_of (mCons (mAttr cs0 "number" (mVar 0)) mNil))) sNil)
def s_Scale_ratio : Sem := mkDef 1 1 b_Scale_ratio
abbrev e_Scale_ratio : Sem := s_Scale_ratio
def d_Scale_neg : FD := ⟨maA "Scale" "__neg__", "__neg__", "Scale.__neg__", defArgs (meth 20 3), defBody (meth 20 3), defScope (meth 20 3), [], []⟩
def cg_Scale_neg : CG := ⟨[("Scale", .cls 2 e_Scale), ("ratio_of", .dfn e_ratio_of), ("turned", .dfn e_turned)], frees, cs0, subs, tgs⟩
def N_Scale_neg : List Str := ["self"]
def b_Scale_neg : MS := (sSeq (Mi.sRet (mCall e_Scale (mCons (mCall e_ratio_of (mCons (mCall e_turned (mCons (mAttr cs0 "number" (mVar 0)) mNil)) mNil)) mNil))) sNil)
def s_Scale_neg : Sem := mkDef 1 1 b_Scale_neg
abbrev e_Scale_neg : Sem := s_Scale_neg
def d_Shift_init : FD := ⟨maA "Shift" "__init__", "__init__", "Shift.__init__", defArgs (meth 21 1), defBody (meth 21 1), defScope (meth 21 1), [], ["__class__"]⟩
def cg_Shift_init : CG := ⟨[("is_small", .dfn e_is_small), ("InvalidStep", .exc 7)], frees, cs0, subs, tgs⟩
def N_Shift_init : List Str := ["self", "ratio", "__class__"]
def b_Shift_init : MS := (sSeq (sSeq (Mi.sIf (tNot (tE (mCall e_is_small (mCons (mVar 1) mNil)))) (sSeq (sRaise 7 (mCons (mLit (.str "not a small ratio")) mNil)) sNil) sNil) sNil) (Mi.sExpr (mSuper 3 e_Step_init (mCons (mAttr cs0 "pair" (mVar 1)) (mCons (mLit (.non)) mNil)))))
def s_Shift_init : Sem := mkDef 3 2 b_Shift_init
abbrev e_Shift_init : Sem := s_Shift_init
def e_Shift : Sem := mkIns 3 e_Shift_init
def d_Shift_ratio : FD := ⟨paA "Shift" "ratio", "ratio", "Shift.ratio", defArgs (meth 21 2), defBody (meth 21 2), defScope (meth 21 2), [], []⟩
def cg_Shift_ratio : CG := ⟨[("ratio_of", .dfn e_ratio_of)], frees, cs0, subs, tgs⟩
def N_Shift_ratio : List Str := ["self"]
def b_Shift_ratio : MS := (sSeq (Mi.sRet (mCall e_ratio_of (mCons (mAttr cs0 "number" (mVar 0)) mNil))) sNil)
def s_Shift_ratio : Sem := mkDef 1 1 b_Shift_ratio
abbrev e_Shift_ratio : Sem := s_Shift_ratio
def d_Shift_neg : FD := ⟨maA "Shift" "__neg__", "__neg__", "Shift.__neg__", defArgs (meth 21 3), defBody (meth 21 3), defScope (meth 21 3), [], []⟩
def cg_Shift_neg : CG := ⟨[("Shift", .cls 3 e_Shift), ("ratio_of", .dfn e_ratio_of)], frees, cs0, subs, tgs⟩
def N_Shift_neg : List Str := ["self"]
def b_Shift_neg : MS := (sSeq (Mi.sRet (mCall e_Shift (mCons (mCall e_ratio_of (mCons (mTup (mCons (mUn (unOwn cs0 "__neg__" unNeg) (mBin opSub' (mAttr cs0 "number" (mVar 0)) (mLit (.int 0)))) (mCons (mBin opSub' (mAttr cs0 "number" (mVar 0)) (mLit (.int 1))) mNil))) mNil)) mNil))) sNil)
def s_Shift_neg : Sem := mkDef 1 1 b_Shift_neg
abbrev e_Shift_neg : Sem := s_Shift_neg
def d_Round_init : FD := ⟨maA "Round" "__init__", "__init__", "Round.__init__", defArgs (meth 22 1), defBody (meth 22 1), defScope (meth 22 1), [.str "half"], ["__class__"]⟩
def cg_Round_init : CG := ⟨[("MODES", .val v_MODES), ("InvalidStep", .exc 7), ("is_small", .dfn e_is_small)], frees, cs0, subs, tgs⟩
def N_Round_init : List Str := ["self", "unit", "mode", "__class__"]
def b_Round_init : MS := (sSeq (sSeq (Mi.sIf (tOr (tNot (tE (mCall e_is_small (mCons (mVar 1) mNil)))) (tE (mBin (opOwn cs0 "__le__" (cmp .LtE)) (mBin opSub' (mAttr cs0 "pair" (mVar 1)) (mLit (.int 0))) (mLit (.int 0))))) (sSeq (sRaise 7 (mCons (mLit (.str "not a small positive ratio")) mNil)) sNil) sNil) (sSeq (Mi.sIf (tOr (tNot (tE (mUn (opIs subs tgs [.b "str"]) (mVar 2)))) (tE (mBin (cmp .NotIn) (mVar 2) (mLit v_MODES)))) (sSeq (sRaise 7 (mCons (mLit (.str "not a mode")) mNil)) sNil) sNil) sNil)) (Mi.sExpr (mSuper 4 e_Step_init (mCons (mAttr cs0 "pair" (mVar 1)) (mCons (mVar 2) mNil)))))
def s_Round_init : Sem := mkDef 4 3 b_Round_init
def e_Round_init : Sem := semCall s_Round_init 3 [.str "half"]
def e_Round : Sem := mkIns 4 e_Round_init
def d_Round_unit : FD := ⟨paA "Round" "unit", "unit", "Round.unit", defArgs (meth 22 2), defBody (meth 22 2), defScope (meth 22 2), [], []⟩
def cg_Round_unit : CG := ⟨[("ratio_of", .dfn e_ratio_of)], frees, cs0, subs, tgs⟩
def N_Round_unit : List Str := ["self"]
def b_Round_unit : MS := (sSeq (Mi.sRet (mCall e_ratio_of (mCons (mAttr cs0 "number" (mVar 0)) mNil))) sNil)
def s_Round_unit : Sem := mkDef 1 1 b_Round_unit
abbrev e_Round_unit : Sem := s_Round_unit
def d_Round_mode : FD := ⟨paA "Round" "mode", "mode", "Round.mode", defArgs (meth 22 3), defBody (meth 22 3), defScope (meth 22 3), [], []⟩
def cg_Round_mode : CG := ⟨[], frees, cs0, subs, tgs⟩
def N_Round_mode : List Str := ["self"]
def b_Round_mode : MS := (sSeq (Mi.sRet (mAttr cs0 "rule" (mVar 0))) sNil)
def s_Round_mode : Sem := mkDef 1 1 b_Round_mode
abbrev e_Round_mode : Sem := s_Round_mode
def cs1 : List CI := [⟨0, ["pair"], [], [("top", s_Ratio_top), ("bottom", s_Ratio_bottom)], [("__eq__", e_Ratio_eq), ("__add__", e_Ratio_add), ("__sub__", e_Ratio_sub), ("__mul__", e_Ratio_mul), ("__neg__", e_Ratio_neg), ("__le__", e_Ratio_le)], []⟩,
  ⟨1, ["number", "rule"], [("WORD", .str "step")], [], [("listed", e_Step_listed), ("__call__", e_Step_call)], [2, 3, 4]⟩,
  ⟨2, ["number", "rule"], [("WORD", .str "scale")], [("ratio", s_Scale_ratio)], [("__neg__", e_Scale_neg), ("listed", e_Step_listed), ("__call__", e_Step_call)], []⟩,
  ⟨3, ["number", "rule"], [("WORD", .str "shift")], [("ratio", s_Shift_ratio)], [("__neg__", e_Shift_neg), ("listed", e_Step_listed), ("__call__", e_Step_call)], []⟩,
  ⟨4, ["number", "rule"], [("WORD", .str "round")], [("unit", s_Round_unit), ("mode", s_Round_mode)], [("listed", e_Step_listed), ("__call__", e_Step_call)], []⟩]
def d_Step_eq : FD := ⟨maA "Step" "__eq__", "__eq__", "Step.__eq__", defArgs (meth 19 2), defBody (meth 19 2), defScope (meth 19 2), [], []⟩
def cg_Step_eq : CG := ⟨[("Step", .cls 1 e_Step)], frees, cs1, subs, tgs⟩
def N_Step_eq : List Str := ["self", "other"]
def b_Step_eq : MS := (sSeq (Mi.sRet (mAnd (mUn (opIs subs tgs [.c 1]) (mVar 1)) (mBin (opOwn cs1 "__eq__" cmEq) (mMeth cs1 "listed" (mVar 0) mNil) (mMeth cs1 "listed" (mVar 1) mNil)))) sNil)
def s_Step_eq : Sem := mkDef 2 2 b_Step_eq
abbrev e_Step_eq : Sem := s_Step_eq
def cs2 : List CI := [⟨0, ["pair"], [], [("top", s_Ratio_top), ("bottom", s_Ratio_bottom)], [("__eq__", e_Ratio_eq), ("__add__", e_Ratio_add), ("__sub__", e_Ratio_sub), ("__mul__", e_Ratio_mul), ("__neg__", e_Ratio_neg), ("__le__", e_Ratio_le)], []⟩,
  ⟨1, ["number", "rule"], [("WORD", .str "step")], [], [("__eq__", e_Step_eq), ("listed", e_Step_listed), ("__call__", e_Step_call)], [2, 3, 4]⟩,
  ⟨2, ["number", "rule"], [("WORD", .str "scale")], [("ratio", s_Scale_ratio)], [("__neg__", e_Scale_neg), ("__eq__", e_Step_eq), ("listed", e_Step_listed), ("__call__", e_Step_call)], []⟩,
  ⟨3, ["number", "rule"], [("WORD", .str "shift")], [("ratio", s_Shift_ratio)], [("__neg__", e_Shift_neg), ("__eq__", e_Step_eq), ("listed", e_Step_listed), ("__call__", e_Step_call)], []⟩,
  ⟨4, ["number", "rule"], [("WORD", .str "round")], [("unit", s_Round_unit), ("mode", s_Round_mode)], [("__eq__", e_Step_eq), ("listed", e_Step_listed), ("__call__", e_Step_call)], []⟩]
def d_x_law_number : FD := ⟨gaA "_law_number", "_law_number", "_law_number", defArgs (top 26), defBody (top 26), defScope (top 26), [], []⟩
def cg_x_law_number : CG := ⟨[], frees, cs2, subs, tgs⟩
def N_x_law_number : List Str := ["_law_script", "_law_index", "_law_numbers", "_law_number_here", "_law_mixed"]
def b_x_law_number : MS := (sSeq (Mi.sAsg (mIf (tE (mBin (opNe cs2) (mVar 0) (mLst mNil))) (mVar 0) (mLst (mCons (mLit (.int 9)) mNil))) (gNm 2)) (sSeq (Mi.sAsg (mBin (opArith cs2 "__add__" opAdd) (mBin (opMod) (mBin opSub' (mVar 2) (mBin (opMod) (mVar 1) (mCall bLen (mCons (mVar 2) mNil)))) (mBin (opPow) (mLit (.int 10)) (mLit (.int 18)))) (mBin (opArith cs2 "__mul__" opMul) (mLit (.int 13)) (mBin (opFdiv) (mVar 1) (mCall bLen (mCons (mVar 2) mNil))))) (gNm 3)) (sSeq (Mi.sAsg (mBin (opMod) (mBin (opArith cs2 "__add__" opAdd) (mBin (opArith cs2 "__mul__" opMul) (mBin (opArith cs2 "__add__" opAdd) (mVar 3) (mBin (opArith cs2 "__mul__" opMul) (mLit (.int 977)) (mVar 1))) (mLit (.int 48271))) (mBin (opArith cs2 "__mul__" opMul) (mLit (.int 7919)) (mCall bLen (mCons (mVar 2) mNil)))) (mLit (.int 2147483647))) (gNm 4)) (sSeq (Mi.sRet (mBin (opFdiv) (mBin (opArith cs2 "__mul__" opMul) (mBin (opArith cs2 "__mul__" opMul) (mVar 4) (mBin (opArith cs2 "__add__" opAdd) (mBin (opArith cs2 "__add__" opAdd) (mVar 4) (mBin (opArith cs2 "__mul__" opMul) (mLit (.int 31)) (mVar 1))) (mLit (.int 7)))) (mBin (opArith cs2 "__add__" opAdd) (mVar 4) (mLit (.int 5)))) (mLit (.int 1009)))) sNil))))
def s_x_law_number : Sem := mkDef 5 2 b_x_law_number
abbrev e_x_law_number : Sem := s_x_law_number
def d_x_law_rounded : FD := ⟨gaA "_law_rounded", "_law_rounded", "_law_rounded", defArgs (top 27), defBody (top 27), defScope (top 27), [], []⟩
def cg_x_law_rounded : CG := ⟨[], frees, cs2, subs, tgs⟩
def N_x_law_rounded : List Str := ["_law_top", "_law_bottom", "_law_row", "_law_name", "_law_word", "_law_number_here", "_law_part", "_law_mode", "_law_above", "_law_below", "_law_count"]
def b_x_law_rounded : MS := (sSeq (Mi.sAsg (mVar 2) (gTp (gCons' (gNm 3) (gCons' (gNm 4) (gCons' (gNm 5) (gCons' (gNm 6) (gCons' (gNm 7) gNil'))))))) (sSeq (sPar [8, 9] (mCons (mBin (opArith cs2 "__mul__" opMul) (mVar 0) (mVar 6)) (mCons (mBin (opArith cs2 "__mul__" opMul) (mVar 1) (mVar 5)) mNil))) (sSeq (Mi.sIf (tE (mBin (opOwn cs2 "__eq__" cmEq) (mVar 7) (mLit (.str "down")))) (sSeq (Mi.sRet (mTup (mCons (mBin (opArith cs2 "__mul__" opMul) (mBin (opFdiv) (mVar 8) (mVar 9)) (mVar 5)) (mCons (mVar 6) mNil)))) sNil) sNil) (sSeq (Mi.sIf (tE (mBin (opOwn cs2 "__eq__" cmEq) (mVar 7) (mLit (.str "up")))) (sSeq (Mi.sRet (mTup (mCons (mBin (opArith cs2 "__mul__" opMul) (mUn (unOwn cs2 "__neg__" unNeg) (mBin (opFdiv) (mUn (unOwn cs2 "__neg__" unNeg) (mVar 8)) (mVar 9))) (mVar 5)) (mCons (mVar 6) mNil)))) sNil) sNil) (sSeq (Mi.sAsg (mBin (opFdiv) (mBin (opArith cs2 "__add__" opAdd) (mBin (opArith cs2 "__mul__" opMul) (mLit (.int 2)) (mVar 8)) (mVar 9)) (mBin (opArith cs2 "__mul__" opMul) (mLit (.int 2)) (mVar 9))) (gNm 10)) (sSeq (Mi.sIf (tAnd (tE (mBin (opOwn cs2 "__eq__" cmEq) (mVar 7) (mLit (.str "even")))) (tAnd (tE (mBin (opOwn cs2 "__eq__" cmEq) (mBin (opMod) (mBin (opArith cs2 "__add__" opAdd) (mBin (opArith cs2 "__mul__" opMul) (mLit (.int 2)) (mVar 8)) (mVar 9)) (mBin (opArith cs2 "__mul__" opMul) (mLit (.int 2)) (mVar 9))) (mLit (.int 0)))) (tE (mBin (opOwn cs2 "__eq__" cmEq) (mBin (opMod) (mVar 10) (mLit (.int 2))) (mLit (.int 1)))))) (sSeq (Mi.sAsg (mBin (opArith cs2 "__sub__" opSub) (mVar 10) (mLit (.int 1))) (gNm 10)) sNil) sNil) (sSeq (Mi.sRet (mTup (mCons (mBin (opArith cs2 "__mul__" opMul) (mVar 10) (mVar 5)) (mCons (mVar 6) mNil)))) sNil)))))))
def s_x_law_rounded : Sem := mkDef 11 3 b_x_law_rounded
abbrev e_x_law_rounded : Sem := s_x_law_rounded
def d_x_law_is_pair : FD := ⟨gaA "_law_is_pair", "_law_is_pair", "_law_is_pair", defArgs (top 28), defBody (top 28), defScope (top 28), [], []⟩
def cg_x_law_is_pair : CG := ⟨[], frees, cs2, subs, tgs⟩
def N_x_law_is_pair : List Str := ["_law_ratio", "_law_top", "_law_bottom", "_law_part"]
def b_x_law_is_pair : MS := (sSeq (Mi.sIf (tOr (tE (mBin (opNe cs2) (mBin (opArith cs2 "__mul__" opMul) (mAttr cs2 "top" (mVar 0)) (mVar 2)) (mBin (opArith cs2 "__mul__" opMul) (mVar 1) (mAttr cs2 "bottom" (mVar 0))))) (tE (mBin (cmp .Lt) (mAttr cs2 "bottom" (mVar 0)) (mLit (.int 1))))) (sSeq (Mi.sRet (mLit (.bl false))) sNil) sNil) (sSeq (Mi.sRet (mNot (mCall bAny (mCons (mComp (Mi.iList (mTup (mCons (mLit (.int 2)) (mCons (mLit (.int 3)) (mCons (mLit (.int 5)) (mCons (mLit (.int 7)) (mCons (mLit (.int 11)) (mCons (mLit (.int 13)) mNil)))))))) (gNm 3) tTrue (mAnd (mBin (opOwn cs2 "__eq__" cmEq) (mBin (opMod) (mAttr cs2 "top" (mVar 0)) (mVar 3)) (mLit (.int 0))) (mBin (opOwn cs2 "__eq__" cmEq) (mBin (opMod) (mAttr cs2 "bottom" (mVar 0)) (mVar 3)) (mLit (.int 0)))) [3]) mNil)))) sNil))
def s_x_law_is_pair : Sem := mkDef 4 3 b_x_law_is_pair
abbrev e_x_law_is_pair : Sem := s_x_law_is_pair
def d_x_law_ratios_right : FD := ⟨gaA "_law_ratios_right", "_law_ratios_right", "_law_ratios_right", defArgs (top 29), defBody (top 29), defScope (top 29), [], []⟩
def cg_x_law_ratios_right : CG := ⟨[("Ratio", .cls 0 e_Ratio), ("_law_is_pair", .dfn e_x_law_is_pair)], frees, cs2, subs, tgs⟩
def N_x_law_ratios_right : List Str := ["_law_a", "_law_b", "_law_c", "_law_d", "_law_one", "_law_other"]
def b_x_law_ratios_right : MS := (sSeq (sPar [4, 5] (mCons (mCall e_Ratio (mCons (mVar 0) (mCons (mVar 1) mNil))) (mCons (mCall e_Ratio (mCons (mVar 2) (mCons (mVar 3) mNil))) mNil))) (sSeq (Mi.sIf (tOr (tNot (tE (mCall e_x_law_is_pair (mCons (mVar 4) (mCons (mVar 0) (mCons (mVar 1) mNil)))))) (tNot (tE (mCall e_x_law_is_pair (mCons (mBin (opArith cs2 "__add__" opAdd) (mVar 4) (mVar 5)) (mCons (mBin (opArith cs2 "__add__" opAdd) (mBin (opArith cs2 "__mul__" opMul) (mVar 0) (mVar 3)) (mBin (opArith cs2 "__mul__" opMul) (mVar 2) (mVar 1))) (mCons (mBin (opArith cs2 "__mul__" opMul) (mVar 1) (mVar 3)) mNil))))))) (sSeq (Mi.sRet (mLit (.bl false))) sNil) sNil) (sSeq (Mi.sIf (tNot (tE (mCall e_x_law_is_pair (mCons (mBin (opArith cs2 "__sub__" opSub) (mVar 4) (mVar 5)) (mCons (mBin (opArith cs2 "__sub__" opSub) (mBin (opArith cs2 "__mul__" opMul) (mVar 0) (mVar 3)) (mBin (opArith cs2 "__mul__" opMul) (mVar 2) (mVar 1))) (mCons (mBin (opArith cs2 "__mul__" opMul) (mVar 1) (mVar 3)) mNil)))))) (sSeq (Mi.sRet (mLit (.bl false))) sNil) sNil) (sSeq (Mi.sIf (tOr (tNot (tE (mCall e_x_law_is_pair (mCons (mBin (opArith cs2 "__mul__" opMul) (mVar 4) (mVar 5)) (mCons (mBin (opArith cs2 "__mul__" opMul) (mVar 0) (mVar 2)) (mCons (mBin (opArith cs2 "__mul__" opMul) (mVar 1) (mVar 3)) mNil)))))) (tNot (tE (mCall e_x_law_is_pair (mCons (mUn (unOwn cs2 "__neg__" unNeg) (mVar 4)) (mCons (mUn (unOwn cs2 "__neg__" unNeg) (mVar 0)) (mCons (mVar 1) mNil))))))) (sSeq (Mi.sRet (mLit (.bl false))) sNil) sNil) (sSeq (Mi.sIf (tOr (tE (mBin (opNe cs2) (mBin (opArith cs2 "__add__" opAdd) (mUn (unOwn cs2 "__neg__" unNeg) (mVar 4)) (mVar 4)) (mCall e_Ratio (mCons (mLit (.int 0)) mNil)))) (tE (mBin (opNe cs2) (mBin (opArith cs2 "__sub__" opSub) (mVar 4) (mVar 4)) (mCall e_Ratio (mCons (mLit (.int 0)) (mCons (mLit (.int 7)) mNil)))))) (sSeq (Mi.sRet (mLit (.bl false))) sNil) sNil) (sSeq (Mi.sIf (tOr (tE (mBin (opNe cs2) (mBin (opOwn cs2 "__le__" (cmp .LtE)) (mVar 4) (mVar 5)) (mBin (opOwn cs2 "__le__" (cmp .LtE)) (mBin (opArith cs2 "__mul__" opMul) (mVar 0) (mVar 3)) (mBin (opArith cs2 "__mul__" opMul) (mVar 2) (mVar 1))))) (tOr (tE (mBin (opNe cs2) (mBin (opOwn cs2 "__eq__" cmEq) (mVar 4) (mVar 5)) (mBin (opOwn cs2 "__eq__" cmEq) (mBin (opArith cs2 "__mul__" opMul) (mVar 0) (mVar 3)) (mBin (opArith cs2 "__mul__" opMul) (mVar 2) (mVar 1))))) (tNot (tE (mBin (opOwn cs2 "__le__" (cmp .LtE)) (mVar 4) (mVar 4)))))) (sSeq (Mi.sRet (mLit (.bl false))) sNil) sNil) (sSeq (Mi.sIf (tNot (tAnd (tE (mBin (opOwn cs2 "__eq__" cmEq) (mCall e_Ratio (mCons (mBin (opArith cs2 "__mul__" opMul) (mLit (.int 6)) (mVar 0)) (mCons (mBin (opArith cs2 "__mul__" opMul) (mLit (.int 6)) (mVar 1)) mNil))) (mVar 4))) (tE (mBin (opOwn cs2 "__eq__" cmEq) (mBin (opArith cs2 "__add__" opAdd) (mVar 4) (mVar 5)) (mBin (opArith cs2 "__add__" opAdd) (mVar 5) (mVar 4)))))) (sSeq (Mi.sRet (mLit (.bl false))) sNil) sNil) (sSeq (Mi.sRet (mAnd (mBin (opOwn cs2 "__eq__" cmEq) (mBin (opArith cs2 "__mul__" opMul) (mVar 4) (mVar 5)) (mBin (opArith cs2 "__mul__" opMul) (mVar 5) (mVar 4))) (mBin (opOwn cs2 "__eq__" cmEq) (mCall e_Ratio (mCons (mVar 0) mNil)) (mCall e_Ratio (mCons (mVar 0) (mCons (mLit (.int 1)) mNil)))))) sNil))))))))
def s_x_law_ratios_right : Sem := mkDef 6 4 b_x_law_ratios_right
abbrev e_x_law_ratios_right : Sem := s_x_law_ratios_right
def d_x_law_steps_right : FD := ⟨gaA "_law_steps_right", "_law_steps_right", "_law_steps_right", defArgs (top 30), defBody (top 30), defScope (top 30), [], []⟩
def cg_x_law_steps_right : CG := ⟨[("_law_is_pair", .dfn e_x_law_is_pair), ("Scale", .cls 2 e_Scale), ("Shift", .cls 3 e_Shift), ("Ratio", .cls 0 e_Ratio)], frees, cs2, subs, tgs⟩
def N_x_law_steps_right : List Str := ["_law_a", "_law_b", "_law_c", "_law_d", "_law_value", "_law_ratio", "_law_plus", "_law_times"]
def b_x_law_steps_right : MS := (sSeq (sPar [4, 5] (mCons (mCall e_Ratio (mCons (mVar 2) (mCons (mVar 3) mNil))) (mCons (mCall e_Ratio (mCons (mVar 0) (mCons (mVar 1) mNil))) mNil))) (sSeq (Mi.sAsg (mCall e_Shift (mCons (mVar 5) mNil)) (gNm 6)) (sSeq (Mi.sIf (tOr (tNot (tE (mCall e_x_law_is_pair (mCons (mCallI cs2 (mVar 6) (mCons (mVar 4) mNil)) (mCons (mBin (opArith cs2 "__add__" opAdd) (mBin (opArith cs2 "__mul__" opMul) (mVar 0) (mVar 3)) (mBin (opArith cs2 "__mul__" opMul) (mVar 2) (mVar 1))) (mCons (mBin (opArith cs2 "__mul__" opMul) (mVar 1) (mVar 3)) mNil)))))) (tE (mBin (opNe cs2) (mUn (unOwn cs2 "__neg__" unNeg) (mVar 6)) (mCall e_Shift (mCons (mUn (unOwn cs2 "__neg__" unNeg) (mVar 5)) mNil))))) (sSeq (Mi.sRet (mLit (.bl false))) sNil) sNil) (sSeq (Mi.sIf (tOr (tE (mBin (opNe cs2) (mCallI cs2 (mUn (unOwn cs2 "__neg__" unNeg) (mVar 6)) (mCons (mCallI cs2 (mVar 6) (mCons (mVar 4) mNil)) mNil)) (mVar 4))) (tE (mBin (opNe cs2) (mAttr cs2 "ratio" (mVar 6)) (mVar 5)))) (sSeq (Mi.sRet (mLit (.bl false))) sNil) sNil) (sSeq (Mi.sIf (tE (mBin (opOwn cs2 "__eq__" cmEq) (mVar 0) (mLit (.int 0)))) (sSeq (Mi.sRet (mLit (.bl true))) sNil) sNil) (sSeq (Mi.sAsg (mCall e_Scale (mCons (mVar 5) mNil)) (gNm 7)) (sSeq (Mi.sIf (tNot (tAnd (tE (mCall e_x_law_is_pair (mCons (mCallI cs2 (mVar 7) (mCons (mVar 4) mNil)) (mCons (mBin (opArith cs2 "__mul__" opMul) (mVar 0) (mVar 2)) (mCons (mBin (opArith cs2 "__mul__" opMul) (mVar 1) (mVar 3)) mNil))))) (tE (mBin (opOwn cs2 "__eq__" cmEq) (mCallI cs2 (mUn (unOwn cs2 "__neg__" unNeg) (mVar 7)) (mCons (mCallI cs2 (mVar 7) (mCons (mVar 4) mNil)) mNil)) (mVar 4))))) (sSeq (Mi.sRet (mLit (.bl false))) sNil) sNil) (sSeq (Mi.sRet (mAnd (mBin (opOwn cs2 "__eq__" cmEq) (mUn (unOwn cs2 "__neg__" unNeg) (mUn (unOwn cs2 "__neg__" unNeg) (mVar 7))) (mVar 7)) (mBin (opOwn cs2 "__eq__" cmEq) (mAttr cs2 "ratio" (mVar 7)) (mVar 5)))) sNil))))))))
def s_x_law_steps_right : Sem := mkDef 8 4 b_x_law_steps_right
abbrev e_x_law_steps_right : Sem := s_x_law_steps_right
def d_x_law_round_right : FD := ⟨gaA "_law_round_right", "_law_round_right", "_law_round_right", defArgs (top 31), defBody (top 31), defScope (top 31), [], []⟩
def cg_x_law_round_right : CG := ⟨[("Round", .cls 4 e_Round), ("Ratio", .cls 0 e_Ratio), ("_law_is_pair", .dfn e_x_law_is_pair), ("_law_rounded", .dfn e_x_law_rounded)], frees, cs2, subs, tgs⟩
def N_x_law_round_right : List Str := ["_law_a", "_law_b", "_law_c", "_law_d", "_law_mode", "_law_step", "_law_value", "_law_unit", "_law_found", "_law_result", "_law_twice", "_law_error", "_law_near"]
def b_x_law_round_right : MS := (sSeq (sPar [5, 6, 7] (mCons (mCall e_Round (mCons (mCall e_Ratio (mCons (mVar 0) (mCons (mVar 1) mNil))) (mCons (mVar 4) mNil))) (mCons (mCall e_Ratio (mCons (mVar 2) (mCons (mVar 3) mNil))) (mCons (mCall e_Ratio (mCons (mVar 0) (mCons (mVar 1) mNil))) mNil)))) (sSeq (Mi.sAsg (mCall e_x_law_rounded (mCons (mVar 2) (mCons (mVar 3) (mCons (mTup (mCons (mLit (.str "x")) (mCons (mLit (.str "round")) (mCons (mVar 0) (mCons (mVar 1) (mCons (mVar 4) mNil)))))) mNil)))) (gNm 8)) (sSeq (Mi.sAsg (mCallI cs2 (mVar 5) (mCons (mVar 6) mNil)) (gNm 9)) (sSeq (Mi.sIf (tOr (tNot (tE (mCall e_x_law_is_pair (mCons (mVar 9) (mCons (mBin opSub' (mVar 8) (mLit (.int 0))) (mCons (mBin opSub' (mVar 8) (mLit (.int 1))) mNil)))))) (tE (mBin (opNe cs2) (mCallI cs2 (mVar 5) (mCons (mVar 9) mNil)) (mVar 9)))) (sSeq (Mi.sRet (mLit (.bl false))) sNil) sNil) (sSeq (Mi.sIf (tOr (tE (mBin (opNe cs2) (mAttr cs2 "mode" (mVar 5)) (mVar 4))) (tE (mBin (opNe cs2) (mAttr cs2 "unit" (mVar 5)) (mVar 7)))) (sSeq (Mi.sRet (mLit (.bl false))) sNil) sNil) (sSeq (Mi.sAsg (mBin (opArith cs2 "__add__" opAdd) (mVar 7) (mVar 7)) (gNm 10)) (sSeq (Mi.sIf (tOr (tE (mBin (opNe cs2) (mCallI cs2 (mVar 5) (mCons (mBin (opArith cs2 "__add__" opAdd) (mVar 6) (mVar 10)) mNil)) (mBin (opArith cs2 "__add__" opAdd) (mVar 9) (mVar 10)))) (tE (mBin (opNe cs2) (mCallI cs2 (mVar 5) (mCons (mBin (opArith cs2 "__sub__" opSub) (mVar 6) (mVar 10)) mNil)) (mBin (opArith cs2 "__sub__" opSub) (mVar 9) (mVar 10))))) (sSeq (Mi.sRet (mLit (.bl false))) sNil) sNil) (sSeq (Mi.sIf (tE (mBin (opOwn cs2 "__eq__" cmEq) (mVar 4) (mLit (.str "down")))) (sSeq (Mi.sRet (mAnd (mBin (opOwn cs2 "__le__" (cmp .LtE)) (mVar 9) (mVar 6)) (mNot (mBin (opOwn cs2 "__le__" (cmp .LtE)) (mBin (opArith cs2 "__add__" opAdd) (mVar 9) (mVar 7)) (mVar 6))))) sNil) sNil) (sSeq (Mi.sIf (tE (mBin (opOwn cs2 "__eq__" cmEq) (mVar 4) (mLit (.str "up")))) (sSeq (Mi.sRet (mAnd (mBin (opOwn cs2 "__le__" (cmp .LtE)) (mVar 6) (mVar 9)) (mNot (mBin (opOwn cs2 "__le__" (cmp .LtE)) (mVar 6) (mBin (opArith cs2 "__sub__" opSub) (mVar 9) (mVar 7)))))) sNil) sNil) (sSeq (Mi.sAsg (mBin (opArith cs2 "__sub__" opSub) (mVar 9) (mVar 6)) (gNm 11)) (sSeq (Mi.sAsg (mIf (tE (mBin (opOwn cs2 "__le__" (cmp .LtE)) (mCall e_Ratio (mCons (mLit (.int 0)) mNil)) (mVar 11))) (mBin (opArith cs2 "__add__" opAdd) (mVar 11) (mVar 11)) (mBin (opArith cs2 "__sub__" opSub) (mUn (unOwn cs2 "__neg__" unNeg) (mVar 11)) (mVar 11))) (gNm 12)) (sSeq (Mi.sRet (mAnd (mBin (opOwn cs2 "__le__" (cmp .LtE)) (mVar 12) (mVar 7)) (mBin (opOwn cs2 "__eq__" cmEq) (mVar 5) (mCall e_Round (mCons (mVar 7) (mCons (mVar 4) mNil)))))) sNil))))))))))))
def s_x_law_round_right : Sem := mkDef 13 5 b_x_law_round_right
abbrev e_x_law_round_right : Sem := s_x_law_round_right
def d_x_law_all_right : FD := ⟨gaA "_law_all_right", "_law_all_right", "_law_all_right", defArgs (top 32), defBody (top 32), defScope (top 32), [], []⟩
def cg_x_law_all_right : CG := ⟨[("Round", .cls 4 e_Round), ("Ratio", .cls 0 e_Ratio), ("_law_round_right", .dfn e_x_law_round_right), ("_law_steps_right", .dfn e_x_law_steps_right), ("_law_ratios_right", .dfn e_x_law_ratios_right), ("_law_number", .dfn e_x_law_number)], frees, cs2, subs, tgs⟩
def N_x_law_all_right : List Str := ["_law_script", "_law_turn", "_law_seed", "_law_size", "_law_a", "_law_b", "_law_c", "_law_d", "_law_unit", "_law_mode"]
def b_x_law_all_right : MS := (sSeq (Mi.sFor (iRange1 (mLit (.int 8))) (gNm 1) (sSeq (sPar [2, 3] (mCons (mCall e_x_law_number (mCons (mVar 0) (mCons (mBin (opArith cs2 "__add__" opAdd) (mLit (.int 20)) (mVar 1)) mNil))) (mCons (mBin opSub' (mTup (mCons (mLit (.int 9)) (mCons (mLit (.int 60)) (mCons (mLit (.int 99)) mNil)))) (mBin (opMod) (mVar 1) (mLit (.int 3)))) mNil))) (sSeq (sPar [4, 5] (mCons (mBin (opArith cs2 "__sub__" opSub) (mBin (opMod) (mVar 2) (mBin (opArith cs2 "__add__" opAdd) (mBin (opArith cs2 "__mul__" opMul) (mLit (.int 2)) (mVar 3)) (mLit (.int 1)))) (mVar 3)) (mCons (mBin (opArith cs2 "__add__" opAdd) (mLit (.int 1)) (mBin (opMod) (mBin (opFdiv) (mVar 2) (mLit (.int 300))) (mVar 3))) mNil))) (sSeq (sPar [6, 7] (mCons (mBin (opArith cs2 "__sub__" opSub) (mBin (opMod) (mBin (opFdiv) (mVar 2) (mLit (.int 7))) (mLit (.int 4001))) (mLit (.int 2000))) (mCons (mBin (opArith cs2 "__add__" opAdd) (mLit (.int 1)) (mBin (opMod) (mBin (opFdiv) (mVar 2) (mLit (.int 40000))) (mBin opSub' (mTup (mCons (mLit (.int 12)) (mCons (mLit (.int 60)) mNil))) (mBin (opMod) (mVar 1) (mLit (.int 2)))))) mNil))) (sSeq (Mi.sIf (tOr (tNot (tE (mCall e_x_law_ratios_right (mCons (mVar 4) (mCons (mVar 5) (mCons (mVar 6) (mCons (mVar 7) mNil))))))) (tNot (tE (mCall e_x_law_ratios_right (mCons (mVar 4) (mCons (mVar 5) (mCons (mBin (opArith cs2 "__sub__" opSub) (mBin (opArith cs2 "__add__" opAdd) (mVar 4) (mBin (opMod) (mVar 6) (mLit (.int 3)))) (mLit (.int 1))) (mCons (mVar 5) mNil)))))))) (sSeq (Mi.sRet (mLit (.bl false))) sNil) sNil) (sSeq (Mi.sIf (tNot (tE (mCall e_x_law_steps_right (mCons (mVar 4) (mCons (mVar 5) (mCons (mVar 6) (mCons (mVar 7) mNil))))))) (sSeq (Mi.sRet (mLit (.bl false))) sNil) sNil) (sSeq (Mi.sAsg (mIf (tE (mBin (cmp .Lt) (mCall bAbs (mCons (mVar 4) mNil)) (mLit (.int 99)))) (mBin (opArith cs2 "__add__" opAdd) (mCall bAbs (mCons (mVar 4) mNil)) (mLit (.int 1))) (mLit (.int 4))) (gNm 8)) (sSeq (Mi.sFor (Mi.iList (mTup (mCons (mLit (.str "down")) (mCons (mLit (.str "up")) (mCons (mLit (.str "half")) (mCons (mLit (.str "even")) mNil)))))) (gNm 9) (sSeq (Mi.sIf (tNot (tE (mCall e_x_law_round_right (mCons (mVar 8) (mCons (mVar 5) (mCons (mVar 6) (mCons (mVar 7) (mCons (mVar 9) mNil)))))))) (sSeq (Mi.sRet (mLit (.bl false))) sNil) sNil) (sSeq (Mi.sIf (tNot (tE (mCall e_x_law_round_right (mCons (mVar 8) (mCons (mVar 5) (mCons (mBin (opArith cs2 "__mul__" opMul) (mBin (opArith cs2 "__sub__" opSub) (mBin (opArith cs2 "__mul__" opMul) (mLit (.int 2)) (mBin (opMod) (mVar 6) (mLit (.int 40)))) (mLit (.int 39))) (mVar 8)) (mCons (mBin (opArith cs2 "__mul__" opMul) (mLit (.int 2)) (mVar 5)) (mCons (mVar 9) mNil)))))))) (sSeq (Mi.sRet (mLit (.bl false))) sNil) sNil) (sSeq (Mi.sIf (tNot (tE (mCall e_x_law_round_right (mCons (mVar 8) (mCons (mVar 5) (mCons (mBin (opArith cs2 "__mul__" opMul) (mBin (opArith cs2 "__sub__" opSub) (mBin (opMod) (mVar 6) (mLit (.int 40))) (mLit (.int 20))) (mVar 8)) (mCons (mVar 5) (mCons (mVar 9) mNil)))))))) (sSeq (Mi.sRet (mLit (.bl false))) sNil) sNil) sNil)))) sNil)))))))) (sSeq (Mi.sRet (mAnd (mBin (opOwn cs2 "__eq__" cmEq) (mCall e_Round (mCons (mCall e_Ratio (mCons (mLit (.int 2)) (mCons (mLit (.int 3)) mNil))) mNil)) (mCall e_Round (mCons (mCall e_Ratio (mCons (mLit (.int 4)) (mCons (mLit (.int 6)) mNil))) (mCons (mLit (.str "half")) mNil)))) (mBin (opNe cs2) (mCall e_Round (mCons (mCall e_Ratio (mCons (mLit (.int 1)) mNil)) (mCons (mLit (.str "up")) mNil))) (mCall e_Round (mCons (mCall e_Ratio (mCons (mLit (.int 1)) mNil)) (mCons (mLit (.str "down")) mNil)))))) sNil))
def s_x_law_all_right : Sem := mkDef 10 1 b_x_law_all_right
abbrev e_x_law_all_right : Sem := s_x_law_all_right
def d_law : FD := ⟨gaA "law", "law", "law", defArgs (top 33), defBody (top 33), defScope (top 33), [], []⟩
def cg_law : CG := ⟨[("_law_all_right", .dfn e_x_law_all_right)], frees, cs2, subs, tgs⟩
def N_law : List Str := ["_law_script"]
def b_law : MS := (sSeq (sTry0 (sSeq (Mi.sRet (mCall e_x_law_all_right (mCons (mVar 0) mNil))) sNil)) sNil)
def s_law : Sem := mkDef 1 1 b_law
abbrev e_law : Sem := s_law
def fns : List FD := [d_is_integer, d_common, d_lowest, d_added, d_multiplied, d_Ratio_init, d_pair_of, d_ratio_of, d_Ratio_top, d_Ratio_bottom, d_Ratio_eq, d_Ratio_add, d_Ratio_sub, d_Ratio_mul, d_Ratio_neg, d_Ratio_le, d_floor_of, d_turned, d_rounded, d_done, d_is_small, d_Step_init, d_Step_listed, d_Step_call, d_Scale_init, d_Scale_ratio, d_Scale_neg, d_Shift_init, d_Shift_ratio, d_Shift_neg, d_Round_init, d_Round_unit, d_Round_mode, d_Step_eq, d_x_law_number, d_x_law_rounded, d_x_law_is_pair, d_x_law_ratios_right, d_x_law_steps_right, d_x_law_round_right, d_x_law_all_right, d_law]
def facts (K : PySem.W.Frag) : List Bool := [noB K (ga K "Ratio") "pair",
  consB K,
  knB (Tk cn K) K subs ids,
  noB K (ga K "Step") "number",
  noB K (ga K "Step") "rule",
  coB K (ga K "Step") "WORD" "step",
  noB K (ga K "Scale") "number",
  noB K (ga K "Scale") "rule",
  coB K (ga K "Scale") "WORD" "scale",
  noB K (ga K "Shift") "number",
  noB K (ga K "Shift") "rule",
  coB K (ga K "Shift") "WORD" "shift",
  noB K (ga K "Round") "number",
  noB K (ga K "Round") "rule",
  coB K (ga K "Round") "WORD" "round",
  frees.all fun x => freeB K x,
  isaB (Tk cn K) K subs tgs,
  gloB K "common",
  gloB K "lowest",
  gloB K "is_integer",
  gloB K "InvalidRatio",
  exB K (ga K "InvalidRatio"),
  mkB K (ga K "Ratio"),
  gloB K "Ratio",
  gloB K "ratio_of",
  gloB K "added",
  gloB K "pair_of",
  gloB K "multiplied",
  gloB K "floor_of",
  gloB K "rounded",
  gloB K "turned",
  (He.Fa.int "MOST" 99).ok K,
  gloB K "done",
  gloB K "is_small",
  gloB K "InvalidStep",
  exB K (ga K "InvalidStep"),
  suB file0 K d_Scale_init (ga K "Scale") (maA "Step" "__init__" K) "self" "__init__",
  mkB K (ga K "Scale"),
  gloB K "Scale",
  suB file0 K d_Shift_init (ga K "Shift") (maA "Step" "__init__" K) "self" "__init__",
  mkB K (ga K "Shift"),
  gloB K "Shift",
  gloB K "MODES",
  He.tupB K "MODES" [.str "down", .str "up", .str "half", .str "even"],
  suB file0 K d_Round_init (ga K "Round") (maA "Step" "__init__" K) "self" "__init__",
  prB K (ga K "Ratio") "top" (paA "Ratio" "top" K),
  prB K (ga K "Ratio") "bottom" (paA "Ratio" "bottom" K),
  meBg K (ga K "Ratio") "__eq__" (maA "Ratio" "__eq__" K),
  meBg K (ga K "Ratio") "__add__" (maA "Ratio" "__add__" K),
  meBg K (ga K "Ratio") "__sub__" (maA "Ratio" "__sub__" K),
  meBg K (ga K "Ratio") "__mul__" (maA "Ratio" "__mul__" K),
  meBg K (ga K "Ratio") "__neg__" (maA "Ratio" "__neg__" K),
  meBg K (ga K "Ratio") "__le__" (maA "Ratio" "__le__" K),
  meBg K (ga K "Step") "listed" (maA "Step" "listed" K),
  meBg K (ga K "Step") "__call__" (maA "Step" "__call__" K),
  prB K (ga K "Scale") "ratio" (paA "Scale" "ratio" K),
  meBg K (ga K "Scale") "__neg__" (maA "Scale" "__neg__" K),
  meBg K (ga K "Scale") "listed" (maA "Step" "listed" K),
  meBg K (ga K "Scale") "__call__" (maA "Step" "__call__" K),
  prB K (ga K "Shift") "ratio" (paA "Shift" "ratio" K),
  meBg K (ga K "Shift") "__neg__" (maA "Shift" "__neg__" K),
  meBg K (ga K "Shift") "listed" (maA "Step" "listed" K),
  meBg K (ga K "Shift") "__call__" (maA "Step" "__call__" K),
  prB K (ga K "Round") "unit" (paA "Round" "unit" K),
  prB K (ga K "Round") "mode" (paA "Round" "mode" K),
  meBg K (ga K "Round") "listed" (maA "Step" "listed" K),
  meBg K (ga K "Round") "__call__" (maA "Step" "__call__" K),
  mkB K (ga K "Step"),
  gloB K "Step",
  meBg K (ga K "Step") "__eq__" (maA "Step" "__eq__" K),
  meBg K (ga K "Scale") "__eq__" (maA "Step" "__eq__" K),
  meBg K (ga K "Shift") "__eq__" (maA "Step" "__eq__" K),
  meBg K (ga K "Round") "__eq__" (maA "Step" "__eq__" K),
  gloB K "_law_is_pair",
  mkB K (ga K "Round"),
  gloB K "Round",
  gloB K "_law_rounded",
  gloB K "_law_round_right",
  gloB K "_law_steps_right",
  gloB K "_law_ratios_right",
  gloB K "_law_number",
  gloB K "_law_all_right",
  gloB K "law"]
def extra (K : PySem.W.Frag) : Bool := (facts K).all id
abbrev HH (G : Gx) : Prop := Hd fns extra prog G
end Lw

namespace Lw
open PySem PySem.Spec PyProof.Rows L2 Mi He
theorem fa {G : Gx} (h : HH G) (i : Nat) {b : Bool} (e : (facts G.K)[i]? = some b) : b = true := all_at h.says.ex i e
theorem top0 : (prog.main.scope.names.lookup ("super" : Str)).isSome = false := by decide +kernel
theorem cid0 {G : Gx} (h : HH G) : ∀ ci ∈ cs0, CId (Tk cn G.K) G 1 ci := (List.forall_mem_cons.mpr ⟨⟨clsB_ok (fa h 1 rfl) (List.all_eq_true.mp (ba (fa h 2 rfl)).1 0 (by decide)), (List.forall_mem_cons.mpr ⟨noB_ok (fa h 0 rfl), (List.forall_mem_nil _)⟩), (List.forall_mem_nil _), (List.forall_mem_nil _), (List.forall_mem_nil _)⟩, (List.forall_mem_cons.mpr ⟨⟨clsB_ok (fa h 1 rfl) (List.all_eq_true.mp (ba (fa h 2 rfl)).1 1 (by decide)), (List.forall_mem_cons.mpr ⟨noB_ok (fa h 3 rfl), (List.forall_mem_cons.mpr ⟨noB_ok (fa h 4 rfl), (List.forall_mem_nil _)⟩)⟩), (List.forall_mem_cons.mpr ⟨(let ⟨u, z⟩ := coB_ok (fa h 5 rfl); ⟨_, u, rfl, z⟩), (List.forall_mem_nil _)⟩), (List.forall_mem_nil _), (List.forall_mem_nil _)⟩, (List.forall_mem_cons.mpr ⟨⟨clsB_ok (fa h 1 rfl) (List.all_eq_true.mp (ba (fa h 2 rfl)).1 2 (by decide)), (List.forall_mem_cons.mpr ⟨noB_ok (fa h 6 rfl), (List.forall_mem_cons.mpr ⟨noB_ok (fa h 7 rfl), (List.forall_mem_nil _)⟩)⟩), (List.forall_mem_cons.mpr ⟨(let ⟨u, z⟩ := coB_ok (fa h 8 rfl); ⟨_, u, rfl, z⟩), (List.forall_mem_nil _)⟩), (List.forall_mem_nil _), (List.forall_mem_nil _)⟩, (List.forall_mem_cons.mpr ⟨⟨clsB_ok (fa h 1 rfl) (List.all_eq_true.mp (ba (fa h 2 rfl)).1 3 (by decide)), (List.forall_mem_cons.mpr ⟨noB_ok (fa h 9 rfl), (List.forall_mem_cons.mpr ⟨noB_ok (fa h 10 rfl), (List.forall_mem_nil _)⟩)⟩), (List.forall_mem_cons.mpr ⟨(let ⟨u, z⟩ := coB_ok (fa h 11 rfl); ⟨_, u, rfl, z⟩), (List.forall_mem_nil _)⟩), (List.forall_mem_nil _), (List.forall_mem_nil _)⟩, (List.forall_mem_cons.mpr ⟨⟨clsB_ok (fa h 1 rfl) (List.all_eq_true.mp (ba (fa h 2 rfl)).1 4 (by decide)), (List.forall_mem_cons.mpr ⟨noB_ok (fa h 12 rfl), (List.forall_mem_cons.mpr ⟨noB_ok (fa h 13 rfl), (List.forall_mem_nil _)⟩)⟩), (List.forall_mem_cons.mpr ⟨(let ⟨u, z⟩ := coB_ok (fa h 14 rfl); ⟨_, u, rfl, z⟩), (List.forall_mem_nil _)⟩), (List.forall_mem_nil _), (List.forall_mem_nil _)⟩, (List.forall_mem_nil _)⟩)⟩)⟩)⟩)⟩)
/-! is_integer -/
theorem gl_is_integer {G : Gx} (h : HH G) : Glk (Tk cn G.K) (gat G 1) cg_is_integer := glk_of (List.forall_mem_nil _) (h.frees (fa h 15 rfl)) (fun ci hci => (cid0 h ci hci).mono (by decide)) (knB_ok (fa h 1 rfl) (fa h 2 rfl) rfl rfl) (isaB_ok (fa h 1 rfl) (ba (fa h 2 rfl)).1 (fa h 16 rfl)) (by decide)
theorem bd_is_integer : BindOk d_is_integer ["value"] := bind_N rfl fun _ _ _ _ _ _ _ us hl => match us, hl with | [_], _ => rfl
theorem c_is_integer : mkDef N_is_integer.length 1 (lsS (comp 40) ⟨cg_is_integer, N_is_integer, d_is_integer.scope, fun _ => true, true⟩ d_is_integer.body) = s_is_integer := by kernel_rfl
theorem sc_is_integer : FnScope N_is_integer ["value"] d_is_integer.scope := ⟨rfl, rfl, rfl, by decide +kernel, by decide +kernel, by decide +kernel, by decide +kernel⟩
theorem ok_is_integer {G : Gx} (h : HH G) : DOk (Tk cn G.K) G 2 (d_is_integer.ad G.K) s_is_integer 1 [] := by
  have e := h.says.fd 0 (d := d_is_integer) rfl
  exact Eq.mp (congrArg (fun s => DOk (Tk cn G.K) G 2 (d_is_integer.ad G.K) s 1 []) c_is_integer) (FD.dok 40 e.1 e.2 rfl rfl sc_is_integer bd_is_integer (gl_is_integer h))
/-! common -/
theorem gl_common {G : Gx} (h : HH G) : Glk (Tk cn G.K) (gat G 1) cg_common := glk_of (List.forall_mem_nil _) (h.frees (fa h 15 rfl)) (fun ci hci => (cid0 h ci hci).mono (by decide)) (knB_ok (fa h 1 rfl) (fa h 2 rfl) rfl rfl) (isaB_ok (fa h 1 rfl) (ba (fa h 2 rfl)).1 (fa h 16 rfl)) (by decide)
theorem bd_common : BindOk d_common ["one", "other"] := bind_N rfl fun _ _ _ _ _ _ _ us hl => match us, hl with | [_, _], _ => rfl
theorem c_common : mkDef N_common.length 2 (lsS (comp 40) ⟨cg_common, N_common, d_common.scope, fun _ => true, true⟩ d_common.body) = s_common := by kernel_rfl
theorem sc_common : FnScope N_common ["one", "other"] d_common.scope := ⟨rfl, rfl, rfl, by decide +kernel, by decide +kernel, by decide +kernel, by decide +kernel⟩
theorem ok_common {G : Gx} (h : HH G) : DOk (Tk cn G.K) G 2 (d_common.ad G.K) s_common 2 [] := by
  have e := h.says.fd 1 (d := d_common) rfl
  exact Eq.mp (congrArg (fun s => DOk (Tk cn G.K) G 2 (d_common.ad G.K) s 2 []) c_common) (FD.dok 40 e.1 e.2 rfl rfl sc_common bd_common (gl_common h))
/-! lowest -/
theorem gl_lowest {G : Gx} (h : HH G) : Glk (Tk cn G.K) (gat G 3) cg_lowest := glk_of (List.forall_mem_cons.mpr ⟨DOk.glob0 (ok_common h) (h.glo (fa h 17 rfl)) (by decide), (List.forall_mem_nil _)⟩) (h.frees (fa h 15 rfl)) (fun ci hci => (cid0 h ci hci).mono (by decide)) (knB_ok (fa h 1 rfl) (fa h 2 rfl) rfl rfl) (isaB_ok (fa h 1 rfl) (ba (fa h 2 rfl)).1 (fa h 16 rfl)) (by decide)
theorem bd_lowest : BindOk d_lowest ["pair"] := bind_N rfl fun _ _ _ _ _ _ _ us hl => match us, hl with | [_], _ => rfl
theorem c_lowest : mkDef N_lowest.length 1 (lsS (comp 40) ⟨cg_lowest, N_lowest, d_lowest.scope, fun _ => true, true⟩ d_lowest.body) = s_lowest := by kernel_rfl
theorem sc_lowest : FnScope N_lowest ["pair"] d_lowest.scope := ⟨rfl, rfl, rfl, by decide +kernel, by decide +kernel, by decide +kernel, by decide +kernel⟩
theorem ok_lowest {G : Gx} (h : HH G) : DOk (Tk cn G.K) G 4 (d_lowest.ad G.K) s_lowest 1 [] := by
  have e := h.says.fd 2 (d := d_lowest) rfl
  exact Eq.mp (congrArg (fun s => DOk (Tk cn G.K) G 4 (d_lowest.ad G.K) s 1 []) c_lowest) (FD.dok 40 e.1 e.2 rfl rfl sc_lowest bd_lowest (gl_lowest h))
/-! added -/
theorem gl_added {G : Gx} (h : HH G) : Glk (Tk cn G.K) (gat G 5) cg_added := glk_of (List.forall_mem_cons.mpr ⟨DOk.glob0 (ok_lowest h) (h.glo (fa h 18 rfl)) (by decide), (List.forall_mem_nil _)⟩) (h.frees (fa h 15 rfl)) (fun ci hci => (cid0 h ci hci).mono (by decide)) (knB_ok (fa h 1 rfl) (fa h 2 rfl) rfl rfl) (isaB_ok (fa h 1 rfl) (ba (fa h 2 rfl)).1 (fa h 16 rfl)) (by decide)
theorem bd_added : BindOk d_added ["one", "other"] := bind_N rfl fun _ _ _ _ _ _ _ us hl => match us, hl with | [_, _], _ => rfl
theorem c_added : mkDef N_added.length 2 (lsS (comp 40) ⟨cg_added, N_added, d_added.scope, fun _ => true, true⟩ d_added.body) = s_added := by kernel_rfl
theorem sc_added : FnScope N_added ["one", "other"] d_added.scope := ⟨rfl, rfl, rfl, by decide +kernel, by decide +kernel, by decide +kernel, by decide +kernel⟩
theorem ok_added {G : Gx} (h : HH G) : DOk (Tk cn G.K) G 6 (d_added.ad G.K) s_added 2 [] := by
  have e := h.says.fd 3 (d := d_added) rfl
  exact Eq.mp (congrArg (fun s => DOk (Tk cn G.K) G 6 (d_added.ad G.K) s 2 []) c_added) (FD.dok 40 e.1 e.2 rfl rfl sc_added bd_added (gl_added h))
/-! multiplied -/
theorem gl_multiplied {G : Gx} (h : HH G) : Glk (Tk cn G.K) (gat G 5) cg_multiplied := glk_of (List.forall_mem_cons.mpr ⟨DOk.glob0 (ok_lowest h) (h.glo (fa h 18 rfl)) (by decide), (List.forall_mem_nil _)⟩) (h.frees (fa h 15 rfl)) (fun ci hci => (cid0 h ci hci).mono (by decide)) (knB_ok (fa h 1 rfl) (fa h 2 rfl) rfl rfl) (isaB_ok (fa h 1 rfl) (ba (fa h 2 rfl)).1 (fa h 16 rfl)) (by decide)
theorem bd_multiplied : BindOk d_multiplied ["one", "other"] := bind_N rfl fun _ _ _ _ _ _ _ us hl => match us, hl with | [_, _], _ => rfl
theorem c_multiplied : mkDef N_multiplied.length 2 (lsS (comp 40) ⟨cg_multiplied, N_multiplied, d_multiplied.scope, fun _ => true, true⟩ d_multiplied.body) = s_multiplied := by kernel_rfl
theorem sc_multiplied : FnScope N_multiplied ["one", "other"] d_multiplied.scope := ⟨rfl, rfl, rfl, by decide +kernel, by decide +kernel, by decide +kernel, by decide +kernel⟩
theorem ok_multiplied {G : Gx} (h : HH G) : DOk (Tk cn G.K) G 6 (d_multiplied.ad G.K) s_multiplied 2 [] := by
  have e := h.says.fd 4 (d := d_multiplied) rfl
  exact Eq.mp (congrArg (fun s => DOk (Tk cn G.K) G 6 (d_multiplied.ad G.K) s 2 []) c_multiplied) (FD.dok 40 e.1 e.2 rfl rfl sc_multiplied bd_multiplied (gl_multiplied h))
/-! Ratio.__init__ -/
theorem gl_Ratio_init {G : Gx} (h : HH G) : Glk (Tk cn G.K) (gat G 5) cg_Ratio_init := glk_of (List.forall_mem_cons.mpr ⟨DOk.glob0 (ok_lowest h) (h.glo (fa h 18 rfl)) (by decide), (List.forall_mem_cons.mpr ⟨DOk.glob0 (ok_is_integer h) (h.glo (fa h 19 rfl)) (by decide), (List.forall_mem_cons.mpr ⟨exc_named (c := 6) (h.glo (fa h 20 rfl)) (exB_ok (fa h 21 rfl)), (List.forall_mem_nil _)⟩)⟩)⟩) (h.frees (fa h 15 rfl)) (fun ci hci => (cid0 h ci hci).mono (by decide)) (knB_ok (fa h 1 rfl) (fa h 2 rfl) rfl rfl) (isaB_ok (fa h 1 rfl) (ba (fa h 2 rfl)).1 (fa h 16 rfl)) (by decide)
theorem bd_Ratio_init : BindOk d_Ratio_init ["self", "numerator", "denominator"] := bind_D (by decide) fun r hr => match r, hr with
  | 0, _ => ⟨3, rfl, fun _ _ _ _ _ _ _ _ us its h1 h2 => match us, its, h1, h2 with | [a0, a1, a2], [w0], _, _ => ⟨_, rfl, rfl⟩⟩
  | 1, _ => ⟨2, rfl, fun _ _ _ _ _ _ _ _ us its h1 h2 => match us, its, h1, h2 with | [a0, a1], [w0], _, _ => ⟨_, rfl, rfl⟩⟩
  | _ + 2, z => absurd (show _ ≤ 1 from z) (by omega)
theorem c_Ratio_init : mkDef N_Ratio_init.length 3 (lsS (comp 40) ⟨cg_Ratio_init, N_Ratio_init, d_Ratio_init.scope, fun _ => true, true⟩ d_Ratio_init.body) = s_Ratio_init := by kernel_rfl
theorem sc_Ratio_init : FnScope N_Ratio_init ["self", "numerator", "denominator"] d_Ratio_init.scope := ⟨rfl, rfl, rfl, by decide +kernel, by decide +kernel, by decide +kernel, by decide +kernel⟩
theorem ok_Ratio_init {G : Gx} (h : HH G) : DOk (Tk cn G.K) G 6 (d_Ratio_init.ad G.K) s_Ratio_init 3 [.int 1] := by
  have e := h.says.fd 5 (d := d_Ratio_init) rfl
  exact Eq.mp (congrArg (fun s => DOk (Tk cn G.K) G 6 (d_Ratio_init.ad G.K) s 3 [.int 1]) c_Ratio_init) (FD.dok 40 e.1 e.2 rfl rfl sc_Ratio_init bd_Ratio_init (gl_Ratio_init h))
/-! pair_of -/
theorem gl_pair_of {G : Gx} (h : HH G) : Glk (Tk cn G.K) (gat G 7) cg_pair_of := glk_of (List.forall_mem_cons.mpr ⟨DOk.made (c := 0) (x := "Ratio") (j := 7) (ok_Ratio_init h) (mkB_ok (fa h 22 rfl)) (h.glo (fa h 23 rfl)) (by decide), (List.forall_mem_cons.mpr ⟨exc_named (c := 6) (h.glo (fa h 20 rfl)) (exB_ok (fa h 21 rfl)), (List.forall_mem_nil _)⟩)⟩) (h.frees (fa h 15 rfl)) (fun ci hci => (cid0 h ci hci).mono (by decide)) (knB_ok (fa h 1 rfl) (fa h 2 rfl) rfl rfl) (isaB_ok (fa h 1 rfl) (ba (fa h 2 rfl)).1 (fa h 16 rfl)) (by decide)
theorem bd_pair_of : BindOk d_pair_of ["value"] := bind_N rfl fun _ _ _ _ _ _ _ us hl => match us, hl with | [_], _ => rfl
theorem c_pair_of : mkDef N_pair_of.length 1 (lsS (comp 40) ⟨cg_pair_of, N_pair_of, d_pair_of.scope, fun _ => true, true⟩ d_pair_of.body) = s_pair_of := by kernel_rfl
theorem sc_pair_of : FnScope N_pair_of ["value"] d_pair_of.scope := ⟨rfl, rfl, rfl, by decide +kernel, by decide +kernel, by decide +kernel, by decide +kernel⟩
theorem ok_pair_of {G : Gx} (h : HH G) : DOk (Tk cn G.K) G 8 (d_pair_of.ad G.K) s_pair_of 1 [] := by
  have e := h.says.fd 6 (d := d_pair_of) rfl
  exact Eq.mp (congrArg (fun s => DOk (Tk cn G.K) G 8 (d_pair_of.ad G.K) s 1 []) c_pair_of) (FD.dok 40 e.1 e.2 rfl rfl sc_pair_of bd_pair_of (gl_pair_of h))
/-! ratio_of -/
theorem gl_ratio_of {G : Gx} (h : HH G) : Glk (Tk cn G.K) (gat G 7) cg_ratio_of := glk_of (List.forall_mem_cons.mpr ⟨DOk.made (c := 0) (x := "Ratio") (j := 7) (ok_Ratio_init h) (mkB_ok (fa h 22 rfl)) (h.glo (fa h 23 rfl)) (by decide), (List.forall_mem_nil _)⟩) (h.frees (fa h 15 rfl)) (fun ci hci => (cid0 h ci hci).mono (by decide)) (knB_ok (fa h 1 rfl) (fa h 2 rfl) rfl rfl) (isaB_ok (fa h 1 rfl) (ba (fa h 2 rfl)).1 (fa h 16 rfl)) (by decide)
theorem bd_ratio_of : BindOk d_ratio_of ["pair"] := bind_N rfl fun _ _ _ _ _ _ _ us hl => match us, hl with | [_], _ => rfl
theorem c_ratio_of : mkDef N_ratio_of.length 1 (lsS (comp 40) ⟨cg_ratio_of, N_ratio_of, d_ratio_of.scope, fun _ => true, true⟩ d_ratio_of.body) = s_ratio_of := by kernel_rfl
theorem sc_ratio_of : FnScope N_ratio_of ["pair"] d_ratio_of.scope := ⟨rfl, rfl, rfl, by decide +kernel, by decide +kernel, by decide +kernel, by decide +kernel⟩
theorem ok_ratio_of {G : Gx} (h : HH G) : DOk (Tk cn G.K) G 8 (d_ratio_of.ad G.K) s_ratio_of 1 [] := by
  have e := h.says.fd 7 (d := d_ratio_of) rfl
  exact Eq.mp (congrArg (fun s => DOk (Tk cn G.K) G 8 (d_ratio_of.ad G.K) s 1 []) c_ratio_of) (FD.dok 40 e.1 e.2 rfl rfl sc_ratio_of bd_ratio_of (gl_ratio_of h))
/-! Ratio.top -/
theorem gl_Ratio_top {G : Gx} (h : HH G) : Glk (Tk cn G.K) (gat G 1) cg_Ratio_top := glk_of (List.forall_mem_nil _) (h.frees (fa h 15 rfl)) (fun ci hci => (cid0 h ci hci).mono (by decide)) (knB_ok (fa h 1 rfl) (fa h 2 rfl) rfl rfl) (isaB_ok (fa h 1 rfl) (ba (fa h 2 rfl)).1 (fa h 16 rfl)) (by decide)
theorem bd_Ratio_top : BindOk d_Ratio_top ["self"] := bind_N rfl fun _ _ _ _ _ _ _ us hl => match us, hl with | [_], _ => rfl
theorem c_Ratio_top : mkDef N_Ratio_top.length 1 (lsS (comp 40) ⟨cg_Ratio_top, N_Ratio_top, d_Ratio_top.scope, fun _ => true, true⟩ d_Ratio_top.body) = s_Ratio_top := by kernel_rfl
theorem sc_Ratio_top : FnScope N_Ratio_top ["self"] d_Ratio_top.scope := ⟨rfl, rfl, rfl, by decide +kernel, by decide +kernel, by decide +kernel, by decide +kernel⟩
theorem ok_Ratio_top {G : Gx} (h : HH G) : DOk (Tk cn G.K) G 2 (d_Ratio_top.ad G.K) s_Ratio_top 1 [] := by
  have e := h.says.fd 8 (d := d_Ratio_top) rfl
  exact Eq.mp (congrArg (fun s => DOk (Tk cn G.K) G 2 (d_Ratio_top.ad G.K) s 1 []) c_Ratio_top) (FD.dok 40 e.1 e.2 rfl rfl sc_Ratio_top bd_Ratio_top (gl_Ratio_top h))
/-! Ratio.bottom -/
theorem gl_Ratio_bottom {G : Gx} (h : HH G) : Glk (Tk cn G.K) (gat G 1) cg_Ratio_bottom := glk_of (List.forall_mem_nil _) (h.frees (fa h 15 rfl)) (fun ci hci => (cid0 h ci hci).mono (by decide)) (knB_ok (fa h 1 rfl) (fa h 2 rfl) rfl rfl) (isaB_ok (fa h 1 rfl) (ba (fa h 2 rfl)).1 (fa h 16 rfl)) (by decide)
theorem bd_Ratio_bottom : BindOk d_Ratio_bottom ["self"] := bind_N rfl fun _ _ _ _ _ _ _ us hl => match us, hl with | [_], _ => rfl
theorem c_Ratio_bottom : mkDef N_Ratio_bottom.length 1 (lsS (comp 40) ⟨cg_Ratio_bottom, N_Ratio_bottom, d_Ratio_bottom.scope, fun _ => true, true⟩ d_Ratio_bottom.body) = s_Ratio_bottom := by kernel_rfl
theorem sc_Ratio_bottom : FnScope N_Ratio_bottom ["self"] d_Ratio_bottom.scope := ⟨rfl, rfl, rfl, by decide +kernel, by decide +kernel, by decide +kernel, by decide +kernel⟩
theorem ok_Ratio_bottom {G : Gx} (h : HH G) : DOk (Tk cn G.K) G 2 (d_Ratio_bottom.ad G.K) s_Ratio_bottom 1 [] := by
  have e := h.says.fd 9 (d := d_Ratio_bottom) rfl
  exact Eq.mp (congrArg (fun s => DOk (Tk cn G.K) G 2 (d_Ratio_bottom.ad G.K) s 1 []) c_Ratio_bottom) (FD.dok 40 e.1 e.2 rfl rfl sc_Ratio_bottom bd_Ratio_bottom (gl_Ratio_bottom h))
/-! Ratio.__eq__ -/
theorem gl_Ratio_eq {G : Gx} (h : HH G) : Glk (Tk cn G.K) (gat G 7) cg_Ratio_eq := glk_of (List.forall_mem_cons.mpr ⟨DOk.made (c := 0) (x := "Ratio") (j := 7) (ok_Ratio_init h) (mkB_ok (fa h 22 rfl)) (h.glo (fa h 23 rfl)) (by decide), (List.forall_mem_nil _)⟩) (h.frees (fa h 15 rfl)) (fun ci hci => (cid0 h ci hci).mono (by decide)) (knB_ok (fa h 1 rfl) (fa h 2 rfl) rfl rfl) (isaB_ok (fa h 1 rfl) (ba (fa h 2 rfl)).1 (fa h 16 rfl)) (by decide)
theorem bd_Ratio_eq : BindOk d_Ratio_eq ["self", "other"] := bind_N rfl fun _ _ _ _ _ _ _ us hl => match us, hl with | [_, _], _ => rfl
theorem c_Ratio_eq : mkDef N_Ratio_eq.length 2 (lsS (comp 40) ⟨cg_Ratio_eq, N_Ratio_eq, d_Ratio_eq.scope, fun _ => true, true⟩ d_Ratio_eq.body) = s_Ratio_eq := by kernel_rfl
theorem sc_Ratio_eq : FnScope N_Ratio_eq ["self", "other"] d_Ratio_eq.scope := ⟨rfl, rfl, rfl, by decide +kernel, by decide +kernel, by decide +kernel, by decide +kernel⟩
theorem ok_Ratio_eq {G : Gx} (h : HH G) : DOk (Tk cn G.K) G 8 (d_Ratio_eq.ad G.K) s_Ratio_eq 2 [] := by
  have e := h.says.fd 10 (d := d_Ratio_eq) rfl
  exact Eq.mp (congrArg (fun s => DOk (Tk cn G.K) G 8 (d_Ratio_eq.ad G.K) s 2 []) c_Ratio_eq) (FD.dok 40 e.1 e.2 rfl rfl sc_Ratio_eq bd_Ratio_eq (gl_Ratio_eq h))
/-! Ratio.__add__ -/
theorem gl_Ratio_add {G : Gx} (h : HH G) : Glk (Tk cn G.K) (gat G 9) cg_Ratio_add := glk_of (List.forall_mem_cons.mpr ⟨DOk.glob0 (ok_ratio_of h) (h.glo (fa h 24 rfl)) (by decide), (List.forall_mem_cons.mpr ⟨DOk.glob0 (ok_added h) (h.glo (fa h 25 rfl)) (by decide), (List.forall_mem_cons.mpr ⟨DOk.glob0 (ok_pair_of h) (h.glo (fa h 26 rfl)) (by decide), (List.forall_mem_nil _)⟩)⟩)⟩) (h.frees (fa h 15 rfl)) (fun ci hci => (cid0 h ci hci).mono (by decide)) (knB_ok (fa h 1 rfl) (fa h 2 rfl) rfl rfl) (isaB_ok (fa h 1 rfl) (ba (fa h 2 rfl)).1 (fa h 16 rfl)) (by decide)
theorem bd_Ratio_add : BindOk d_Ratio_add ["self", "other"] := bind_N rfl fun _ _ _ _ _ _ _ us hl => match us, hl with | [_, _], _ => rfl
theorem c_Ratio_add : mkDef N_Ratio_add.length 2 (lsS (comp 40) ⟨cg_Ratio_add, N_Ratio_add, d_Ratio_add.scope, fun _ => true, true⟩ d_Ratio_add.body) = s_Ratio_add := by kernel_rfl
theorem sc_Ratio_add : FnScope N_Ratio_add ["self", "other"] d_Ratio_add.scope := ⟨rfl, rfl, rfl, by decide +kernel, by decide +kernel, by decide +kernel, by decide +kernel⟩
theorem ok_Ratio_add {G : Gx} (h : HH G) : DOk (Tk cn G.K) G 10 (d_Ratio_add.ad G.K) s_Ratio_add 2 [] := by
  have e := h.says.fd 11 (d := d_Ratio_add) rfl
  exact Eq.mp (congrArg (fun s => DOk (Tk cn G.K) G 10 (d_Ratio_add.ad G.K) s 2 []) c_Ratio_add) (FD.dok 40 e.1 e.2 rfl rfl sc_Ratio_add bd_Ratio_add (gl_Ratio_add h))
/-! Ratio.__sub__ -/
theorem gl_Ratio_sub {G : Gx} (h : HH G) : Glk (Tk cn G.K) (gat G 9) cg_Ratio_sub := glk_of (List.forall_mem_cons.mpr ⟨DOk.glob0 (ok_ratio_of h) (h.glo (fa h 24 rfl)) (by decide), (List.forall_mem_cons.mpr ⟨DOk.glob0 (ok_added h) (h.glo (fa h 25 rfl)) (by decide), (List.forall_mem_cons.mpr ⟨DOk.glob0 (ok_pair_of h) (h.glo (fa h 26 rfl)) (by decide), (List.forall_mem_nil _)⟩)⟩)⟩) (h.frees (fa h 15 rfl)) (fun ci hci => (cid0 h ci hci).mono (by decide)) (knB_ok (fa h 1 rfl) (fa h 2 rfl) rfl rfl) (isaB_ok (fa h 1 rfl) (ba (fa h 2 rfl)).1 (fa h 16 rfl)) (by decide)
theorem bd_Ratio_sub : BindOk d_Ratio_sub ["self", "other"] := bind_N rfl fun _ _ _ _ _ _ _ us hl => match us, hl with | [_, _], _ => rfl
theorem c_Ratio_sub : mkDef N_Ratio_sub.length 2 (lsS (comp 40) ⟨cg_Ratio_sub, N_Ratio_sub, d_Ratio_sub.scope, fun _ => true, true⟩ d_Ratio_sub.body) = s_Ratio_sub := by kernel_rfl
theorem sc_Ratio_sub : FnScope N_Ratio_sub ["self", "other"] d_Ratio_sub.scope := ⟨rfl, rfl, rfl, by decide +kernel, by decide +kernel, by decide +kernel, by decide +kernel⟩
theorem ok_Ratio_sub {G : Gx} (h : HH G) : DOk (Tk cn G.K) G 10 (d_Ratio_sub.ad G.K) s_Ratio_sub 2 [] := by
  have e := h.says.fd 12 (d := d_Ratio_sub) rfl
  exact Eq.mp (congrArg (fun s => DOk (Tk cn G.K) G 10 (d_Ratio_sub.ad G.K) s 2 []) c_Ratio_sub) (FD.dok 40 e.1 e.2 rfl rfl sc_Ratio_sub bd_Ratio_sub (gl_Ratio_sub h))
/-! Ratio.__mul__ -/
theorem gl_Ratio_mul {G : Gx} (h : HH G) : Glk (Tk cn G.K) (gat G 9) cg_Ratio_mul := glk_of (List.forall_mem_cons.mpr ⟨DOk.glob0 (ok_ratio_of h) (h.glo (fa h 24 rfl)) (by decide), (List.forall_mem_cons.mpr ⟨DOk.glob0 (ok_multiplied h) (h.glo (fa h 27 rfl)) (by decide), (List.forall_mem_cons.mpr ⟨DOk.glob0 (ok_pair_of h) (h.glo (fa h 26 rfl)) (by decide), (List.forall_mem_nil _)⟩)⟩)⟩) (h.frees (fa h 15 rfl)) (fun ci hci => (cid0 h ci hci).mono (by decide)) (knB_ok (fa h 1 rfl) (fa h 2 rfl) rfl rfl) (isaB_ok (fa h 1 rfl) (ba (fa h 2 rfl)).1 (fa h 16 rfl)) (by decide)
theorem bd_Ratio_mul : BindOk d_Ratio_mul ["self", "other"] := bind_N rfl fun _ _ _ _ _ _ _ us hl => match us, hl with | [_, _], _ => rfl
theorem c_Ratio_mul : mkDef N_Ratio_mul.length 2 (lsS (comp 40) ⟨cg_Ratio_mul, N_Ratio_mul, d_Ratio_mul.scope, fun _ => true, true⟩ d_Ratio_mul.body) = s_Ratio_mul := by kernel_rfl
theorem sc_Ratio_mul : FnScope N_Ratio_mul ["self", "other"] d_Ratio_mul.scope := ⟨rfl, rfl, rfl, by decide +kernel, by decide +kernel, by decide +kernel, by decide +kernel⟩
theorem ok_Ratio_mul {G : Gx} (h : HH G) : DOk (Tk cn G.K) G 10 (d_Ratio_mul.ad G.K) s_Ratio_mul 2 [] := by
  have e := h.says.fd 13 (d := d_Ratio_mul) rfl
  exact Eq.mp (congrArg (fun s => DOk (Tk cn G.K) G 10 (d_Ratio_mul.ad G.K) s 2 []) c_Ratio_mul) (FD.dok 40 e.1 e.2 rfl rfl sc_Ratio_mul bd_Ratio_mul (gl_Ratio_mul h))
/-! Ratio.__neg__ -/
theorem gl_Ratio_neg {G : Gx} (h : HH G) : Glk (Tk cn G.K) (gat G 9) cg_Ratio_neg := glk_of (List.forall_mem_cons.mpr ⟨DOk.glob0 (ok_ratio_of h) (h.glo (fa h 24 rfl)) (by decide), (List.forall_mem_nil _)⟩) (h.frees (fa h 15 rfl)) (fun ci hci => (cid0 h ci hci).mono (by decide)) (knB_ok (fa h 1 rfl) (fa h 2 rfl) rfl rfl) (isaB_ok (fa h 1 rfl) (ba (fa h 2 rfl)).1 (fa h 16 rfl)) (by decide)
theorem bd_Ratio_neg : BindOk d_Ratio_neg ["self"] := bind_N rfl fun _ _ _ _ _ _ _ us hl => match us, hl with | [_], _ => rfl
theorem c_Ratio_neg : mkDef N_Ratio_neg.length 1 (lsS (comp 40) ⟨cg_Ratio_neg, N_Ratio_neg, d_Ratio_neg.scope, fun _ => true, true⟩ d_Ratio_neg.body) = s_Ratio_neg := by kernel_rfl
theorem sc_Ratio_neg : FnScope N_Ratio_neg ["self"] d_Ratio_neg.scope := ⟨rfl, rfl, rfl, by decide +kernel, by decide +kernel, by decide +kernel, by decide +kernel⟩
theorem ok_Ratio_neg {G : Gx} (h : HH G) : DOk (Tk cn G.K) G 10 (d_Ratio_neg.ad G.K) s_Ratio_neg 1 [] := by
  have e := h.says.fd 14 (d := d_Ratio_neg) rfl
  exact Eq.mp (congrArg (fun s => DOk (Tk cn G.K) G 10 (d_Ratio_neg.ad G.K) s 1 []) c_Ratio_neg) (FD.dok 40 e.1 e.2 rfl rfl sc_Ratio_neg bd_Ratio_neg (gl_Ratio_neg h))
/-! Ratio.__le__ -/
theorem gl_Ratio_le {G : Gx} (h : HH G) : Glk (Tk cn G.K) (gat G 9) cg_Ratio_le := glk_of (List.forall_mem_cons.mpr ⟨DOk.glob0 (ok_pair_of h) (h.glo (fa h 26 rfl)) (by decide), (List.forall_mem_nil _)⟩) (h.frees (fa h 15 rfl)) (fun ci hci => (cid0 h ci hci).mono (by decide)) (knB_ok (fa h 1 rfl) (fa h 2 rfl) rfl rfl) (isaB_ok (fa h 1 rfl) (ba (fa h 2 rfl)).1 (fa h 16 rfl)) (by decide)
theorem bd_Ratio_le : BindOk d_Ratio_le ["self", "other"] := bind_N rfl fun _ _ _ _ _ _ _ us hl => match us, hl with | [_, _], _ => rfl
theorem c_Ratio_le : mkDef N_Ratio_le.length 2 (lsS (comp 40) ⟨cg_Ratio_le, N_Ratio_le, d_Ratio_le.scope, fun _ => true, true⟩ d_Ratio_le.body) = s_Ratio_le := by kernel_rfl
theorem sc_Ratio_le : FnScope N_Ratio_le ["self", "other"] d_Ratio_le.scope := ⟨rfl, rfl, rfl, by decide +kernel, by decide +kernel, by decide +kernel, by decide +kernel⟩
theorem ok_Ratio_le {G : Gx} (h : HH G) : DOk (Tk cn G.K) G 10 (d_Ratio_le.ad G.K) s_Ratio_le 2 [] := by
  have e := h.says.fd 15 (d := d_Ratio_le) rfl
  exact Eq.mp (congrArg (fun s => DOk (Tk cn G.K) G 10 (d_Ratio_le.ad G.K) s 2 []) c_Ratio_le) (FD.dok 40 e.1 e.2 rfl rfl sc_Ratio_le bd_Ratio_le (gl_Ratio_le h))
/-! floor_of -/
theorem gl_floor_of {G : Gx} (h : HH G) : Glk (Tk cn G.K) (gat G 1) cg_floor_of := glk_of (List.forall_mem_nil _) (h.frees (fa h 15 rfl)) (fun ci hci => (cid0 h ci hci).mono (by decide)) (knB_ok (fa h 1 rfl) (fa h 2 rfl) rfl rfl) (isaB_ok (fa h 1 rfl) (ba (fa h 2 rfl)).1 (fa h 16 rfl)) (by decide)
theorem bd_floor_of : BindOk d_floor_of ["pair"] := bind_N rfl fun _ _ _ _ _ _ _ us hl => match us, hl with | [_], _ => rfl
theorem c_floor_of : mkDef N_floor_of.length 1 (lsS (comp 40) ⟨cg_floor_of, N_floor_of, d_floor_of.scope, fun _ => true, true⟩ d_floor_of.body) = s_floor_of := by kernel_rfl
theorem sc_floor_of : FnScope N_floor_of ["pair"] d_floor_of.scope := ⟨rfl, rfl, rfl, by decide +kernel, by decide +kernel, by decide +kernel, by decide +kernel⟩
theorem ok_floor_of {G : Gx} (h : HH G) : DOk (Tk cn G.K) G 2 (d_floor_of.ad G.K) s_floor_of 1 [] := by
  have e := h.says.fd 16 (d := d_floor_of) rfl
  exact Eq.mp (congrArg (fun s => DOk (Tk cn G.K) G 2 (d_floor_of.ad G.K) s 1 []) c_floor_of) (FD.dok 40 e.1 e.2 rfl rfl sc_floor_of bd_floor_of (gl_floor_of h))
/-! turned -/
theorem gl_turned {G : Gx} (h : HH G) : Glk (Tk cn G.K) (gat G 1) cg_turned := glk_of (List.forall_mem_nil _) (h.frees (fa h 15 rfl)) (fun ci hci => (cid0 h ci hci).mono (by decide)) (knB_ok (fa h 1 rfl) (fa h 2 rfl) rfl rfl) (isaB_ok (fa h 1 rfl) (ba (fa h 2 rfl)).1 (fa h 16 rfl)) (by decide)
theorem bd_turned : BindOk d_turned ["pair"] := bind_N rfl fun _ _ _ _ _ _ _ us hl => match us, hl with | [_], _ => rfl
theorem c_turned : mkDef N_turned.length 1 (lsS (comp 40) ⟨cg_turned, N_turned, d_turned.scope, fun _ => true, true⟩ d_turned.body) = s_turned := by kernel_rfl
theorem sc_turned : FnScope N_turned ["pair"] d_turned.scope := ⟨rfl, rfl, rfl, by decide +kernel, by decide +kernel, by decide +kernel, by decide +kernel⟩
theorem ok_turned {G : Gx} (h : HH G) : DOk (Tk cn G.K) G 2 (d_turned.ad G.K) s_turned 1 [] := by
  have e := h.says.fd 17 (d := d_turned) rfl
  exact Eq.mp (congrArg (fun s => DOk (Tk cn G.K) G 2 (d_turned.ad G.K) s 1 []) c_turned) (FD.dok 40 e.1 e.2 rfl rfl sc_turned bd_turned (gl_turned h))
/-! rounded -/
theorem gl_rounded {G : Gx} (h : HH G) : Glk (Tk cn G.K) (gat G 7) cg_rounded := glk_of (List.forall_mem_cons.mpr ⟨DOk.glob0 (ok_added h) (h.glo (fa h 25 rfl)) (by decide), (List.forall_mem_cons.mpr ⟨DOk.glob0 (ok_floor_of h) (h.glo (fa h 28 rfl)) (by decide), (List.forall_mem_nil _)⟩)⟩) (h.frees (fa h 15 rfl)) (fun ci hci => (cid0 h ci hci).mono (by decide)) (knB_ok (fa h 1 rfl) (fa h 2 rfl) rfl rfl) (isaB_ok (fa h 1 rfl) (ba (fa h 2 rfl)).1 (fa h 16 rfl)) (by decide)
theorem bd_rounded : BindOk d_rounded ["pair", "mode"] := bind_N rfl fun _ _ _ _ _ _ _ us hl => match us, hl with | [_, _], _ => rfl
theorem c_rounded : mkDef N_rounded.length 2 (lsS (comp 40) ⟨cg_rounded, N_rounded, d_rounded.scope, fun _ => true, true⟩ d_rounded.body) = s_rounded := by kernel_rfl
theorem sc_rounded : FnScope N_rounded ["pair", "mode"] d_rounded.scope := ⟨rfl, rfl, rfl, by decide +kernel, by decide +kernel, by decide +kernel, by decide +kernel⟩
theorem ok_rounded {G : Gx} (h : HH G) : DOk (Tk cn G.K) G 8 (d_rounded.ad G.K) s_rounded 2 [] := by
  have e := h.says.fd 18 (d := d_rounded) rfl
  exact Eq.mp (congrArg (fun s => DOk (Tk cn G.K) G 8 (d_rounded.ad G.K) s 2 []) c_rounded) (FD.dok 40 e.1 e.2 rfl rfl sc_rounded bd_rounded (gl_rounded h))
/-! done -/
theorem gl_done {G : Gx} (h : HH G) : Glk (Tk cn G.K) (gat G 9) cg_done := glk_of (List.forall_mem_cons.mpr ⟨DOk.glob0 (ok_multiplied h) (h.glo (fa h 27 rfl)) (by decide), (List.forall_mem_cons.mpr ⟨DOk.glob0 (ok_rounded h) (h.glo (fa h 29 rfl)) (by decide), (List.forall_mem_cons.mpr ⟨DOk.glob0 (ok_turned h) (h.glo (fa h 30 rfl)) (by decide), (List.forall_mem_cons.mpr ⟨DOk.glob0 (ok_added h) (h.glo (fa h 25 rfl)) (by decide), (List.forall_mem_nil _)⟩)⟩)⟩)⟩) (h.frees (fa h 15 rfl)) (fun ci hci => (cid0 h ci hci).mono (by decide)) (knB_ok (fa h 1 rfl) (fa h 2 rfl) rfl rfl) (isaB_ok (fa h 1 rfl) (ba (fa h 2 rfl)).1 (fa h 16 rfl)) (by decide)
theorem bd_done : BindOk d_done ["word", "number", "rule", "pair"] := bind_N rfl fun _ _ _ _ _ _ _ us hl => match us, hl with | [_, _, _, _], _ => rfl
theorem c_done : mkDef N_done.length 4 (lsS (comp 40) ⟨cg_done, N_done, d_done.scope, fun _ => true, true⟩ d_done.body) = s_done := by kernel_rfl
theorem sc_done : FnScope N_done ["word", "number", "rule", "pair"] d_done.scope := ⟨rfl, rfl, rfl, by decide +kernel, by decide +kernel, by decide +kernel, by decide +kernel⟩
theorem ok_done {G : Gx} (h : HH G) : DOk (Tk cn G.K) G 10 (d_done.ad G.K) s_done 4 [] := by
  have e := h.says.fd 19 (d := d_done) rfl
  exact Eq.mp (congrArg (fun s => DOk (Tk cn G.K) G 10 (d_done.ad G.K) s 4 []) c_done) (FD.dok 40 e.1 e.2 rfl rfl sc_done bd_done (gl_done h))
/-! is_small -/
theorem gl_is_small {G : Gx} (h : HH G) : Glk (Tk cn G.K) (gat G 7) cg_is_small := glk_of (List.forall_mem_cons.mpr ⟨h.int (fa h 31 rfl), (List.forall_mem_cons.mpr ⟨DOk.made (c := 0) (x := "Ratio") (j := 7) (ok_Ratio_init h) (mkB_ok (fa h 22 rfl)) (h.glo (fa h 23 rfl)) (by decide), (List.forall_mem_nil _)⟩)⟩) (h.frees (fa h 15 rfl)) (fun ci hci => (cid0 h ci hci).mono (by decide)) (knB_ok (fa h 1 rfl) (fa h 2 rfl) rfl rfl) (isaB_ok (fa h 1 rfl) (ba (fa h 2 rfl)).1 (fa h 16 rfl)) (by decide)
theorem bd_is_small : BindOk d_is_small ["value"] := bind_N rfl fun _ _ _ _ _ _ _ us hl => match us, hl with | [_], _ => rfl
theorem c_is_small : mkDef N_is_small.length 1 (lsS (comp 40) ⟨cg_is_small, N_is_small, d_is_small.scope, fun _ => true, true⟩ d_is_small.body) = s_is_small := by kernel_rfl
theorem sc_is_small : FnScope N_is_small ["value"] d_is_small.scope := ⟨rfl, rfl, rfl, by decide +kernel, by decide +kernel, by decide +kernel, by decide +kernel⟩
theorem ok_is_small {G : Gx} (h : HH G) : DOk (Tk cn G.K) G 8 (d_is_small.ad G.K) s_is_small 1 [] := by
  have e := h.says.fd 20 (d := d_is_small) rfl
  exact Eq.mp (congrArg (fun s => DOk (Tk cn G.K) G 8 (d_is_small.ad G.K) s 1 []) c_is_small) (FD.dok 40 e.1 e.2 rfl rfl sc_is_small bd_is_small (gl_is_small h))
/-! Step.__init__ -/
theorem gl_Step_init {G : Gx} (h : HH G) : Glk (Tk cn G.K) (gat G 1) cg_Step_init := glk_of (List.forall_mem_nil _) (h.frees (fa h 15 rfl)) (fun ci hci => (cid0 h ci hci).mono (by decide)) (knB_ok (fa h 1 rfl) (fa h 2 rfl) rfl rfl) (isaB_ok (fa h 1 rfl) (ba (fa h 2 rfl)).1 (fa h 16 rfl)) (by decide)
theorem bd_Step_init : BindOk d_Step_init ["self", "pair", "mode"] := bind_N rfl fun _ _ _ _ _ _ _ us hl => match us, hl with | [_, _, _], _ => rfl
theorem c_Step_init : mkDef N_Step_init.length 3 (lsS (comp 40) ⟨cg_Step_init, N_Step_init, d_Step_init.scope, fun _ => true, true⟩ d_Step_init.body) = s_Step_init := by kernel_rfl
theorem sc_Step_init : FnScope N_Step_init ["self", "pair", "mode"] d_Step_init.scope := ⟨rfl, rfl, rfl, by decide +kernel, by decide +kernel, by decide +kernel, by decide +kernel⟩
theorem ok_Step_init {G : Gx} (h : HH G) : DOk (Tk cn G.K) G 2 (d_Step_init.ad G.K) s_Step_init 3 [] := by
  have e := h.says.fd 21 (d := d_Step_init) rfl
  exact Eq.mp (congrArg (fun s => DOk (Tk cn G.K) G 2 (d_Step_init.ad G.K) s 3 []) c_Step_init) (FD.dok 40 e.1 e.2 rfl rfl sc_Step_init bd_Step_init (gl_Step_init h))
/-! Step.listed -/
theorem gl_Step_listed {G : Gx} (h : HH G) : Glk (Tk cn G.K) (gat G 1) cg_Step_listed := glk_of (List.forall_mem_nil _) (h.frees (fa h 15 rfl)) (fun ci hci => (cid0 h ci hci).mono (by decide)) (knB_ok (fa h 1 rfl) (fa h 2 rfl) rfl rfl) (isaB_ok (fa h 1 rfl) (ba (fa h 2 rfl)).1 (fa h 16 rfl)) (by decide)
theorem bd_Step_listed : BindOk d_Step_listed ["self"] := bind_N rfl fun _ _ _ _ _ _ _ us hl => match us, hl with | [_], _ => rfl
theorem c_Step_listed : mkDef N_Step_listed.length 1 (lsS (comp 40) ⟨cg_Step_listed, N_Step_listed, d_Step_listed.scope, fun _ => true, true⟩ d_Step_listed.body) = s_Step_listed := by kernel_rfl
theorem sc_Step_listed : FnScope N_Step_listed ["self"] d_Step_listed.scope := ⟨rfl, rfl, rfl, by decide +kernel, by decide +kernel, by decide +kernel, by decide +kernel⟩
theorem ok_Step_listed {G : Gx} (h : HH G) : DOk (Tk cn G.K) G 2 (d_Step_listed.ad G.K) s_Step_listed 1 [] := by
  have e := h.says.fd 22 (d := d_Step_listed) rfl
  exact Eq.mp (congrArg (fun s => DOk (Tk cn G.K) G 2 (d_Step_listed.ad G.K) s 1 []) c_Step_listed) (FD.dok 40 e.1 e.2 rfl rfl sc_Step_listed bd_Step_listed (gl_Step_listed h))
/-! Step.__call__ -/
theorem gl_Step_call {G : Gx} (h : HH G) : Glk (Tk cn G.K) (gat G 11) cg_Step_call := glk_of (List.forall_mem_cons.mpr ⟨DOk.glob0 (ok_ratio_of h) (h.glo (fa h 24 rfl)) (by decide), (List.forall_mem_cons.mpr ⟨DOk.glob0 (ok_done h) (h.glo (fa h 32 rfl)) (by decide), (List.forall_mem_cons.mpr ⟨DOk.made (c := 0) (x := "Ratio") (j := 11) (ok_Ratio_init h) (mkB_ok (fa h 22 rfl)) (h.glo (fa h 23 rfl)) (by decide), (List.forall_mem_cons.mpr ⟨exc_named (c := 6) (h.glo (fa h 20 rfl)) (exB_ok (fa h 21 rfl)), (List.forall_mem_nil _)⟩)⟩)⟩)⟩) (h.frees (fa h 15 rfl)) (fun ci hci => (cid0 h ci hci).mono (by decide)) (knB_ok (fa h 1 rfl) (fa h 2 rfl) rfl rfl) (isaB_ok (fa h 1 rfl) (ba (fa h 2 rfl)).1 (fa h 16 rfl)) (by decide)
theorem bd_Step_call : BindOk d_Step_call ["self", "value"] := bind_N rfl fun _ _ _ _ _ _ _ us hl => match us, hl with | [_, _], _ => rfl
theorem c_Step_call : mkDef N_Step_call.length 2 (lsS (comp 40) ⟨cg_Step_call, N_Step_call, d_Step_call.scope, fun _ => true, true⟩ d_Step_call.body) = s_Step_call := by kernel_rfl
theorem sc_Step_call : FnScope N_Step_call ["self", "value"] d_Step_call.scope := ⟨rfl, rfl, rfl, by decide +kernel, by decide +kernel, by decide +kernel, by decide +kernel⟩
theorem ok_Step_call {G : Gx} (h : HH G) : DOk (Tk cn G.K) G 12 (d_Step_call.ad G.K) s_Step_call 2 [] := by
  have e := h.says.fd 23 (d := d_Step_call) rfl
  exact Eq.mp (congrArg (fun s => DOk (Tk cn G.K) G 12 (d_Step_call.ad G.K) s 2 []) c_Step_call) (FD.dok 40 e.1 e.2 rfl rfl sc_Step_call bd_Step_call (gl_Step_call h))
/-! Scale.__init__ -/
theorem gl_Scale_init {G : Gx} (h : HH G) : Glk (Tk cn G.K) (gat G 9) cg_Scale_init := glk_of (List.forall_mem_cons.mpr ⟨DOk.glob0 (ok_is_small h) (h.glo (fa h 33 rfl)) (by decide), (List.forall_mem_cons.mpr ⟨exc_named (c := 7) (h.glo (fa h 34 rfl)) (exB_ok (fa h 35 rfl)), (List.forall_mem_nil _)⟩)⟩) (h.frees (fa h 15 rfl)) (fun ci hci => (cid0 h ci hci).mono (by decide)) (knB_ok (fa h 1 rfl) (fa h 2 rfl) rfl rfl) (isaB_ok (fa h 1 rfl) (ba (fa h 2 rfl)).1 (fa h 16 rfl)) (by decide)
theorem bd_Scale_init : BindOk d_Scale_init ["self", "ratio"] := bind_N rfl fun _ _ _ _ _ _ _ us hl => match us, hl with | [_, _], _ => rfl
theorem c_Scale_init : mkDef N_Scale_init.length 2 (sSeq (lsS (comp 40) ⟨cg_Scale_init, N_Scale_init, d_Scale_init.scope, fun _ => false, true⟩ (d_Scale_init.body.take 1)) (Mi.sExpr (mSuper 2 (semCall s_Step_init 3 []) (lsE (comp 40) ⟨cg_Scale_init, N_Scale_init, d_Scale_init.scope, fun _ => false, true⟩ (supArgs d_Scale_init.body))))) = mkDef N_Scale_init.length 2 (sSeq (lsS (comp 40) ⟨cg_Scale_init, N_Scale_init, d_Scale_init.scope, fun _ => false, true⟩ (d_Scale_init.body.take 1)) (Mi.sExpr (mSuper 2 e_Step_init (lsE (comp 40) ⟨cg_Scale_init, N_Scale_init, d_Scale_init.scope, fun _ => false, true⟩ (supArgs d_Scale_init.body))))) := by rw [show semCall s_Step_init 3 [] = e_Step_init from semCall_nil]
theorem c2_Scale_init : mkDef N_Scale_init.length 2 (sSeq (lsS (comp 40) ⟨cg_Scale_init, N_Scale_init, d_Scale_init.scope, fun _ => false, true⟩ (d_Scale_init.body.take 1)) (Mi.sExpr (mSuper 2 e_Step_init (lsE (comp 40) ⟨cg_Scale_init, N_Scale_init, d_Scale_init.scope, fun _ => false, true⟩ (supArgs d_Scale_init.body))))) = s_Scale_init := by kernel_rfl
theorem sc_Scale_init : NdefX.NScope N_Scale_init ["self", "ratio"] ["__class__"] d_Scale_init.scope := NdefX.nscope_by (by kernel_rfl)
theorem ok_Scale_init {G : Gx} (h : HH G) : DOk (Tk cn G.K) G 10 (d_Scale_init.ad G.K) s_Scale_init 2 [] := by
  have e := h.says.fd 24 (d := d_Scale_init) rfl
  have q := FD.dokS (T := Tk cn G.K) (c := 2) (pre := d_Scale_init.body.take 1) (N := N_Scale_init) (ps := ["self", "ratio"]) (g := cg_Scale_init) (k := 9) (slf := "self") (m := "__init__") 40 e.1 e.2 rfl bd_Scale_init (by rfl) (by rw [h.P]; exact (fa h 36 rfl)) (h.fre (x := "super") (frees_at (fa h 15 rfl) (by decide))) (by rw [h.P]; exact top0) sc_Scale_init (by decide +kernel) (by decide +kernel) (by decide +kernel) (by decide +kernel) (by decide) (by decide) (by rfl) (gl_Scale_init h) (ok_Step_init h) (by decide)
  exact Eq.mp (congrArg (fun s => DOk (Tk cn G.K) G 10 (d_Scale_init.ad G.K) s 2 []) ((c_Scale_init).trans c2_Scale_init)) q
/-! Scale.ratio -/
theorem gl_Scale_ratio {G : Gx} (h : HH G) : Glk (Tk cn G.K) (gat G 9) cg_Scale_ratio := glk_of (List.forall_mem_cons.mpr ⟨DOk.glob0 (ok_ratio_of h) (h.glo (fa h 24 rfl)) (by decide), (List.forall_mem_nil _)⟩) (h.frees (fa h 15 rfl)) (fun ci hci => (cid0 h ci hci).mono (by decide)) (knB_ok (fa h 1 rfl) (fa h 2 rfl) rfl rfl) (isaB_ok (fa h 1 rfl) (ba (fa h 2 rfl)).1 (fa h 16 rfl)) (by decide)
theorem bd_Scale_ratio : BindOk d_Scale_ratio ["self"] := bind_N rfl fun _ _ _ _ _ _ _ us hl => match us, hl with | [_], _ => rfl
theorem c_Scale_ratio : mkDef N_Scale_ratio.length 1 (lsS (comp 40) ⟨cg_Scale_ratio, N_Scale_ratio, d_Scale_ratio.scope, fun _ => true, true⟩ d_Scale_ratio.body) = s_Scale_ratio := by kernel_rfl
theorem sc_Scale_ratio : FnScope N_Scale_ratio ["self"] d_Scale_ratio.scope := ⟨rfl, rfl, rfl, by decide +kernel, by decide +kernel, by decide +kernel, by decide +kernel⟩
theorem ok_Scale_ratio {G : Gx} (h : HH G) : DOk (Tk cn G.K) G 10 (d_Scale_ratio.ad G.K) s_Scale_ratio 1 [] := by
  have e := h.says.fd 25 (d := d_Scale_ratio) rfl
  exact Eq.mp (congrArg (fun s => DOk (Tk cn G.K) G 10 (d_Scale_ratio.ad G.K) s 1 []) c_Scale_ratio) (FD.dok 40 e.1 e.2 rfl rfl sc_Scale_ratio bd_Scale_ratio (gl_Scale_ratio h))
/-! Scale.__neg__ -/
theorem gl_Scale_neg {G : Gx} (h : HH G) : Glk (Tk cn G.K) (gat G 11) cg_Scale_neg := glk_of (List.forall_mem_cons.mpr ⟨DOk.made0 (c := 2) (x := "Scale") (j := 11) (ok_Scale_init h) (mkB_ok (fa h 37 rfl)) (h.glo (fa h 38 rfl)) (by decide), (List.forall_mem_cons.mpr ⟨DOk.glob0 (ok_ratio_of h) (h.glo (fa h 24 rfl)) (by decide), (List.forall_mem_cons.mpr ⟨DOk.glob0 (ok_turned h) (h.glo (fa h 30 rfl)) (by decide), (List.forall_mem_nil _)⟩)⟩)⟩) (h.frees (fa h 15 rfl)) (fun ci hci => (cid0 h ci hci).mono (by decide)) (knB_ok (fa h 1 rfl) (fa h 2 rfl) rfl rfl) (isaB_ok (fa h 1 rfl) (ba (fa h 2 rfl)).1 (fa h 16 rfl)) (by decide)
theorem bd_Scale_neg : BindOk d_Scale_neg ["self"] := bind_N rfl fun _ _ _ _ _ _ _ us hl => match us, hl with | [_], _ => rfl
theorem c_Scale_neg : mkDef N_Scale_neg.length 1 (lsS (comp 40) ⟨cg_Scale_neg, N_Scale_neg, d_Scale_neg.scope, fun _ => true, true⟩ d_Scale_neg.body) = s_Scale_neg := by kernel_rfl
theorem sc_Scale_neg : FnScope N_Scale_neg ["self"] d_Scale_neg.scope := ⟨rfl, rfl, rfl, by decide +kernel, by decide +kernel, by decide +kernel, by decide +kernel⟩
theorem ok_Scale_neg {G : Gx} (h : HH G) : DOk (Tk cn G.K) G 12 (d_Scale_neg.ad G.K) s_Scale_neg 1 [] := by
  have e := h.says.fd 26 (d := d_Scale_neg) rfl
  exact Eq.mp (congrArg (fun s => DOk (Tk cn G.K) G 12 (d_Scale_neg.ad G.K) s 1 []) c_Scale_neg) (FD.dok 40 e.1 e.2 rfl rfl sc_Scale_neg bd_Scale_neg (gl_Scale_neg h))
/-! Shift.__init__ -/
theorem gl_Shift_init {G : Gx} (h : HH G) : Glk (Tk cn G.K) (gat G 9) cg_Shift_init := glk_of (List.forall_mem_cons.mpr ⟨DOk.glob0 (ok_is_small h) (h.glo (fa h 33 rfl)) (by decide), (List.forall_mem_cons.mpr ⟨exc_named (c := 7) (h.glo (fa h 34 rfl)) (exB_ok (fa h 35 rfl)), (List.forall_mem_nil _)⟩)⟩) (h.frees (fa h 15 rfl)) (fun ci hci => (cid0 h ci hci).mono (by decide)) (knB_ok (fa h 1 rfl) (fa h 2 rfl) rfl rfl) (isaB_ok (fa h 1 rfl) (ba (fa h 2 rfl)).1 (fa h 16 rfl)) (by decide)
theorem bd_Shift_init : BindOk d_Shift_init ["self", "ratio"] := bind_N rfl fun _ _ _ _ _ _ _ us hl => match us, hl with | [_, _], _ => rfl
theorem c_Shift_init : mkDef N_Shift_init.length 2 (sSeq (lsS (comp 40) ⟨cg_Shift_init, N_Shift_init, d_Shift_init.scope, fun _ => false, true⟩ (d_Shift_init.body.take 1)) (Mi.sExpr (mSuper 3 (semCall s_Step_init 3 []) (lsE (comp 40) ⟨cg_Shift_init, N_Shift_init, d_Shift_init.scope, fun _ => false, true⟩ (supArgs d_Shift_init.body))))) = mkDef N_Shift_init.length 2 (sSeq (lsS (comp 40) ⟨cg_Shift_init, N_Shift_init, d_Shift_init.scope, fun _ => false, true⟩ (d_Shift_init.body.take 1)) (Mi.sExpr (mSuper 3 e_Step_init (lsE (comp 40) ⟨cg_Shift_init, N_Shift_init, d_Shift_init.scope, fun _ => false, true⟩ (supArgs d_Shift_init.body))))) := by rw [show semCall s_Step_init 3 [] = e_Step_init from semCall_nil]
theorem c2_Shift_init : mkDef N_Shift_init.length 2 (sSeq (lsS (comp 40) ⟨cg_Shift_init, N_Shift_init, d_Shift_init.scope, fun _ => false, true⟩ (d_Shift_init.body.take 1)) (Mi.sExpr (mSuper 3 e_Step_init (lsE (comp 40) ⟨cg_Shift_init, N_Shift_init, d_Shift_init.scope, fun _ => false, true⟩ (supArgs d_Shift_init.body))))) = s_Shift_init := by kernel_rfl
theorem sc_Shift_init : NdefX.NScope N_Shift_init ["self", "ratio"] ["__class__"] d_Shift_init.scope := NdefX.nscope_by (by kernel_rfl)
theorem ok_Shift_init {G : Gx} (h : HH G) : DOk (Tk cn G.K) G 10 (d_Shift_init.ad G.K) s_Shift_init 2 [] := by
  have e := h.says.fd 27 (d := d_Shift_init) rfl
  have q := FD.dokS (T := Tk cn G.K) (c := 3) (pre := d_Shift_init.body.take 1) (N := N_Shift_init) (ps := ["self", "ratio"]) (g := cg_Shift_init) (k := 9) (slf := "self") (m := "__init__") 40 e.1 e.2 rfl bd_Shift_init (by rfl) (by rw [h.P]; exact (fa h 39 rfl)) (h.fre (x := "super") (frees_at (fa h 15 rfl) (by decide))) (by rw [h.P]; exact top0) sc_Shift_init (by decide +kernel) (by decide +kernel) (by decide +kernel) (by decide +kernel) (by decide) (by decide) (by rfl) (gl_Shift_init h) (ok_Step_init h) (by decide)
  exact Eq.mp (congrArg (fun s => DOk (Tk cn G.K) G 10 (d_Shift_init.ad G.K) s 2 []) ((c_Shift_init).trans c2_Shift_init)) q
/-! Shift.ratio -/
theorem gl_Shift_ratio {G : Gx} (h : HH G) : Glk (Tk cn G.K) (gat G 9) cg_Shift_ratio := glk_of (List.forall_mem_cons.mpr ⟨DOk.glob0 (ok_ratio_of h) (h.glo (fa h 24 rfl)) (by decide), (List.forall_mem_nil _)⟩) (h.frees (fa h 15 rfl)) (fun ci hci => (cid0 h ci hci).mono (by decide)) (knB_ok (fa h 1 rfl) (fa h 2 rfl) rfl rfl) (isaB_ok (fa h 1 rfl) (ba (fa h 2 rfl)).1 (fa h 16 rfl)) (by decide)
theorem bd_Shift_ratio : BindOk d_Shift_ratio ["self"] := bind_N rfl fun _ _ _ _ _ _ _ us hl => match us, hl with | [_], _ => rfl
theorem c_Shift_ratio : mkDef N_Shift_ratio.length 1 (lsS (comp 40) ⟨cg_Shift_ratio, N_Shift_ratio, d_Shift_ratio.scope, fun _ => true, true⟩ d_Shift_ratio.body) = s_Shift_ratio := by kernel_rfl
theorem sc_Shift_ratio : FnScope N_Shift_ratio ["self"] d_Shift_ratio.scope := ⟨rfl, rfl, rfl, by decide +kernel, by decide +kernel, by decide +kernel, by decide +kernel⟩
theorem ok_Shift_ratio {G : Gx} (h : HH G) : DOk (Tk cn G.K) G 10 (d_Shift_ratio.ad G.K) s_Shift_ratio 1 [] := by
  have e := h.says.fd 28 (d := d_Shift_ratio) rfl
  exact Eq.mp (congrArg (fun s => DOk (Tk cn G.K) G 10 (d_Shift_ratio.ad G.K) s 1 []) c_Shift_ratio) (FD.dok 40 e.1 e.2 rfl rfl sc_Shift_ratio bd_Shift_ratio (gl_Shift_ratio h))
/-! Shift.__neg__ -/
theorem gl_Shift_neg {G : Gx} (h : HH G) : Glk (Tk cn G.K) (gat G 11) cg_Shift_neg := glk_of (List.forall_mem_cons.mpr ⟨DOk.made0 (c := 3) (x := "Shift") (j := 11) (ok_Shift_init h) (mkB_ok (fa h 40 rfl)) (h.glo (fa h 41 rfl)) (by decide), (List.forall_mem_cons.mpr ⟨DOk.glob0 (ok_ratio_of h) (h.glo (fa h 24 rfl)) (by decide), (List.forall_mem_nil _)⟩)⟩) (h.frees (fa h 15 rfl)) (fun ci hci => (cid0 h ci hci).mono (by decide)) (knB_ok (fa h 1 rfl) (fa h 2 rfl) rfl rfl) (isaB_ok (fa h 1 rfl) (ba (fa h 2 rfl)).1 (fa h 16 rfl)) (by decide)
theorem bd_Shift_neg : BindOk d_Shift_neg ["self"] := bind_N rfl fun _ _ _ _ _ _ _ us hl => match us, hl with | [_], _ => rfl
theorem c_Shift_neg : mkDef N_Shift_neg.length 1 (lsS (comp 40) ⟨cg_Shift_neg, N_Shift_neg, d_Shift_neg.scope, fun _ => true, true⟩ d_Shift_neg.body) = s_Shift_neg := by kernel_rfl
theorem sc_Shift_neg : FnScope N_Shift_neg ["self"] d_Shift_neg.scope := ⟨rfl, rfl, rfl, by decide +kernel, by decide +kernel, by decide +kernel, by decide +kernel⟩
theorem ok_Shift_neg {G : Gx} (h : HH G) : DOk (Tk cn G.K) G 12 (d_Shift_neg.ad G.K) s_Shift_neg 1 [] := by
  have e := h.says.fd 29 (d := d_Shift_neg) rfl
  exact Eq.mp (congrArg (fun s => DOk (Tk cn G.K) G 12 (d_Shift_neg.ad G.K) s 1 []) c_Shift_neg) (FD.dok 40 e.1 e.2 rfl rfl sc_Shift_neg bd_Shift_neg (gl_Shift_neg h))
/-! Round.__init__ -/
theorem gl_Round_init {G : Gx} (h : HH G) : Glk (Tk cn G.K) (gat G 9) cg_Round_init := glk_of (List.forall_mem_cons.mpr ⟨h.tup (fa h 42 rfl) (fa h 43 rfl) rfl, (List.forall_mem_cons.mpr ⟨exc_named (c := 7) (h.glo (fa h 34 rfl)) (exB_ok (fa h 35 rfl)), (List.forall_mem_cons.mpr ⟨DOk.glob0 (ok_is_small h) (h.glo (fa h 33 rfl)) (by decide), (List.forall_mem_nil _)⟩)⟩)⟩) (h.frees (fa h 15 rfl)) (fun ci hci => (cid0 h ci hci).mono (by decide)) (knB_ok (fa h 1 rfl) (fa h 2 rfl) rfl rfl) (isaB_ok (fa h 1 rfl) (ba (fa h 2 rfl)).1 (fa h 16 rfl)) (by decide)
theorem bd_Round_init : BindOk d_Round_init ["self", "unit", "mode"] := bind_D (by decide) fun r hr => match r, hr with
  | 0, _ => ⟨3, rfl, fun _ _ _ _ _ _ _ _ us its h1 h2 => match us, its, h1, h2 with | [a0, a1, a2], [w0], _, _ => ⟨_, rfl, rfl⟩⟩
  | 1, _ => ⟨2, rfl, fun _ _ _ _ _ _ _ _ us its h1 h2 => match us, its, h1, h2 with | [a0, a1], [w0], _, _ => ⟨_, rfl, rfl⟩⟩
  | _ + 2, z => absurd (show _ ≤ 1 from z) (by omega)
theorem c_Round_init : mkDef N_Round_init.length 3 (sSeq (lsS (comp 40) ⟨cg_Round_init, N_Round_init, d_Round_init.scope, fun _ => false, true⟩ (d_Round_init.body.take 2)) (Mi.sExpr (mSuper 4 (semCall s_Step_init 3 []) (lsE (comp 40) ⟨cg_Round_init, N_Round_init, d_Round_init.scope, fun _ => false, true⟩ (supArgs d_Round_init.body))))) = mkDef N_Round_init.length 3 (sSeq (lsS (comp 40) ⟨cg_Round_init, N_Round_init, d_Round_init.scope, fun _ => false, true⟩ (d_Round_init.body.take 2)) (Mi.sExpr (mSuper 4 e_Step_init (lsE (comp 40) ⟨cg_Round_init, N_Round_init, d_Round_init.scope, fun _ => false, true⟩ (supArgs d_Round_init.body))))) := by rw [show semCall s_Step_init 3 [] = e_Step_init from semCall_nil]
theorem c2_Round_init : mkDef N_Round_init.length 3 (sSeq (lsS (comp 40) ⟨cg_Round_init, N_Round_init, d_Round_init.scope, fun _ => false, true⟩ (d_Round_init.body.take 2)) (Mi.sExpr (mSuper 4 e_Step_init (lsE (comp 40) ⟨cg_Round_init, N_Round_init, d_Round_init.scope, fun _ => false, true⟩ (supArgs d_Round_init.body))))) = s_Round_init := by kernel_rfl
theorem sc_Round_init : NdefX.NScope N_Round_init ["self", "unit", "mode"] ["__class__"] d_Round_init.scope := NdefX.nscope_by (by kernel_rfl)
theorem ok_Round_init {G : Gx} (h : HH G) : DOk (Tk cn G.K) G 10 (d_Round_init.ad G.K) s_Round_init 3 [.str "half"] := by
  have e := h.says.fd 30 (d := d_Round_init) rfl
  have q := FD.dokS (T := Tk cn G.K) (c := 4) (pre := d_Round_init.body.take 2) (N := N_Round_init) (ps := ["self", "unit", "mode"]) (g := cg_Round_init) (k := 9) (slf := "self") (m := "__init__") 40 e.1 e.2 rfl bd_Round_init (by rfl) (by rw [h.P]; exact (fa h 44 rfl)) (h.fre (x := "super") (frees_at (fa h 15 rfl) (by decide))) (by rw [h.P]; exact top0) sc_Round_init (by decide +kernel) (by decide +kernel) (by decide +kernel) (by decide +kernel) (by decide) (by decide) (by rfl) (gl_Round_init h) (ok_Step_init h) (by decide)
  exact Eq.mp (congrArg (fun s => DOk (Tk cn G.K) G 10 (d_Round_init.ad G.K) s 3 [.str "half"]) ((c_Round_init).trans c2_Round_init)) q
/-! Round.unit -/
theorem gl_Round_unit {G : Gx} (h : HH G) : Glk (Tk cn G.K) (gat G 9) cg_Round_unit := glk_of (List.forall_mem_cons.mpr ⟨DOk.glob0 (ok_ratio_of h) (h.glo (fa h 24 rfl)) (by decide), (List.forall_mem_nil _)⟩) (h.frees (fa h 15 rfl)) (fun ci hci => (cid0 h ci hci).mono (by decide)) (knB_ok (fa h 1 rfl) (fa h 2 rfl) rfl rfl) (isaB_ok (fa h 1 rfl) (ba (fa h 2 rfl)).1 (fa h 16 rfl)) (by decide)
theorem bd_Round_unit : BindOk d_Round_unit ["self"] := bind_N rfl fun _ _ _ _ _ _ _ us hl => match us, hl with | [_], _ => rfl
theorem c_Round_unit : mkDef N_Round_unit.length 1 (lsS (comp 40) ⟨cg_Round_unit, N_Round_unit, d_Round_unit.scope, fun _ => true, true⟩ d_Round_unit.body) = s_Round_unit := by kernel_rfl
theorem sc_Round_unit : FnScope N_Round_unit ["self"] d_Round_unit.scope := ⟨rfl, rfl, rfl, by decide +kernel, by decide +kernel, by decide +kernel, by decide +kernel⟩
theorem ok_Round_unit {G : Gx} (h : HH G) : DOk (Tk cn G.K) G 10 (d_Round_unit.ad G.K) s_Round_unit 1 [] := by
  have e := h.says.fd 31 (d := d_Round_unit) rfl
  exact Eq.mp (congrArg (fun s => DOk (Tk cn G.K) G 10 (d_Round_unit.ad G.K) s 1 []) c_Round_unit) (FD.dok 40 e.1 e.2 rfl rfl sc_Round_unit bd_Round_unit (gl_Round_unit h))
/-! Round.mode -/
theorem gl_Round_mode {G : Gx} (h : HH G) : Glk (Tk cn G.K) (gat G 1) cg_Round_mode := glk_of (List.forall_mem_nil _) (h.frees (fa h 15 rfl)) (fun ci hci => (cid0 h ci hci).mono (by decide)) (knB_ok (fa h 1 rfl) (fa h 2 rfl) rfl rfl) (isaB_ok (fa h 1 rfl) (ba (fa h 2 rfl)).1 (fa h 16 rfl)) (by decide)
theorem bd_Round_mode : BindOk d_Round_mode ["self"] := bind_N rfl fun _ _ _ _ _ _ _ us hl => match us, hl with | [_], _ => rfl
theorem c_Round_mode : mkDef N_Round_mode.length 1 (lsS (comp 40) ⟨cg_Round_mode, N_Round_mode, d_Round_mode.scope, fun _ => true, true⟩ d_Round_mode.body) = s_Round_mode := by kernel_rfl
theorem sc_Round_mode : FnScope N_Round_mode ["self"] d_Round_mode.scope := ⟨rfl, rfl, rfl, by decide +kernel, by decide +kernel, by decide +kernel, by decide +kernel⟩
theorem ok_Round_mode {G : Gx} (h : HH G) : DOk (Tk cn G.K) G 2 (d_Round_mode.ad G.K) s_Round_mode 1 [] := by
  have e := h.says.fd 32 (d := d_Round_mode) rfl
  exact Eq.mp (congrArg (fun s => DOk (Tk cn G.K) G 2 (d_Round_mode.ad G.K) s 1 []) c_Round_mode) (FD.dok 40 e.1 e.2 rfl rfl sc_Round_mode bd_Round_mode (gl_Round_mode h))
theorem cid1 {G : Gx} (h : HH G) : ∀ ci ∈ cs1, CId (Tk cn G.K) G 14 ci := (List.forall_mem_cons.mpr ⟨⟨clsB_ok (fa h 1 rfl) (List.all_eq_true.mp (ba (fa h 2 rfl)).1 0 (by decide)), (List.forall_mem_cons.mpr ⟨noB_ok (fa h 0 rfl), (List.forall_mem_nil _)⟩), (List.forall_mem_nil _), (List.forall_mem_cons.mpr ⟨⟨_, _, 2, prB_ok (fa h 45 rfl), ok_Ratio_top h, by decide⟩, (List.forall_mem_cons.mpr ⟨⟨_, _, 2, prB_ok (fa h 46 rfl), ok_Ratio_bottom h, by decide⟩, (List.forall_mem_nil _)⟩)⟩), (List.forall_mem_cons.mpr ⟨⟨_, 8, _, _, _, meBg_ok (fa h 47 rfl), ok_Ratio_eq h, semCall_nil.symm, by decide⟩, (List.forall_mem_cons.mpr ⟨⟨_, 10, _, _, _, meBg_ok (fa h 48 rfl), ok_Ratio_add h, semCall_nil.symm, by decide⟩, (List.forall_mem_cons.mpr ⟨⟨_, 10, _, _, _, meBg_ok (fa h 49 rfl), ok_Ratio_sub h, semCall_nil.symm, by decide⟩, (List.forall_mem_cons.mpr ⟨⟨_, 10, _, _, _, meBg_ok (fa h 50 rfl), ok_Ratio_mul h, semCall_nil.symm, by decide⟩, (List.forall_mem_cons.mpr ⟨⟨_, 10, _, _, _, meBg_ok (fa h 51 rfl), ok_Ratio_neg h, semCall_nil.symm, by decide⟩, (List.forall_mem_cons.mpr ⟨⟨_, 10, _, _, _, meBg_ok (fa h 52 rfl), ok_Ratio_le h, semCall_nil.symm, by decide⟩, (List.forall_mem_nil _)⟩)⟩)⟩)⟩)⟩)⟩)⟩, (List.forall_mem_cons.mpr ⟨⟨clsB_ok (fa h 1 rfl) (List.all_eq_true.mp (ba (fa h 2 rfl)).1 1 (by decide)), (List.forall_mem_cons.mpr ⟨noB_ok (fa h 3 rfl), (List.forall_mem_cons.mpr ⟨noB_ok (fa h 4 rfl), (List.forall_mem_nil _)⟩)⟩), (List.forall_mem_cons.mpr ⟨(let ⟨u, z⟩ := coB_ok (fa h 5 rfl); ⟨_, u, rfl, z⟩), (List.forall_mem_nil _)⟩), (List.forall_mem_nil _), (List.forall_mem_cons.mpr ⟨⟨_, 2, _, _, _, meBg_ok (fa h 53 rfl), ok_Step_listed h, semCall_nil.symm, by decide⟩, (List.forall_mem_cons.mpr ⟨⟨_, 12, _, _, _, meBg_ok (fa h 54 rfl), ok_Step_call h, semCall_nil.symm, by decide⟩, (List.forall_mem_nil _)⟩)⟩)⟩, (List.forall_mem_cons.mpr ⟨⟨clsB_ok (fa h 1 rfl) (List.all_eq_true.mp (ba (fa h 2 rfl)).1 2 (by decide)), (List.forall_mem_cons.mpr ⟨noB_ok (fa h 6 rfl), (List.forall_mem_cons.mpr ⟨noB_ok (fa h 7 rfl), (List.forall_mem_nil _)⟩)⟩), (List.forall_mem_cons.mpr ⟨(let ⟨u, z⟩ := coB_ok (fa h 8 rfl); ⟨_, u, rfl, z⟩), (List.forall_mem_nil _)⟩), (List.forall_mem_cons.mpr ⟨⟨_, _, 10, prB_ok (fa h 55 rfl), ok_Scale_ratio h, by decide⟩, (List.forall_mem_nil _)⟩), (List.forall_mem_cons.mpr ⟨⟨_, 12, _, _, _, meBg_ok (fa h 56 rfl), ok_Scale_neg h, semCall_nil.symm, by decide⟩, (List.forall_mem_cons.mpr ⟨⟨_, 2, _, _, _, meBg_ok (fa h 57 rfl), ok_Step_listed h, semCall_nil.symm, by decide⟩, (List.forall_mem_cons.mpr ⟨⟨_, 12, _, _, _, meBg_ok (fa h 58 rfl), ok_Step_call h, semCall_nil.symm, by decide⟩, (List.forall_mem_nil _)⟩)⟩)⟩)⟩, (List.forall_mem_cons.mpr ⟨⟨clsB_ok (fa h 1 rfl) (List.all_eq_true.mp (ba (fa h 2 rfl)).1 3 (by decide)), (List.forall_mem_cons.mpr ⟨noB_ok (fa h 9 rfl), (List.forall_mem_cons.mpr ⟨noB_ok (fa h 10 rfl), (List.forall_mem_nil _)⟩)⟩), (List.forall_mem_cons.mpr ⟨(let ⟨u, z⟩ := coB_ok (fa h 11 rfl); ⟨_, u, rfl, z⟩), (List.forall_mem_nil _)⟩), (List.forall_mem_cons.mpr ⟨⟨_, _, 10, prB_ok (fa h 59 rfl), ok_Shift_ratio h, by decide⟩, (List.forall_mem_nil _)⟩), (List.forall_mem_cons.mpr ⟨⟨_, 12, _, _, _, meBg_ok (fa h 60 rfl), ok_Shift_neg h, semCall_nil.symm, by decide⟩, (List.forall_mem_cons.mpr ⟨⟨_, 2, _, _, _, meBg_ok (fa h 61 rfl), ok_Step_listed h, semCall_nil.symm, by decide⟩, (List.forall_mem_cons.mpr ⟨⟨_, 12, _, _, _, meBg_ok (fa h 62 rfl), ok_Step_call h, semCall_nil.symm, by decide⟩, (List.forall_mem_nil _)⟩)⟩)⟩)⟩, (List.forall_mem_cons.mpr ⟨⟨clsB_ok (fa h 1 rfl) (List.all_eq_true.mp (ba (fa h 2 rfl)).1 4 (by decide)), (List.forall_mem_cons.mpr ⟨noB_ok (fa h 12 rfl), (List.forall_mem_cons.mpr ⟨noB_ok (fa h 13 rfl), (List.forall_mem_nil _)⟩)⟩), (List.forall_mem_cons.mpr ⟨(let ⟨u, z⟩ := coB_ok (fa h 14 rfl); ⟨_, u, rfl, z⟩), (List.forall_mem_nil _)⟩), (List.forall_mem_cons.mpr ⟨⟨_, _, 10, prB_ok (fa h 63 rfl), ok_Round_unit h, by decide⟩, (List.forall_mem_cons.mpr ⟨⟨_, _, 2, prB_ok (fa h 64 rfl), ok_Round_mode h, by decide⟩, (List.forall_mem_nil _)⟩)⟩), (List.forall_mem_cons.mpr ⟨⟨_, 2, _, _, _, meBg_ok (fa h 65 rfl), ok_Step_listed h, semCall_nil.symm, by decide⟩, (List.forall_mem_cons.mpr ⟨⟨_, 12, _, _, _, meBg_ok (fa h 66 rfl), ok_Step_call h, semCall_nil.symm, by decide⟩, (List.forall_mem_nil _)⟩)⟩)⟩, (List.forall_mem_nil _)⟩)⟩)⟩)⟩)⟩)
/-! Step.__eq__ -/
theorem gl_Step_eq {G : Gx} (h : HH G) : Glk (Tk cn G.K) (gat G 14) cg_Step_eq := glk_of (List.forall_mem_cons.mpr ⟨DOk.made0 (c := 1) (x := "Step") (j := 14) (ok_Step_init h) (mkB_ok (fa h 67 rfl)) (h.glo (fa h 68 rfl)) (by decide), (List.forall_mem_nil _)⟩) (h.frees (fa h 15 rfl)) (fun ci hci => (cid1 h ci hci).mono (by decide)) (knB_ok (fa h 1 rfl) (fa h 2 rfl) rfl rfl) (isaB_ok (fa h 1 rfl) (ba (fa h 2 rfl)).1 (fa h 16 rfl)) (by decide)
theorem bd_Step_eq : BindOk d_Step_eq ["self", "other"] := bind_N rfl fun _ _ _ _ _ _ _ us hl => match us, hl with | [_, _], _ => rfl
theorem c_Step_eq : mkDef N_Step_eq.length 2 (lsS (comp 40) ⟨cg_Step_eq, N_Step_eq, d_Step_eq.scope, fun _ => true, true⟩ d_Step_eq.body) = s_Step_eq := by kernel_rfl
theorem sc_Step_eq : FnScope N_Step_eq ["self", "other"] d_Step_eq.scope := ⟨rfl, rfl, rfl, by decide +kernel, by decide +kernel, by decide +kernel, by decide +kernel⟩
theorem ok_Step_eq {G : Gx} (h : HH G) : DOk (Tk cn G.K) G 15 (d_Step_eq.ad G.K) s_Step_eq 2 [] := by
  have e := h.says.fd 33 (d := d_Step_eq) rfl
  exact Eq.mp (congrArg (fun s => DOk (Tk cn G.K) G 15 (d_Step_eq.ad G.K) s 2 []) c_Step_eq) (FD.dok 40 e.1 e.2 rfl rfl sc_Step_eq bd_Step_eq (gl_Step_eq h))
theorem cid2 {G : Gx} (h : HH G) : ∀ ci ∈ cs2, CId (Tk cn G.K) G 17 ci := (List.forall_mem_cons.mpr ⟨⟨clsB_ok (fa h 1 rfl) (List.all_eq_true.mp (ba (fa h 2 rfl)).1 0 (by decide)), (List.forall_mem_cons.mpr ⟨noB_ok (fa h 0 rfl), (List.forall_mem_nil _)⟩), (List.forall_mem_nil _), (List.forall_mem_cons.mpr ⟨⟨_, _, 2, prB_ok (fa h 45 rfl), ok_Ratio_top h, by decide⟩, (List.forall_mem_cons.mpr ⟨⟨_, _, 2, prB_ok (fa h 46 rfl), ok_Ratio_bottom h, by decide⟩, (List.forall_mem_nil _)⟩)⟩), (List.forall_mem_cons.mpr ⟨⟨_, 8, _, _, _, meBg_ok (fa h 47 rfl), ok_Ratio_eq h, semCall_nil.symm, by decide⟩, (List.forall_mem_cons.mpr ⟨⟨_, 10, _, _, _, meBg_ok (fa h 48 rfl), ok_Ratio_add h, semCall_nil.symm, by decide⟩, (List.forall_mem_cons.mpr ⟨⟨_, 10, _, _, _, meBg_ok (fa h 49 rfl), ok_Ratio_sub h, semCall_nil.symm, by decide⟩, (List.forall_mem_cons.mpr ⟨⟨_, 10, _, _, _, meBg_ok (fa h 50 rfl), ok_Ratio_mul h, semCall_nil.symm, by decide⟩, (List.forall_mem_cons.mpr ⟨⟨_, 10, _, _, _, meBg_ok (fa h 51 rfl), ok_Ratio_neg h, semCall_nil.symm, by decide⟩, (List.forall_mem_cons.mpr ⟨⟨_, 10, _, _, _, meBg_ok (fa h 52 rfl), ok_Ratio_le h, semCall_nil.symm, by decide⟩, (List.forall_mem_nil _)⟩)⟩)⟩)⟩)⟩)⟩)⟩, (List.forall_mem_cons.mpr ⟨⟨clsB_ok (fa h 1 rfl) (List.all_eq_true.mp (ba (fa h 2 rfl)).1 1 (by decide)), (List.forall_mem_cons.mpr ⟨noB_ok (fa h 3 rfl), (List.forall_mem_cons.mpr ⟨noB_ok (fa h 4 rfl), (List.forall_mem_nil _)⟩)⟩), (List.forall_mem_cons.mpr ⟨(let ⟨u, z⟩ := coB_ok (fa h 5 rfl); ⟨_, u, rfl, z⟩), (List.forall_mem_nil _)⟩), (List.forall_mem_nil _), (List.forall_mem_cons.mpr ⟨⟨_, 15, _, _, _, meBg_ok (fa h 69 rfl), ok_Step_eq h, semCall_nil.symm, by decide⟩, (List.forall_mem_cons.mpr ⟨⟨_, 2, _, _, _, meBg_ok (fa h 53 rfl), ok_Step_listed h, semCall_nil.symm, by decide⟩, (List.forall_mem_cons.mpr ⟨⟨_, 12, _, _, _, meBg_ok (fa h 54 rfl), ok_Step_call h, semCall_nil.symm, by decide⟩, (List.forall_mem_nil _)⟩)⟩)⟩)⟩, (List.forall_mem_cons.mpr ⟨⟨clsB_ok (fa h 1 rfl) (List.all_eq_true.mp (ba (fa h 2 rfl)).1 2 (by decide)), (List.forall_mem_cons.mpr ⟨noB_ok (fa h 6 rfl), (List.forall_mem_cons.mpr ⟨noB_ok (fa h 7 rfl), (List.forall_mem_nil _)⟩)⟩), (List.forall_mem_cons.mpr ⟨(let ⟨u, z⟩ := coB_ok (fa h 8 rfl); ⟨_, u, rfl, z⟩), (List.forall_mem_nil _)⟩), (List.forall_mem_cons.mpr ⟨⟨_, _, 10, prB_ok (fa h 55 rfl), ok_Scale_ratio h, by decide⟩, (List.forall_mem_nil _)⟩), (List.forall_mem_cons.mpr ⟨⟨_, 12, _, _, _, meBg_ok (fa h 56 rfl), ok_Scale_neg h, semCall_nil.symm, by decide⟩, (List.forall_mem_cons.mpr ⟨⟨_, 15, _, _, _, meBg_ok (fa h 70 rfl), ok_Step_eq h, semCall_nil.symm, by decide⟩, (List.forall_mem_cons.mpr ⟨⟨_, 2, _, _, _, meBg_ok (fa h 57 rfl), ok_Step_listed h, semCall_nil.symm, by decide⟩, (List.forall_mem_cons.mpr ⟨⟨_, 12, _, _, _, meBg_ok (fa h 58 rfl), ok_Step_call h, semCall_nil.symm, by decide⟩, (List.forall_mem_nil _)⟩)⟩)⟩)⟩)⟩, (List.forall_mem_cons.mpr ⟨⟨clsB_ok (fa h 1 rfl) (List.all_eq_true.mp (ba (fa h 2 rfl)).1 3 (by decide)), (List.forall_mem_cons.mpr ⟨noB_ok (fa h 9 rfl), (List.forall_mem_cons.mpr ⟨noB_ok (fa h 10 rfl), (List.forall_mem_nil _)⟩)⟩), (List.forall_mem_cons.mpr ⟨(let ⟨u, z⟩ := coB_ok (fa h 11 rfl); ⟨_, u, rfl, z⟩), (List.forall_mem_nil _)⟩), (List.forall_mem_cons.mpr ⟨⟨_, _, 10, prB_ok (fa h 59 rfl), ok_Shift_ratio h, by decide⟩, (List.forall_mem_nil _)⟩), (List.forall_mem_cons.mpr ⟨⟨_, 12, _, _, _, meBg_ok (fa h 60 rfl), ok_Shift_neg h, semCall_nil.symm, by decide⟩, (List.forall_mem_cons.mpr ⟨⟨_, 15, _, _, _, meBg_ok (fa h 71 rfl), ok_Step_eq h, semCall_nil.symm, by decide⟩, (List.forall_mem_cons.mpr ⟨⟨_, 2, _, _, _, meBg_ok (fa h 61 rfl), ok_Step_listed h, semCall_nil.symm, by decide⟩, (List.forall_mem_cons.mpr ⟨⟨_, 12, _, _, _, meBg_ok (fa h 62 rfl), ok_Step_call h, semCall_nil.symm, by decide⟩, (List.forall_mem_nil _)⟩)⟩)⟩)⟩)⟩, (List.forall_mem_cons.mpr ⟨⟨clsB_ok (fa h 1 rfl) (List.all_eq_true.mp (ba (fa h 2 rfl)).1 4 (by decide)), (List.forall_mem_cons.mpr ⟨noB_ok (fa h 12 rfl), (List.forall_mem_cons.mpr ⟨noB_ok (fa h 13 rfl), (List.forall_mem_nil _)⟩)⟩), (List.forall_mem_cons.mpr ⟨(let ⟨u, z⟩ := coB_ok (fa h 14 rfl); ⟨_, u, rfl, z⟩), (List.forall_mem_nil _)⟩), (List.forall_mem_cons.mpr ⟨⟨_, _, 10, prB_ok (fa h 63 rfl), ok_Round_unit h, by decide⟩, (List.forall_mem_cons.mpr ⟨⟨_, _, 2, prB_ok (fa h 64 rfl), ok_Round_mode h, by decide⟩, (List.forall_mem_nil _)⟩)⟩), (List.forall_mem_cons.mpr ⟨⟨_, 15, _, _, _, meBg_ok (fa h 72 rfl), ok_Step_eq h, semCall_nil.symm, by decide⟩, (List.forall_mem_cons.mpr ⟨⟨_, 2, _, _, _, meBg_ok (fa h 65 rfl), ok_Step_listed h, semCall_nil.symm, by decide⟩, (List.forall_mem_cons.mpr ⟨⟨_, 12, _, _, _, meBg_ok (fa h 66 rfl), ok_Step_call h, semCall_nil.symm, by decide⟩, (List.forall_mem_nil _)⟩)⟩)⟩)⟩, (List.forall_mem_nil _)⟩)⟩)⟩)⟩)⟩)
/-! _law_number -/
theorem gl_x_law_number {G : Gx} (h : HH G) : Glk (Tk cn G.K) (gat G 17) cg_x_law_number := glk_of (List.forall_mem_nil _) (h.frees (fa h 15 rfl)) (fun ci hci => (cid2 h ci hci).mono (by decide)) (knB_ok (fa h 1 rfl) (fa h 2 rfl) rfl rfl) (isaB_ok (fa h 1 rfl) (ba (fa h 2 rfl)).1 (fa h 16 rfl)) (by decide)
theorem bd_x_law_number : BindOk d_x_law_number ["_law_script", "_law_index"] := bind_N rfl fun _ _ _ _ _ _ _ us hl => match us, hl with | [_, _], _ => rfl
theorem c_x_law_number : mkDef N_x_law_number.length 2 (lsS (comp 40) ⟨cg_x_law_number, N_x_law_number, d_x_law_number.scope, fun _ => true, true⟩ d_x_law_number.body) = s_x_law_number := by kernel_rfl
theorem sc_x_law_number : FnScope N_x_law_number ["_law_script", "_law_index"] d_x_law_number.scope := ⟨rfl, rfl, rfl, by decide +kernel, by decide +kernel, by decide +kernel, by decide +kernel⟩
theorem ok_x_law_number {G : Gx} (h : HH G) : DOk (Tk cn G.K) G 18 (d_x_law_number.ad G.K) s_x_law_number 2 [] := by
  have e := h.says.fd 34 (d := d_x_law_number) rfl
  exact Eq.mp (congrArg (fun s => DOk (Tk cn G.K) G 18 (d_x_law_number.ad G.K) s 2 []) c_x_law_number) (FD.dok 40 e.1 e.2 rfl rfl sc_x_law_number bd_x_law_number (gl_x_law_number h))
/-! _law_rounded -/
theorem gl_x_law_rounded {G : Gx} (h : HH G) : Glk (Tk cn G.K) (gat G 17) cg_x_law_rounded := glk_of (List.forall_mem_nil _) (h.frees (fa h 15 rfl)) (fun ci hci => (cid2 h ci hci).mono (by decide)) (knB_ok (fa h 1 rfl) (fa h 2 rfl) rfl rfl) (isaB_ok (fa h 1 rfl) (ba (fa h 2 rfl)).1 (fa h 16 rfl)) (by decide)
theorem bd_x_law_rounded : BindOk d_x_law_rounded ["_law_top", "_law_bottom", "_law_row"] := bind_N rfl fun _ _ _ _ _ _ _ us hl => match us, hl with | [_, _, _], _ => rfl
theorem c_x_law_rounded : mkDef N_x_law_rounded.length 3 (lsS (comp 40) ⟨cg_x_law_rounded, N_x_law_rounded, d_x_law_rounded.scope, fun _ => true, true⟩ d_x_law_rounded.body) = s_x_law_rounded := by kernel_rfl
theorem sc_x_law_rounded : FnScope N_x_law_rounded ["_law_top", "_law_bottom", "_law_row"] d_x_law_rounded.scope := ⟨rfl, rfl, rfl, by decide +kernel, by decide +kernel, by decide +kernel, by decide +kernel⟩
theorem ok_x_law_rounded {G : Gx} (h : HH G) : DOk (Tk cn G.K) G 18 (d_x_law_rounded.ad G.K) s_x_law_rounded 3 [] := by
  have e := h.says.fd 35 (d := d_x_law_rounded) rfl
  exact Eq.mp (congrArg (fun s => DOk (Tk cn G.K) G 18 (d_x_law_rounded.ad G.K) s 3 []) c_x_law_rounded) (FD.dok 40 e.1 e.2 rfl rfl sc_x_law_rounded bd_x_law_rounded (gl_x_law_rounded h))
/-! _law_is_pair -/
theorem gl_x_law_is_pair {G : Gx} (h : HH G) : Glk (Tk cn G.K) (gat G 17) cg_x_law_is_pair := glk_of (List.forall_mem_nil _) (h.frees (fa h 15 rfl)) (fun ci hci => (cid2 h ci hci).mono (by decide)) (knB_ok (fa h 1 rfl) (fa h 2 rfl) rfl rfl) (isaB_ok (fa h 1 rfl) (ba (fa h 2 rfl)).1 (fa h 16 rfl)) (by decide)
theorem bd_x_law_is_pair : BindOk d_x_law_is_pair ["_law_ratio", "_law_top", "_law_bottom"] := bind_N rfl fun _ _ _ _ _ _ _ us hl => match us, hl with | [_, _, _], _ => rfl
theorem c_x_law_is_pair : mkDef N_x_law_is_pair.length 3 (lsS (comp 40) ⟨cg_x_law_is_pair, N_x_law_is_pair, d_x_law_is_pair.scope, fun _ => true, true⟩ d_x_law_is_pair.body) = s_x_law_is_pair := by kernel_rfl
theorem sc_x_law_is_pair : FnScope N_x_law_is_pair ["_law_ratio", "_law_top", "_law_bottom"] d_x_law_is_pair.scope := ⟨rfl, rfl, rfl, by decide +kernel, by decide +kernel, by decide +kernel, by decide +kernel⟩
theorem ok_x_law_is_pair {G : Gx} (h : HH G) : DOk (Tk cn G.K) G 18 (d_x_law_is_pair.ad G.K) s_x_law_is_pair 3 [] := by
  have e := h.says.fd 36 (d := d_x_law_is_pair) rfl
  exact Eq.mp (congrArg (fun s => DOk (Tk cn G.K) G 18 (d_x_law_is_pair.ad G.K) s 3 []) c_x_law_is_pair) (FD.dok 40 e.1 e.2 rfl rfl sc_x_law_is_pair bd_x_law_is_pair (gl_x_law_is_pair h))
/-! _law_ratios_right -/
theorem gl_x_law_ratios_right {G : Gx} (h : HH G) : Glk (Tk cn G.K) (gat G 19) cg_x_law_ratios_right := glk_of (List.forall_mem_cons.mpr ⟨DOk.made (c := 0) (x := "Ratio") (j := 19) (ok_Ratio_init h) (mkB_ok (fa h 22 rfl)) (h.glo (fa h 23 rfl)) (by decide), (List.forall_mem_cons.mpr ⟨DOk.glob0 (ok_x_law_is_pair h) (h.glo (fa h 73 rfl)) (by decide), (List.forall_mem_nil _)⟩)⟩) (h.frees (fa h 15 rfl)) (fun ci hci => (cid2 h ci hci).mono (by decide)) (knB_ok (fa h 1 rfl) (fa h 2 rfl) rfl rfl) (isaB_ok (fa h 1 rfl) (ba (fa h 2 rfl)).1 (fa h 16 rfl)) (by decide)
theorem bd_x_law_ratios_right : BindOk d_x_law_ratios_right ["_law_a", "_law_b", "_law_c", "_law_d"] := bind_N rfl fun _ _ _ _ _ _ _ us hl => match us, hl with | [_, _, _, _], _ => rfl
theorem c_x_law_ratios_right : mkDef N_x_law_ratios_right.length 4 (lsS (comp 40) ⟨cg_x_law_ratios_right, N_x_law_ratios_right, d_x_law_ratios_right.scope, fun _ => true, true⟩ d_x_law_ratios_right.body) = s_x_law_ratios_right := by kernel_rfl
theorem sc_x_law_ratios_right : FnScope N_x_law_ratios_right ["_law_a", "_law_b", "_law_c", "_law_d"] d_x_law_ratios_right.scope := ⟨rfl, rfl, rfl, by decide +kernel, by decide +kernel, by decide +kernel, by decide +kernel⟩
theorem ok_x_law_ratios_right {G : Gx} (h : HH G) : DOk (Tk cn G.K) G 20 (d_x_law_ratios_right.ad G.K) s_x_law_ratios_right 4 [] := by
  have e := h.says.fd 37 (d := d_x_law_ratios_right) rfl
  exact Eq.mp (congrArg (fun s => DOk (Tk cn G.K) G 20 (d_x_law_ratios_right.ad G.K) s 4 []) c_x_law_ratios_right) (FD.dok 40 e.1 e.2 rfl rfl sc_x_law_ratios_right bd_x_law_ratios_right (gl_x_law_ratios_right h))
/-! _law_steps_right -/
theorem gl_x_law_steps_right {G : Gx} (h : HH G) : Glk (Tk cn G.K) (gat G 19) cg_x_law_steps_right := glk_of (List.forall_mem_cons.mpr ⟨DOk.glob0 (ok_x_law_is_pair h) (h.glo (fa h 73 rfl)) (by decide), (List.forall_mem_cons.mpr ⟨DOk.made0 (c := 2) (x := "Scale") (j := 19) (ok_Scale_init h) (mkB_ok (fa h 37 rfl)) (h.glo (fa h 38 rfl)) (by decide), (List.forall_mem_cons.mpr ⟨DOk.made0 (c := 3) (x := "Shift") (j := 19) (ok_Shift_init h) (mkB_ok (fa h 40 rfl)) (h.glo (fa h 41 rfl)) (by decide), (List.forall_mem_cons.mpr ⟨DOk.made (c := 0) (x := "Ratio") (j := 19) (ok_Ratio_init h) (mkB_ok (fa h 22 rfl)) (h.glo (fa h 23 rfl)) (by decide), (List.forall_mem_nil _)⟩)⟩)⟩)⟩) (h.frees (fa h 15 rfl)) (fun ci hci => (cid2 h ci hci).mono (by decide)) (knB_ok (fa h 1 rfl) (fa h 2 rfl) rfl rfl) (isaB_ok (fa h 1 rfl) (ba (fa h 2 rfl)).1 (fa h 16 rfl)) (by decide)
theorem bd_x_law_steps_right : BindOk d_x_law_steps_right ["_law_a", "_law_b", "_law_c", "_law_d"] := bind_N rfl fun _ _ _ _ _ _ _ us hl => match us, hl with | [_, _, _, _], _ => rfl
theorem c_x_law_steps_right : mkDef N_x_law_steps_right.length 4 (lsS (comp 40) ⟨cg_x_law_steps_right, N_x_law_steps_right, d_x_law_steps_right.scope, fun _ => true, true⟩ d_x_law_steps_right.body) = s_x_law_steps_right := by kernel_rfl
theorem sc_x_law_steps_right : FnScope N_x_law_steps_right ["_law_a", "_law_b", "_law_c", "_law_d"] d_x_law_steps_right.scope := ⟨rfl, rfl, rfl, by decide +kernel, by decide +kernel, by decide +kernel, by decide +kernel⟩
theorem ok_x_law_steps_right {G : Gx} (h : HH G) : DOk (Tk cn G.K) G 20 (d_x_law_steps_right.ad G.K) s_x_law_steps_right 4 [] := by
  have e := h.says.fd 38 (d := d_x_law_steps_right) rfl
  exact Eq.mp (congrArg (fun s => DOk (Tk cn G.K) G 20 (d_x_law_steps_right.ad G.K) s 4 []) c_x_law_steps_right) (FD.dok 40 e.1 e.2 rfl rfl sc_x_law_steps_right bd_x_law_steps_right (gl_x_law_steps_right h))
/-! _law_round_right -/
theorem gl_x_law_round_right {G : Gx} (h : HH G) : Glk (Tk cn G.K) (gat G 19) cg_x_law_round_right := glk_of (List.forall_mem_cons.mpr ⟨DOk.made (c := 4) (x := "Round") (j := 19) (ok_Round_init h) (mkB_ok (fa h 74 rfl)) (h.glo (fa h 75 rfl)) (by decide), (List.forall_mem_cons.mpr ⟨DOk.made (c := 0) (x := "Ratio") (j := 19) (ok_Ratio_init h) (mkB_ok (fa h 22 rfl)) (h.glo (fa h 23 rfl)) (by decide), (List.forall_mem_cons.mpr ⟨DOk.glob0 (ok_x_law_is_pair h) (h.glo (fa h 73 rfl)) (by decide), (List.forall_mem_cons.mpr ⟨DOk.glob0 (ok_x_law_rounded h) (h.glo (fa h 76 rfl)) (by decide), (List.forall_mem_nil _)⟩)⟩)⟩)⟩) (h.frees (fa h 15 rfl)) (fun ci hci => (cid2 h ci hci).mono (by decide)) (knB_ok (fa h 1 rfl) (fa h 2 rfl) rfl rfl) (isaB_ok (fa h 1 rfl) (ba (fa h 2 rfl)).1 (fa h 16 rfl)) (by decide)
theorem bd_x_law_round_right : BindOk d_x_law_round_right ["_law_a", "_law_b", "_law_c", "_law_d", "_law_mode"] := bind_N rfl fun _ _ _ _ _ _ _ us hl => match us, hl with | [_, _, _, _, _], _ => rfl
theorem c_x_law_round_right : mkDef N_x_law_round_right.length 5 (lsS (comp 40) ⟨cg_x_law_round_right, N_x_law_round_right, d_x_law_round_right.scope, fun _ => true, true⟩ d_x_law_round_right.body) = s_x_law_round_right := by kernel_rfl
theorem sc_x_law_round_right : FnScope N_x_law_round_right ["_law_a", "_law_b", "_law_c", "_law_d", "_law_mode"] d_x_law_round_right.scope := ⟨rfl, rfl, rfl, by decide +kernel, by decide +kernel, by decide +kernel, by decide +kernel⟩
theorem ok_x_law_round_right {G : Gx} (h : HH G) : DOk (Tk cn G.K) G 20 (d_x_law_round_right.ad G.K) s_x_law_round_right 5 [] := by
  have e := h.says.fd 39 (d := d_x_law_round_right) rfl
  exact Eq.mp (congrArg (fun s => DOk (Tk cn G.K) G 20 (d_x_law_round_right.ad G.K) s 5 []) c_x_law_round_right) (FD.dok 40 e.1 e.2 rfl rfl sc_x_law_round_right bd_x_law_round_right (gl_x_law_round_right h))
/-! _law_all_right -/
theorem gl_x_law_all_right {G : Gx} (h : HH G) : Glk (Tk cn G.K) (gat G 21) cg_x_law_all_right := glk_of (List.forall_mem_cons.mpr ⟨DOk.made (c := 4) (x := "Round") (j := 21) (ok_Round_init h) (mkB_ok (fa h 74 rfl)) (h.glo (fa h 75 rfl)) (by decide), (List.forall_mem_cons.mpr ⟨DOk.made (c := 0) (x := "Ratio") (j := 21) (ok_Ratio_init h) (mkB_ok (fa h 22 rfl)) (h.glo (fa h 23 rfl)) (by decide), (List.forall_mem_cons.mpr ⟨DOk.glob0 (ok_x_law_round_right h) (h.glo (fa h 77 rfl)) (by decide), (List.forall_mem_cons.mpr ⟨DOk.glob0 (ok_x_law_steps_right h) (h.glo (fa h 78 rfl)) (by decide), (List.forall_mem_cons.mpr ⟨DOk.glob0 (ok_x_law_ratios_right h) (h.glo (fa h 79 rfl)) (by decide), (List.forall_mem_cons.mpr ⟨DOk.glob0 (ok_x_law_number h) (h.glo (fa h 80 rfl)) (by decide), (List.forall_mem_nil _)⟩)⟩)⟩)⟩)⟩)⟩) (h.frees (fa h 15 rfl)) (fun ci hci => (cid2 h ci hci).mono (by decide)) (knB_ok (fa h 1 rfl) (fa h 2 rfl) rfl rfl) (isaB_ok (fa h 1 rfl) (ba (fa h 2 rfl)).1 (fa h 16 rfl)) (by decide)
theorem bd_x_law_all_right : BindOk d_x_law_all_right ["_law_script"] := bind_N rfl fun _ _ _ _ _ _ _ us hl => match us, hl with | [_], _ => rfl
theorem c_x_law_all_right : mkDef N_x_law_all_right.length 1 (lsS (comp 40) ⟨cg_x_law_all_right, N_x_law_all_right, d_x_law_all_right.scope, fun _ => true, true⟩ d_x_law_all_right.body) = s_x_law_all_right := by kernel_rfl
theorem sc_x_law_all_right : FnScope N_x_law_all_right ["_law_script"] d_x_law_all_right.scope := ⟨rfl, rfl, rfl, by decide +kernel, by decide +kernel, by decide +kernel, by decide +kernel⟩
theorem ok_x_law_all_right {G : Gx} (h : HH G) : DOk (Tk cn G.K) G 22 (d_x_law_all_right.ad G.K) s_x_law_all_right 1 [] := by
  have e := h.says.fd 40 (d := d_x_law_all_right) rfl
  exact Eq.mp (congrArg (fun s => DOk (Tk cn G.K) G 22 (d_x_law_all_right.ad G.K) s 1 []) c_x_law_all_right) (FD.dok 40 e.1 e.2 rfl rfl sc_x_law_all_right bd_x_law_all_right (gl_x_law_all_right h))
/-! law -/
theorem gl_law {G : Gx} (h : HH G) : Glk (Tk cn G.K) (gat G 23) cg_law := glk_of (List.forall_mem_cons.mpr ⟨DOk.glob0 (ok_x_law_all_right h) (h.glo (fa h 81 rfl)) (by decide), (List.forall_mem_nil _)⟩) (h.frees (fa h 15 rfl)) (fun ci hci => (cid2 h ci hci).mono (by decide)) (knB_ok (fa h 1 rfl) (fa h 2 rfl) rfl rfl) (isaB_ok (fa h 1 rfl) (ba (fa h 2 rfl)).1 (fa h 16 rfl)) (by decide)
theorem bd_law : BindOk d_law ["_law_script"] := bind_N rfl fun _ _ _ _ _ _ _ us hl => match us, hl with | [_], _ => rfl
theorem c_law : mkDef N_law.length 1 (lsS (comp 40) ⟨cg_law, N_law, d_law.scope, fun _ => true, true⟩ d_law.body) = s_law := by kernel_rfl
theorem sc_law : FnScope N_law ["_law_script"] d_law.scope := ⟨rfl, rfl, rfl, by decide +kernel, by decide +kernel, by decide +kernel, by decide +kernel⟩
end Lw

namespace Lw
open PySem PySem.Spec PyProof.Rows L2 Mi He
abbrev R : PySem.W.OpenRow := PySem.W.OpenLaw.row PySem.Challenge.rw_backsame_k03_whole_steps
abbrev hk : PySem.W.Hook := hookM 6 fns extra
def ob (s : PySem.W.SharedT) : AlM := obsMG 6 fns extra (HandSHeadRun.getT s)
theorem ob_eq (s : PySem.W.SharedT) : ob s = hk.obs s.abs := obsMG_eq (HandSHeadRun.getT_eq s)
def loose : List PySem.Str := (["__name__", "BackError", "InvalidRatio", "InvalidStep", "is_integer", "common", "lowest", "added", "multiplied", "Ratio", "pair_of", "ratio_of", "floor_of", "turned", "MODES", "MOST", "is_small", "Step", "Scale", "Shift", "Round", "rounded", "done", "_law_number", "_law_rounded", "_law_is_pair", "_law_ratios_right", "_law_steps_right", "_law_round_right", "_law_all_right"] : List PySem.Str)
theorem run (w : World) : HandSHeadRun.RunEq R (PySem.W.view R.prog [33]) hk ob 12000 loose w := by
  intro os
  kernel_rfl
end Lw

/-! Mi, part PA: values without a heap, and the same combinators over them. -/
namespace Mi
open PySem

inductive P where
  | non | bl (b : Bool) | int (i : Int) | str (s : Str) | tup (xs : List P) | lst (xs : List P) | rol (xs : List P) | dct (kvs : List (Sum Int Str × P)) | obj (c : Nat) (fs : List (Str × P)) | cls (c : Nat)
structure XP where
  c : Nat
  fs : List (Str × P)
inductive RP (α : Type) where
  | ok (a : α) | ex (x : XP) | no
def RP.bind {α β : Type} (r : RP α) (f : α → RP β) : RP β := match r with
  | .ok a => f a
  | .ex x => .ex x
  | .no => .no
def RP.noex {α : Type} : RP α → RP α
  | .ex _ => .no
  | r => r
abbrev Dp := List (Option P)
abbrev MEp := Dp → RP P
abbrev MTp := Dp → RP Bool
abbrev MEsp := Dp → RP (List P)
abbrev Semp := List P → RP P
abbrev Inip := P → List P → RP P
inductive RSp where
  | nx (δ : Dp) | rt (p : P) | bk (δ : Dp) | ct (δ : Dp) | ex (x : XP) (δ : Dp) | no
abbrev MSp := Dp → RSp
def RP.st {α : Type} (r : RP α) (δ : Dp) (f : α → RSp) : RSp := match r with
  | .ok a => f a
  | .ex x => .ex x δ
  | .no => .no
mutual
def toPyP : Nat → P → Option PyData
  | _, .non => some .none
  | _, .bl b => some (.bool b)
  | _, .int i => some (.int i)
  | _, .str s => some (.str s)
  | 0, _ => none
  | n + 1, .tup ds => (toPysP n ds).map .tuple
  | n + 1, .lst ds => (toPysP n ds).map .list
  | n + 1, .rol ds => (toPysP n ds).map .list
  | _, _ => none
def toPysP : Nat → List P → Option (List PyData)
  | _, [] => some []
  | 0, _ => none
  | n + 1, d :: ds => match toPyP n d, toPysP n ds with
    | some p, some ps => some (p :: ps)
    | _, _ => none
end
/-! ### operations -/
abbrev O2p := P → P → RP P
def pAdd : O2p := fun x y => match x, y with
  | .int i, .int j => .ok (.int (i + j))
  | .str a, .str b => if a.length + b.length ≤ maxLen then .ok (.str (a ++ b)) else .no
  | .tup a, .tup b => if a.length + b.length ≤ maxLen then .ok (.tup (a ++ b)) else .no
  | .lst a, .lst b => if a.length + b.length ≤ maxLen then .ok (.lst (a ++ b)) else .no
  | _, _ => .no
def pSub : O2p := fun x y => match x, y with
  | .int i, .int j => .ok (.int (i - j))
  | _, _ => .no
def pMul : O2p := fun x y => match x, y with
  | .int i, .int j => if i.natAbs.log2 + j.natAbs.log2 < 1000000 then .ok (.int (i * j)) else .no
  | _, _ => .no
def pFdiv : O2p := fun x y => match x, y with
  | .int i, .int j => if 0 < j ∧ j.natAbs.log2 < 9000 then .ok (.int (i / j)) else .no
  | _, _ => .no
def pMod : O2p := fun x y => match x, y with
  | .int i, .int j => if 0 < j then .ok (.int (i % j)) else .no
  | _, _ => .no
def pPow : O2p := fun x y => match x, y with
  | .int i, .int j => if 0 ≤ j ∧ j ≤ 1000000 ∧ i.natAbs < 2 ^ 64 then .ok (.int (i ^ j.toNat)) else .no
  | _, _ => .no
def pShl : O2p := fun x y => match x, y with
  | .int i, .int j => if 0 ≤ j ∧ j ≤ 1000000 ∧ i.natAbs < 2 ^ 64 then .ok (.int (i * 2 ^ j.toNat)) else .no
  | _, _ => .no
def pShr : O2p := fun x y => match x, y with
  | .int i, .int j => if 0 ≤ j then .ok (.int (i / 2 ^ j.toNat)) else .no
  | _, _ => .no
def pBand : O2p := fun x y => match x, y with
  | .int i, .int j => .ok (.int (Builtin.bitAnd i j))
  | _, _ => .no
def pNeg : P → RP P := fun x => match x with
  | .int i => .ok (.int (-i))
  | _ => .no
def eqPyP (x y : P) : Option Bool := match toPyP deepF x, toPyP deepF y with
  | some d, some e => if SeqAt.shaped d && SeqAt.shaped e then some (PyData.eqv d e) else none
  | _, _ => none
def qEq : O2p := fun x y => match eqPyP x y with
  | some b => .ok (.bl b)
  | none => .no
def qNe : O2p := fun x y => match eqPyP x y with
  | some b => .ok (.bl (!b))
  | none => .no
def qI (p : Int → Int → Bool) : O2p := fun x y => match x, y with
  | .int i, .int j => .ok (.bl (p i j))
  | _, _ => .no
def qIs : O2p := fun x y => match y with
  | .non => .ok (.bl (match x with | .non => true | _ => false))
  | _ => .no
def qIsNot : O2p := fun x y => match y with
  | .non => .ok (.bl (match x with | .non => false | _ => true))
  | _ => .no
def flatP : P → Bool
  | .non | .bl _ | .int _ | .str _ => true
  | _ => false
def eqFlP : P → P → Bool
  | .non, .non => true
  | .bl a, .bl b => a == b
  | .bl a, .int b => (if a then 1 else 0) == b
  | .int a, .bl b => a == (if b then 1 else 0)
  | .int a, .int b => a == b
  | .str a, .str b => a == b
  | _, _ => false
def inFlP (x : P) (xs : List P) : Bool := xs.any fun y => eqFlP y x
def valP {κ : Type} [DecidableEq κ] (kvs : List (κ × P)) (k : κ) : Option P := (kvs.find? fun kv => decide (kv.1 = k)).map (·.2)
def keyOfP : P → Option (Sum Int Str)
  | .int i => some (.inl i)
  | .str s => some (.inr s)
  | _ => none
def isInP (x y : P) : Option Bool := match y with
  | .tup ds => if flatP x && ds.all flatP then some (inFlP x ds) else none
  | .lst ds => if flatP x && ds.all flatP then some (inFlP x ds) else match toPyP deepF x, toPyP deepF y with
    | some d, some (.list es) => if SeqAt.shaped d && SeqAt.shaped (.list es) then some (es.any fun z => PyData.eqv z d) else none
    | _, _ => none
  | .dct kvs => match keyOfP x with
    | some k => some (valP kvs k).isSome
    | none => none
  | .str t => match x with
    | .str s => some (!(Builtin.Str.occurrences t s 0 t.length 1).isEmpty)
    | _ => none
  | _ => none
def qIn : O2p := fun x y => match isInP x y with
  | some b => .ok (.bl b)
  | none => .no
def qNotIn : O2p := fun x y => match isInP x y with
  | some b => .ok (.bl (!b))
  | none => .no
def cmpP : CmpOp → O2p
  | .Eq => qEq
  | .NotEq => qNe
  | .Lt => qI fun i j => decide (i < j)
  | .LtE => qI fun i j => decide (i ≤ j)
  | .Gt => qI fun i j => decide (j < i)
  | .GtE => qI fun i j => decide (j ≤ i)
  | .Is => qIs
  | .IsNot => qIsNot
  | .In => qIn
  | .NotIn => qNotIn
/-! ### expressions -/
def pVar (i : Nat) : MEp := fun δ => match δ[i]? with
  | some (some d) => .ok d
  | _ => .no
def pLit (d : P) : MEp := fun _ => .ok d
def pNil : MEsp := fun _ => .ok []
def pCons (m : MEp) (ms : MEsp) : MEsp := fun δ => (m δ).bind fun d => (ms δ).bind fun ds => .ok (d :: ds)
def pTup (ms : MEsp) : MEp := fun δ => (ms δ).bind fun ds => if ds.length ≤ maxLen then .ok (.tup ds) else .no
def pLst (ms : MEsp) : MEp := fun δ => (ms δ).bind fun ds => if ds.length ≤ maxLen then .ok (.lst ds) else .no
def pBin (o : O2p) (a b : MEp) : MEp := fun δ => (a δ).bind fun x => (b δ).bind fun y => o x y
def pUn (o : P → RP P) (a : MEp) : MEp := fun δ => (a δ).bind fun x => o x
def pChain (o o2 : O2p) (a b c : MEp) : MEp := fun δ => (a δ).bind fun x => (b δ).bind fun y => (o x y).bind fun z => match z with
  | .bl true => (c δ).bind fun w => o2 y w
  | .bl false => .ok (.bl false)
  | _ => .no
def pIf (t : MTp) (a b : MEp) : MEp := fun δ => (t δ).bind fun k => if k then a δ else b δ
def pAnd (a b : MEp) : MEp := fun δ => (a δ).bind fun x => match x with
  | .bl true => b δ
  | .bl false => .ok (.bl false)
  | _ => .no
def pOr (a b : MEp) : MEp := fun δ => (a δ).bind fun x => match x with
  | .bl true => .ok (.bl true)
  | .bl false => b δ
  | _ => .no
def pNot (a : MEp) : MEp := fun δ => (a δ).bind fun x => match x with
  | .bl k => .ok (.bl (!k))
  | _ => .no
def pCall (f : Semp) (ms : MEsp) : MEp := fun δ => (ms δ).bind fun ds => f ds
def callP (f : Semp) (np : Nat) (dfl : List P) : Semp := fun ds => if ds.length ≤ np ∧ np - ds.length ≤ dfl.length then f (ds ++ dfl.drop (dfl.length - (np - ds.length))) else .no
def mkP (c : Nat) (f : Inip) : Semp := fun ds => f (.obj c []) ds
/-- what is flat is kept; else no promise -/
def pFlat (a : MEp) : MEp := fun δ => match a δ with
  | .ok p => if flatP p then .ok p else .no
  | .ex x => if x.fs.all fun f => flatP f.2 then .ex x else .no
  | .no => .no
/-! ### tests -/
def qE (m : MEp) : MTp := fun δ => (m δ).bind fun x => match x with
  | .bl k => .ok k
  | _ => .no
def qAnd (a b : MTp) : MTp := fun δ => (a δ).bind fun k => if k then b δ else .ok false
def qOr (a b : MTp) : MTp := fun δ => (a δ).bind fun k => if k then .ok true else b δ
def qNot (a : MTp) : MTp := fun δ => (a δ).bind fun k => .ok (!k)
def qTrue : MTp := fun _ => .ok true
/-! ### attributes -/
structure CIP where
  id : Nat
  fields : List Str
  consts : List (Str × P)
  props : List (Str × Semp)
  meths : List (Str × Semp)
  below : List Nat
def attrP (cs : List CIP) (f : Str) : P → RP P := fun x => match x with
  | .obj c fs => match cs.find? fun ci => ci.id == c with
    | some ci => if ci.fields.contains f then (match fs.lookup f with
        | some d => .ok d
        | none => .no) else match ci.props.lookup f with
      | some p => (p [x]).noex
      | none => match ci.consts.lookup f with
        | some d => if (fs.lookup f).isSome then .no else .ok d
        | none => .no
    | none => .no
  | _ => .no
def pAttr (cs : List CIP) (f : Str) (a : MEp) : MEp := pUn (attrP cs f) a
def methP (cs : List CIP) (c : Nat) (m : Str) : Option Semp := (cs.find? fun ci => ci.id == c).bind fun ci => ci.meths.lookup m
def pMeth (cs : List CIP) (m : Str) (a : MEp) (ms : MEsp) : MEp := fun δ => (a δ).bind fun x => match x with
  | .obj c fs => if (fs.lookup m).isSome then .no else match methP cs c m with
    | some f => (ms δ).bind fun ds => f (x :: ds)
    | none => .no
  | _ => .no
def tgP : P → Option Tg
  | .non => some (.b "NoneType")
  | .bl _ => some (.b "bool")
  | .int _ => some (.b "int")
  | .str _ => some (.b "str")
  | .tup _ => some (.b "tuple")
  | .cls _ => none
  | .lst _ => some (.b "list")
  | .rol _ => some (.b "list")
  | .dct _ => some (.b "dict")
  | .obj c _ => some (.c c)
def tagsP (cs : List CIP) : List Tg := tagB ++ cs.map fun ci => .c ci.id
def notBelowP (ci : CIP) : Tg → Bool
  | .c m => !ci.below.contains m
  | _ => true
def tagInP (cs : List CIP) (c : Nat) (y : P) : Bool := match tgP y with
  | some t => decide (t ∈ tagsP cs) && match cs.find? fun ci => ci.id == c with
    | some ci => notBelowP ci t
    | none => false
  | none => false
def callIP (cs : List CIP) (x : P) (ds : List P) : RP P := match x with
  | .obj c _ => match methP cs c "__call__" with
    | some f => f (x :: ds)
    | none => .no
  | _ => .no
def pCallI (cs : List CIP) (a : MEp) (ms : MEsp) : MEp := fun δ => (a δ).bind fun x => match x with
  | .obj _ _ => (ms δ).bind fun ds => callIP cs x ds
  | _ => .no
def ownP (cs : List CIP) (nm : Str) (o : O2p) : O2p := fun x y => match x with
  | .obj c _ => match methP cs c nm with
    | some f => if tagInP cs c y then f [x, y] else .no
    | none => .no
  | _ => o x y
def arithP (cs : List CIP) (nm : Str) (o : O2p) : O2p := fun x y => match x with
  | .obj c _ => match methP cs c nm with
    | some f => match tgP y with
      | some (.c c') => if c' = c then f [x, y] else .no
      | some (.b t) => if Tg.b t ∈ tagF then f [x, y] else .no
      | none => .no
    | none => .no
  | _ => o x y
def neP (cs : List CIP) : O2p := fun x y => match x with
  | .obj c _ => match methP cs c "__eq__" with
    | some f => if tagInP cs c y then (f [x, y]).bind fun r => match r with
        | .bl k => .ok (.bl (!k))
        | _ => .no
      else .no
    | none => .no
  | _ => qNe x y
def unOwnP (cs : List CIP) (nm : Str) (o : P → RP P) : P → RP P := fun x => match x with
  | .obj c _ => match methP cs c nm with
    | some f => f [x]
    | none => .no
  | _ => o x
/-! ### items -/
def pIx : O2p := fun x y => match x, y with
  | .tup ds, .int i => match atD ds i with
    | some d => .ok d
    | none => .no
  | .lst ds, .int i => match atD ds i with
    | some d => .ok d
    | none => .no
  | .rol ds, .int i => match atD ds i with
    | some d => .ok d
    | none => .no
  | .dct kvs, k => match keyOfP k with
    | some k => match valP kvs k with
      | some d => .ok d
      | none => .no
    | none => .no
  | .str s, .int i => if s.length ≤ maxLen then (match atD s.cps.toList i with
    | some c => .ok (.str ⟨#[c]⟩)
    | none => .no) else .no
  | _, _ => .no
/-! ### statements -/
abbrev MGp := P → Dp → Option Dp
abbrev MGsp := List P → Dp → Option Dp
def hNm (i : Nat) : MGp := fun d δ => some (δ.set i (some d))
def hNil : MGsp := fun ds δ => match ds with
  | [] => some δ
  | _ => none
def hCons (g : MGp) (gs : MGsp) : MGsp := fun ds δ => match ds with
  | [] => none
  | d :: ds => (g d δ).bind (gs ds)
def hTp (gs : MGsp) : MGp := fun d δ => match d with
  | .tup ds => gs ds δ
  | _ => none
def uNil : MSp := fun δ => .nx δ
def uSeq (a b : MSp) : MSp := fun δ => match a δ with
  | .nx δ1 => b δ1
  | r => r
def uExpr (m : MEp) : MSp := fun δ => (m δ).st δ fun _ => .nx δ
def uRet (m : MEp) : MSp := fun δ => (m δ).st δ fun d => .rt d
def uRetN : MSp := fun _ => .rt .non
def uAsg (m : MEp) (g : MGp) : MSp := fun δ => (m δ).st δ fun d => match g d δ with
  | some δ1 => .nx δ1
  | none => .no
def uPar (is : List Nat) (ms : MEsp) : MSp := fun δ => (ms δ).st δ fun ds => if ds.length = is.length then .nx ((is.zip ds).foldl (fun δ p => δ.set p.1 (some p.2)) δ) else .no
def putP (f : Str) (v : P) : List (Str × P) → List (Str × P)
  | [] => [(f, v)]
  | (g, x) :: r => if g = f then (g, v) :: r else (g, x) :: putP f v r
/-- self.f = m, self at slot i, its own -/
def uFld (cs : List CIP) (i : Nat) (f : Str) (m : MEp) : MSp := fun δ => (m δ).st δ fun d => match δ[i]? with
  | some (some (.obj c fs)) => match cs.find? fun ci => ci.id == c with
    | some ci => if ci.fields.contains f && decide (fs.length < 900) then .nx (δ.set i (some (.obj c (putP f d fs)))) else .no
    | none => .no
  | _ => .no
/-- super().__init__(..), self at slot 0 -/
def uSuper (c : Nat) (f : Inip) (ms : MEsp) : MSp := fun δ => match (δ[0]? : Option (Option P)) with
  | some (some (.obj c' fs)) => if c' = c then (ms δ).st δ fun ds => match f (.obj c' fs) ds with
    | .ok p => .nx (δ.set 0 (some p))
    | _ => .no else .no
  | _ => .no
def uIf (t : MTp) (a b : MSp) : MSp := fun δ => (t δ).st δ fun k => if k then a δ else b δ
def uWh (t : MTp) (b : MSp) : Nat → MSp
  | 0 => fun _ => .no
  | n + 1 => fun δ => (t δ).st δ fun k => if k then (match b δ with
      | .nx δ2 => uWh t b n δ2
      | .ct δ2 => uWh t b n δ2
      | .bk δ2 => .nx δ2
      | r => r) else .nx δ
def uWhile (t : MTp) (b : MSp) : MSp := fun δ => uWh t b (δ.foldl (fun a d => match d with
  | some (.int i) => a + i.natAbs
  | _ => a) 1000 + 1) δ
abbrev MIp := Dp → RP (List P)
def jList (m : MEp) : MIp := fun δ => (m δ).bind fun x => match x with
  | .lst ds => .ok ds
  | .rol ds => .ok ds
  | .tup ds => .ok ds
  | _ => .no
def rangeP (lo : Int) (n : Nat) : List P := (List.range n).map fun i => P.int (lo + (i : Nat))
def jRange1 (m : MEp) : MIp := fun δ => (m δ).bind fun x => match x with
  | .int j => if -(2 ^ 62) ≤ j ∧ j < 2 ^ 62 then .ok (rangeP 0 j.toNat) else .no
  | _ => .no
def jRange2 (a b : MEp) : MIp := fun δ => (a δ).bind fun x => (b δ).bind fun y => match x, y with
  | .int i, .int j => if -(2 ^ 62) ≤ i ∧ i < 2 ^ 62 ∧ -(2 ^ 62) ≤ j ∧ j < 2 ^ 62 then .ok (rangeP i (j - i).toNat) else .no
  | _, _ => .no
def uLoop (g : MGp) (b : MSp) : List P → MSp
  | [] => fun δ => .nx δ
  | d :: ds => fun δ => match g d δ with
    | some δ1 => (match b δ1 with
      | .nx δ2 => uLoop g b ds δ2
      | .ct δ2 => uLoop g b ds δ2
      | .bk δ2 => .nx δ2
      | r => r)
    | none => .no
def uFor (it : MIp) (g : MGp) (b : MSp) : MSp := fun δ => (it δ).st δ fun ds => uLoop g b ds δ
def uRaise (c : Nat) (m : MEsp) : MSp := fun δ => (m δ).st δ fun ds => if ds.length ≤ maxLen then .ex ⟨c, []⟩ δ else .no
def uTry0 (b : MSp) : MSp := fun δ => match b δ with
  | .ex _ _ => .no
  | r => r
def wipeP (δ : Dp) : List Nat → Dp
  | [] => δ
  | v :: vs => (wipeP δ vs).set v none
def turnC (g : MGp) (t : MTp) (e : MEp) (d : P) (δ : Dp) : RP (List P) := match g d δ with
  | some δ1 => (t δ1).bind fun k => if k then (e δ1).bind fun x => .ok [x] else .ok []
  | none => .no
def allC (g : MGp) (t : MTp) (e : MEp) (δ : Dp) : List P → RP (List P)
  | [] => .ok []
  | d :: ds => match turnC g t e d δ with
    | .ok xs => match allC g t e δ ds with
      | .ok ys => .ok (xs ++ ys)
      | _ => .no
    | _ => .no
def pComp (it : MIp) (g : MGp) (t : MTp) (e : MEp) (vs : List Nat) : MEp := fun δ => (it δ).bind fun ds => match allC g t e (wipeP δ vs) ds with
  | .ok xs => if xs.length ≤ maxLen then .ok (.lst xs) else .no
  | _ => .no
/-! ### a def -/
def startP (n : Nat) (ds : List P) : Dp := ds.map some ++ List.replicate (n - ds.length) none
def pDef (n p : Nat) (b : MSp) : Semp := fun ds => if ds.length = p then (match b (startP n ds) with
  | .nx _ => .ok .non
  | .rt d => .ok d
  | .ex x _ => .ex x
  | _ => .no) else .no
/-- an __init__: what self becomes -/
def pInit (n p : Nat) (b : MSp) : Inip := fun s ds => if ds.length + 1 = p then (match b (startP n (s :: ds)) with
  | .nx δ => (match (δ[0]? : Option (Option P)) with
    | some (some s') => .ok s'
    | _ => .no)
  | .ex x _ => .ex x
  | _ => .no) else .no
def callIni (f : Inip) (np : Nat) (dfl : List P) : Inip := fun s ds => if ds.length + 1 ≤ np ∧ np - (ds.length + 1) ≤ dfl.length then f s (ds ++ dfl.drop (dfl.length - (np - (ds.length + 1)))) else .no
/-! ### built-in functions -/
def fAbs : Semp := fun ds => match ds with
  | [.int i] => .ok (.int (if i < 0 then -i else i))
  | _ => .no
def fLen : Semp := fun ds => match ds with
  | [.str s] => if s.length ≤ maxLen then .ok (.int (s.length : Nat)) else .no
  | [.tup xs] => .ok (.int (xs.length : Nat))
  | [.lst xs] => .ok (.int (xs.length : Nat))
  | [.rol xs] => .ok (.int (xs.length : Nat))
  | _ => .no
def boolsP : List P → Option (List Bool)
  | [] => some []
  | .bl b :: ds => (boolsP ds).map (b :: ·)
  | _ => none
def intsP : List P → Option (List Int)
  | [] => some []
  | .int b :: ds => (intsP ds).map (b :: ·)
  | _ => none
def seqP : P → Option (List P)
  | .lst xs => some xs
  | .rol xs => some xs
  | _ => none
def fAny : Semp := fun ds => match ds with
  | [x] => match (seqP x).bind boolsP with
    | some bs => .ok (.bl (bs.any id))
    | none => .no
  | _ => .no
def fAll : Semp := fun ds => match ds with
  | [x] => match (seqP x).bind boolsP with
    | some bs => .ok (.bl (bs.all id))
    | none => .no
  | _ => .no
def fSum : Semp := fun ds => match ds with
  | [x] => match (seqP x).bind intsP with
    | some is => .ok (.int is.sum)
    | none => .no
  | _ => .no
def isP (sub : List (Nat × Nat)) (tgs cs : List Tg) : P → RP P := fun x => match tgP x with
  | some t => if t ∈ tgs then .ok (.bl (cs.any fun c => isSubT sub t c)) else .no
  | none => .no
end Mi

/-! Mi, part PB: values without a heap stand in a heap; expressions. -/
namespace Mi
open PySem

section
variable (A : Nat → Prop) (h : Hh)
mutual
/-- the datum d, in the heap h, is the value p; nothing of A is reached -/
inductive Rp : P → D → Prop
  | non : Rp .non .non
  | bl (b : Bool) : Rp (.bl b) (.bl b)
  | int (i : Int) : Rp (.int i) (.int i)
  | str (s : Str) : Rp (.str s) (.str s)
  | cls (c : Nat) : Rp (.cls c) (.cls c)
  | tup {ps : List P} {ds : List D} : Rps ps ds → Rp (.tup ps) (.tup ds)
  | lst {n : Nat} {ps : List P} {ds : List D} : ¬ A n → h[n]? = some (.lst ds) → Rps ps ds → Rp (.lst ps) (.ref n)
  | rol {n : Nat} {ps : List P} {ds : List D} : ¬ A n → h[n]? = some (.rol ds) → Rps ps ds → Rp (.rol ps) (.ref n)
  | dct {n : Nat} {ps : List (Sum Int Str × P)} {ds : List (Sum Int Str × D)} : ¬ A n → h[n]? = some (.dk ds) → RpK ps ds → Rp (.dct ps) (.ref n)
  | obj {n c : Nat} {ps : List (Str × P)} {ds : List (Str × D)} : ¬ A n → h[n]? = some (.ins c ds) → RpF ps ds → Rp (.obj c ps) (.ref n)
inductive Rps : List P → List D → Prop
  | nil : Rps [] []
  | cons {p : P} {d : D} {ps : List P} {ds : List D} : Rp p d → Rps ps ds → Rps (p :: ps) (d :: ds)
inductive RpK : List (Sum Int Str × P) → List (Sum Int Str × D) → Prop
  | nil : RpK [] []
  | cons {k : Sum Int Str} {p : P} {d : D} {ps : List (Sum Int Str × P)} {ds : List (Sum Int Str × D)} : Rp p d → RpK ps ds → RpK ((k, p) :: ps) ((k, d) :: ds)
inductive RpF : List (Str × P) → List (Str × D) → Prop
  | nil : RpF [] []
  | cons {k : Str} {p : P} {d : D} {ps : List (Str × P)} {ds : List (Str × D)} : Rp p d → RpF ps ds → RpF ((k, p) :: ps) ((k, d) :: ds)
end
/-- what stands at n -/
def RpT (n : Nat) : P → Prop
  | .lst ps => ∃ ds, h[n]? = some (.lst ds) ∧ Rps A h ps ds
  | .dct ps => ∃ ds, h[n]? = some (.dk ds) ∧ RpK A h ps ds
  | .obj c ps => ∃ ds, h[n]? = some (.ins c ds) ∧ RpF A h ps ds
  | _ => False
end
/-- what the one knows stands in the other, too -/
def Mv (A : Nat → Prop) (h : Hh) (A' : Nat → Prop) (h' : Hh) : Prop := ∀ n o, ¬ A n → h[n]? = some o → ¬ A' n ∧ h'[n]? = some o
section
variable {A A' : Nat → Prop} {h h' : Hh} (m : Mv A h A' h')
include m
mutual
theorem Rp.move : ∀ {p : P} {d : D}, Rp A h p d → Rp A' h' p d
  | _, _, .non => .non
  | _, _, .bl b => .bl b
  | _, _, .int b => .int b
  | _, _, .str b => .str b
  | _, _, .cls b => .cls b
  | _, _, .tup r => .tup (Rps.move r)
  | _, _, .lst a e r => .lst (m _ _ a e).1 (m _ _ a e).2 (Rps.move r)
  | _, _, .rol a e r => .rol (m _ _ a e).1 (m _ _ a e).2 (Rps.move r)
  | _, _, .dct a e r => .dct (m _ _ a e).1 (m _ _ a e).2 (RpK.move r)
  | _, _, .obj a e r => .obj (m _ _ a e).1 (m _ _ a e).2 (RpF.move r)
theorem Rps.move : ∀ {p : List P} {d : List D}, Rps A h p d → Rps A' h' p d
  | _, _, .nil => .nil
  | _, _, .cons r s => .cons (Rp.move r) (Rps.move s)
theorem RpK.move : ∀ {p : List (Sum Int Str × P)} {d : List (Sum Int Str × D)}, RpK A h p d → RpK A' h' p d
  | _, _, .nil => .nil
  | _, _, .cons r s => .cons (Rp.move r) (RpK.move s)
theorem RpF.move : ∀ {p : List (Str × P)} {d : List (Str × D)}, RpF A h p d → RpF A' h' p d
  | _, _, .nil => .nil
  | _, _, .cons r s => .cons (Rp.move r) (RpF.move s)
end
theorem RpT.move {n : Nat} {p : P} (e : h'[n]? = h[n]?) : RpT A h n p → RpT A' h' n p := fun r => by
  cases p <;> try exact r.elim
  · obtain ⟨ds, e1, r⟩ := r; exact ⟨ds, by rw [e]; exact e1, r.move m⟩
  · obtain ⟨ds, e1, r⟩ := r; exact ⟨ds, by rw [e]; exact e1, r.move m⟩
  · obtain ⟨ds, e1, r⟩ := r; exact ⟨ds, by rw [e]; exact e1, r.move m⟩
end
theorem Mv.refl {A : Nat → Prop} {h : Hh} : Mv A h A h := fun n o a e => ⟨a, e⟩
theorem Mv.trans {A A1 A2 : Nat → Prop} {h h1 h2 : Hh} (a : Mv A h A1 h1) (b : Mv A1 h1 A2 h2) : Mv A h A2 h2 := fun n o x e => b n o (a n o x e).1 (a n o x e).2
theorem app_at {h : Hh} {n : Nat} {o : AO} (e : h[n]? = some o) (t : Hh) : (h ++ t)[n]? = some o := by
  rw [List.getElem?_append_left (List.getElem?_eq_some_iff.mp e).1]
  exact e
theorem at_lt {h : Hh} {n : Nat} {o : AO} (e : h[n]? = some o) : n < h.length := (List.getElem?_eq_some_iff.mp e).1
theorem Mv.app {A : Nat → Prop} {h : Hh} (t : Hh) : Mv A h A (h ++ t) := fun n o a e => ⟨a, app_at e t⟩
theorem Mv.less {A A' : Nat → Prop} {h : Hh} (k : ∀ n, A' n → A n) : Mv A h A' h := fun n o a e => ⟨fun z => a (k n z), e⟩
/-- .. where only what is new is kept apart -/
theorem Mv.fresh {A : Nat → Prop} {h : Hh} {A' : Nat → Prop} (k : ∀ n, A' n → A n ∨ h.length ≤ n) : Mv A h A' h := fun n o a e => ⟨fun z => (k n z).elim a fun z => absurd (at_lt e) (by omega), e⟩
section
variable {A : Nat → Prop} {h : Hh}
theorem Rps.length : ∀ {ps : List P} {ds : List D}, Rps A h ps ds → ps.length = ds.length
  | _, _, .nil => rfl
  | _, _, .cons _ r => congrArg Nat.succ (Rps.length r)
theorem Rps.append : ∀ {ps qs : List P} {ds es : List D}, Rps A h ps ds → Rps A h qs es → Rps A h (ps ++ qs) (ds ++ es)
  | _, _, _, _, .nil, r => r
  | _, _, _, _, .cons a t, r => .cons a (Rps.append t r)
theorem Rps.get : ∀ {ps : List P} {ds : List D} {i : Nat} {p : P}, Rps A h ps ds → ps[i]? = some p → ∃ d, ds[i]? = some d ∧ Rp A h p d
  | _, _, _, _, .nil, e => by simp at e
  | _, _, 0, _, .cons r _, e => by simp at e; subst e; exact ⟨_, rfl, r⟩
  | _, _, i + 1, p, .cons _ t, e => by
    obtain ⟨v, h1, h2⟩ := Rps.get (i := i) (p := p) t (by simpa using e)
    exact ⟨v, by simpa using h1, h2⟩
theorem Rps.take : ∀ {ps : List P} {ds : List D} (n : Nat), Rps A h ps ds → Rps A h (ps.take n) (ds.take n)
  | _, _, 0, _ => .nil
  | _, _, _ + 1, .nil => .nil
  | _, _, n + 1, .cons r t => .cons r (Rps.take n t)
theorem Rps.drop : ∀ {ps : List P} {ds : List D} (n : Nat), Rps A h ps ds → Rps A h (ps.drop n) (ds.drop n)
  | _, _, 0, r => r
  | _, _, _ + 1, .nil => .nil
  | _, _, n + 1, .cons _ t => Rps.drop n t
theorem RpF.lookup {f : Str} : ∀ {ps : List (Str × P)} {ds : List (Str × D)}, RpF A h ps ds → (ps.lookup f = none ∧ ds.lookup f = none) ∨ ∃ p d, ps.lookup f = some p ∧ ds.lookup f = some d ∧ Rp A h p d
  | _, _, .nil => .inl ⟨rfl, rfl⟩
  | _, _, @RpF.cons _ _ g p d ps ds r t => by
    by_cases e : f = g
    · have hb : (f == g) = true := beq_iff_eq.mpr e
      exact .inr ⟨p, d, by simp only [List.lookup, hb], by simp only [List.lookup, hb], r⟩
    · have hb : (f == g) = false := beq_eq_false_iff_ne.mpr e
      simp only [List.lookup, hb]
      exact RpF.lookup t
theorem RpF.length : ∀ {ps : List (Str × P)} {ds : List (Str × D)}, RpF A h ps ds → ps.length = ds.length
  | _, _, .nil => rfl
  | _, _, .cons _ r => congrArg Nat.succ (RpF.length r)
theorem RpF.put {f : Str} {p : P} {d : D} (r : Rp A h p d) : ∀ {ps : List (Str × P)} {ds : List (Str × D)}, RpF A h ps ds → RpF A h (putP f p ps) (putD f d ds)
  | _, _, .nil => .cons r .nil
  | _, _, @RpF.cons _ _ g p' d' ps ds r' t => by
    show RpF A h (if g = f then (g, p) :: ps else (g, p') :: putP f p ps) (if g = f then (g, d) :: ds else (g, d') :: putD f d ds)
    by_cases e : g = f
    · rw [if_pos e, if_pos e]; exact .cons r t
    · rw [if_neg e, if_neg e]; exact .cons r' (RpF.put r t)
theorem RpK.val {k : Sum Int Str} : ∀ {ps : List (Sum Int Str × P)} {ds : List (Sum Int Str × D)}, RpK A h ps ds → (valP ps k = none ∧ valD ds k = none) ∨ ∃ p d, valP ps k = some p ∧ valD ds k = some d ∧ Rp A h p d
  | _, _, .nil => .inl ⟨rfl, rfl⟩
  | _, _, @RpK.cons _ _ g p d ps ds r t => by
    by_cases e : g = k
    · exact .inr ⟨p, d, by simp [valP, e], by simp [valD, e], r⟩
    · have e1 : valP ((g, p) :: ps) k = valP ps k := by simp [valP, e]
      have e2 : valD ((g, d) :: ds) k = valD ds k := by simp [valD, e]
      rw [e1, e2]
      exact RpK.val t
theorem Rp.flat {p : P} {d : D} (f : flatP p = true) {A' : Nat → Prop} {h' : Hh} (r : Rp A h p d) : Rp A' h' p d := by
  cases r <;> first | exact .non | exact .bl _ | exact .int _ | exact .str _ | cases f
theorem RpF.flat : ∀ {ps : List (Str × P)} {ds : List (Str × D)} {A' : Nat → Prop} {h' : Hh}, (ps.all fun f => flatP f.2) = true → RpF A h ps ds → RpF A' h' ps ds
  | _, _, _, _, _, .nil => .nil
  | _, _, _, _, f, .cons r t => by
    rw [List.all_cons, Bool.and_eq_true] at f
    exact .cons (r.flat f.1) (RpF.flat f.2 t)
end
/-! ### frames -/
/-- what is kept apart: by the caller, and by the slots that own an object -/
def Av (S : Nat → Prop) (o : Nat → Option Nat) (n : Nat) : Prop := S n ∨ ∃ i, o i = some n
def AvB (cl : Bool) (S : Nat → Prop) (o : Nat → Option Nat) (n : Nat) : Prop := S n ∨ (cl = true ∧ ∃ i, o i = some n)
theorem avB_t {S : Nat → Prop} {o : Nat → Option Nat} : AvB true S o = Av S o := by
  funext n; simp [AvB, Av]
theorem avB_f {S : Nat → Prop} {o : Nat → Option Nat} : AvB false S o = S := by
  funext n; simp [AvB]
structure EnvOk (S : Nat → Prop) (own : List Nat) (o : Nat → Option Nat) (h : Hh) (δ : Dl) (δp : Dp) : Prop where
  len : δp.length = δ.length
  S_lt : ∀ n, S n → n < h.length
  o_lt : ∀ i n, o i = some n → n < h.length ∧ ¬ S n ∧ i ∈ own
  o_inj : ∀ i j n, o i = some n → o j = some n → i = j
  v : ∀ (i : Nat) (p : P), δp[i]? = some (some p) → i ∉ own → ∃ d, δ[i]? = some (some d) ∧ Rp (Av S o) h p d
  w : ∀ (i : Nat) (p : P), δp[i]? = some (some p) → i ∈ own → ∃ n, δ[i]? = some (some (.ref n)) ∧ o i = some n ∧ RpT (Av S o) h n p
section
variable {S : Nat → Prop} {own : List Nat} {o : Nat → Option Nat} {h : Hh} {δ : Dl} {δp : Dp}
theorem EnvOk.lt (E : EnvOk S own o h δ δp) {n : Nat} (a : Av S o n) : n < h.length := by
  rcases a with a | ⟨i, a⟩
  · exact E.S_lt n a
  · exact (E.o_lt i n a).1
theorem EnvOk.ltB (E : EnvOk S own o h δ δp) {cl : Bool} {n : Nat} (a : AvB cl S o n) : n < h.length := by
  rcases a with a | ⟨_, i, a⟩
  · exact E.S_lt n a
  · exact (E.o_lt i n a).1
theorem EnvOk.grow (E : EnvOk S own o h δ δp) (t : Hh) : EnvOk S own o (h ++ t) δ δp where
  len := E.len
  S_lt := fun n s => by have := E.S_lt n s; rw [List.length_append]; omega
  o_lt := fun i n e => by have := E.o_lt i n e; rw [List.length_append]; exact ⟨by omega, this.2⟩
  o_inj := E.o_inj
  v := fun i p e q => by
    obtain ⟨d, e1, r⟩ := E.v i p e q
    exact ⟨d, e1, r.move (.app t)⟩
  w := fun i p e q => by
    obtain ⟨n, e1, e2, r⟩ := E.w i p e q
    refine ⟨n, e1, e2, r.move (.app t) ?_⟩
    rw [List.getElem?_append_left (E.o_lt i n e2).1]
end
/-! ### results -/
def XOk (A : Nat → Prop) (h : Hh) (x : XP) (x' : Xc) : Prop := x'.c = x.c ∧ RpF A h x.fs x'.fs
def SimR {α β : Type} (Q : Hh → β → α → Prop) (A : Nat → Prop) (h : Hh) (r : RE α) (rp : RP β) : Prop := match rp with
  | .ok p => ∃ d t, r = .ok d (h ++ t) ∧ Q (h ++ t) p d
  | .ex x => ∃ x' t, r = .ex x' (h ++ t) ∧ XOk A (h ++ t) x x'
  | .no => True
theorem SimR.bind {α β γ ζ : Type} {Q : Hh → β → α → Prop} {Q' : Hh → ζ → γ → Prop} {A : Nat → Prop} {h : Hh} {r : RE α} {rp : RP β} {f : α → Hh → RE γ} {fp : β → RP ζ}
    (a : SimR Q A h r rp) (k : ∀ p d t, rp = .ok p → Q (h ++ t) p d → SimR Q' A (h ++ t) (f d (h ++ t)) (fp p)) : SimR Q' A h (r.bind f) (rp.bind fp) := by
  cases rp with
  | ok p =>
    obtain ⟨d, t, e, q⟩ := a
    subst e
    have z := k p d t rfl q
    show SimR Q' A h (f d (h ++ t)) (fp p)
    cases z2 : fp p with
    | ok p2 =>
      rw [z2] at z
      obtain ⟨d2, t2, e2, q2⟩ := z
      exact ⟨d2, t ++ t2, by rw [e2, List.append_assoc], by rw [← List.append_assoc]; exact q2⟩
    | ex x =>
      rw [z2] at z
      obtain ⟨d2, t2, e2, q2⟩ := z
      exact ⟨d2, t ++ t2, by rw [e2, List.append_assoc], by rw [← List.append_assoc]; exact q2⟩
    | no => trivial
  | ex x =>
    obtain ⟨x', t, e, q⟩ := a
    subst e
    exact ⟨x', t, rfl, q⟩
  | no => trivial
theorem SimR.ok {α β : Type} {Q : Hh → β → α → Prop} {A : Nat → Prop} {h : Hh} {p : β} {d : α} (q : Q h p d) : SimR Q A h (.ok d h) (.ok p) := ⟨d, [], by rw [List.append_nil], by rw [List.append_nil]; exact q⟩
theorem SimR.mono {α β : Type} {Q Q' : Hh → β → α → Prop} {A A' : Nat → Prop} {h : Hh} {r : RE α} {rp : RP β} (a : SimR Q A h r rp) (k : ∀ t p d, rp = .ok p → Q (h ++ t) p d → Q' (h ++ t) p d) (x : ∀ t, Mv A (h ++ t) A' (h ++ t)) : SimR Q' A' h r rp := by
  cases rp with
  | ok p => obtain ⟨d, t, e, q⟩ := a; exact ⟨d, t, e, k t p d rfl q⟩
  | ex y => obtain ⟨d, t, e, q⟩ := a; exact ⟨d, t, e, q.1, q.2.move (x t)⟩
  | no => trivial
section
variable (own : List Nat)
def SimE (cl : Bool) (m : ME) (mp : MEp) : Prop := ∀ S o h δ δp, EnvOk S own o h δ δp → SimR (fun h' => Rp (AvB cl S o) h') (AvB cl S o) h (m δ h) (mp δp)
def SimT (m : MT) (mp : MTp) : Prop := ∀ S o h δ δp, EnvOk S own o h δ δp → SimR (fun _ b b' => b' = b) (Av S o) h (m δ h) (mp δp)
def SimEs (cl : Bool) (m : MEs) (mp : MEsp) : Prop := ∀ S o h δ δp, EnvOk S own o h δ δp → SimR (fun h' => Rps (AvB cl S o) h') (AvB cl S o) h (m δ h) (mp δp)
end
/-- a function -/
def SimF (f : Sem) (fp : Semp) : Prop := ∀ A h ps ds, (∀ n, A n → n < h.length) → Rps A h ps ds → SimR (fun h' => Rp A h') A h (f ds h) (fp ps)
def SimO (o : O2) (op : O2p) : Prop := ∀ A h x y px py, (∀ n, A n → n < h.length) → Rp A h px x → Rp A h py y → SimR (fun h' => Rp A h') A h (o x y h) (op px py)
def SimU (o : D → Hh → RE D) (op : P → RP P) : Prop := ∀ A h x px, (∀ n, A n → n < h.length) → Rp A h px x → SimR (fun h' => Rp A h') A h (o x h) (op px)
section
variable {own : List Nat} {cl : Bool}
theorem avB_less {S : Nat → Prop} {o : Nat → Option Nat} {h : Hh} {cl cl' : Bool} (k : cl' = true → cl = true) : Mv (AvB cl S o) h (AvB cl' S o) h := .less fun n z => z.elim .inl fun z => .inr ⟨k z.1, z.2⟩
theorem SimE.weak {m : ME} {mp : MEp} (a : SimE own true m mp) : SimE own cl m mp := fun S o h δ δp E => (a S o h δ δp E).mono (fun t p d _ r => r.move (avB_less fun _ => rfl)) fun t => avB_less fun _ => rfl
theorem SimE.down {m : ME} {mp : MEp} (a : SimE own cl m mp) : SimE own false m mp := fun S o h δ δp E => (a S o h δ δp E).mono (fun t p d _ r => r.move (avB_less fun z => by cases z)) fun t => avB_less fun z => by cases z
theorem sim_flat {m : ME} {mp : MEp} (a : SimE own false m mp) : SimE own cl m (pFlat mp) := fun S o h δ δp E => by
  have z := a S o h δ δp E
  unfold pFlat
  cases e : mp δp with
  | ok p =>
    rw [e] at z
    obtain ⟨d, t, e, q⟩ := z
    dsimp only
    split
    · rename_i hf
      exact ⟨d, t, e, q.flat hf⟩
    · trivial
  | ex x =>
    rw [e] at z
    obtain ⟨d, t, e, q⟩ := z
    dsimp only
    split
    · rename_i hf
      exact ⟨d, t, e, q.1, q.2.flat hf⟩
    · trivial
  | no => trivial
theorem sim_var {i : Nat} (hi : i ∉ own) : SimE own cl (mVar i) (pVar i) := SimE.weak fun S o h δ δp E => by
  unfold mVar pVar
  rcases e : δp[i]? with _ | _ | p
  · trivial
  · trivial
  · obtain ⟨d, e1, r⟩ := E.v i p e hi
    rw [e1]
    exact .ok (by rw [avB_t]; exact r)
theorem rpT_ref {A : Nat → Prop} {h : Hh} {n : Nat} {p : P} (a : ¬ A n) (r : RpT A h n p) : Rp A h p (.ref n) := by
  cases p <;> try exact r.elim
  · obtain ⟨ds, e1, r⟩ := r; exact .lst a e1 r
  · obtain ⟨ds, e1, r⟩ := r; exact .dct a e1 r
  · obtain ⟨ds, e1, r⟩ := r; exact .obj a e1 r
theorem sim_varO {i : Nat} (hi : i ∈ own) : SimE own false (mVar i) (pVar i) := fun S o h δ δp E => by
  unfold mVar pVar
  rcases e : δp[i]? with _ | _ | p
  · trivial
  · trivial
  · obtain ⟨n, e1, e2, r⟩ := E.w i p e hi
    rw [e1]
    refine .ok ?_
    rw [avB_f]
    exact rpT_ref (E.o_lt i n e2).2.1 (r.move (.less fun n z => .inl z) rfl)
theorem sim_lit {d : D} {p : P} (r : ∀ A h, Rp A h p d) : SimE own cl (mLit d) (pLit p) := fun S o h δ δp E => .ok (r _ _)
theorem sim_nil : SimEs own cl mNil pNil := fun S o h δ δp E => .ok .nil
theorem sim_cons {m : ME} {mp : MEp} {ms : MEs} {msp : MEsp} (a : SimE own cl m mp) (b : SimEs own cl ms msp) : SimEs own cl (mCons m ms) (pCons mp msp) := fun S o h δ δp E =>
  (a S o h δ δp E).bind fun p d t _ r => (b S o _ δ δp (E.grow t)).bind fun ps ds t2 _ rs => .ok (.cons (r.move (.app t2)) rs)
theorem sim_tup {ms : MEs} {msp : MEsp} (b : SimEs own cl ms msp) : SimE own cl (mTup ms) (pTup msp) := fun S o h δ δp E =>
  (b S o h δ δp E).bind fun ps ds t _ rs => by
    by_cases hl : ps.length ≤ maxLen
    · rw [if_pos hl, if_pos (by rw [← rs.length]; exact hl)]
      exact .ok (.tup rs)
    · rw [if_neg hl]; trivial
theorem new_lst {A : Nat → Prop} {h : Hh} {ps : List P} {ds : List D} (ha : ∀ n, A n → n < h.length) (r : Rps A h ps ds) : Rp A (h ++ [.lst ds]) (.lst ps) (.ref h.length) :=
  .lst (fun z => by have := ha _ z; omega) (by simp) (r.move (.app _))
theorem sim_lst {ms : MEs} {msp : MEsp} (b : SimEs own cl ms msp) : SimE own cl (mLst ms) (pLst msp) := fun S o h δ δp E =>
  (b S o h δ δp E).bind fun ps ds t _ rs => by
    by_cases hl : ps.length ≤ maxLen
    · rw [if_pos hl, if_pos (by rw [← rs.length]; exact hl)]
      exact ⟨_, _, rfl, new_lst (fun n => (E.grow t).ltB) rs⟩
    · rw [if_neg hl]; trivial
theorem sim_bin {o : O2} {op : O2p} {a b : ME} {ap bp : MEp} (ho : SimO o op) (ha : SimE own cl a ap) (hb : SimE own cl b bp) : SimE own cl (mBin o a b) (pBin op ap bp) := fun S o h δ δp E =>
  (ha S o h δ δp E).bind fun p d t _ r => (hb S o _ δ δp (E.grow t)).bind fun p2 d2 t2 _ r2 => ho _ _ _ _ _ _ (fun n => ((E.grow t).grow t2).ltB) (r.move (.app t2)) r2
theorem sim_un {o : D → Hh → RE D} {op : P → RP P} {a : ME} {ap : MEp} (ho : SimU o op) (ha : SimE own cl a ap) : SimE own cl (mUn o a) (pUn op ap) := fun S o h δ δp E =>
  (ha S o h δ δp E).bind fun p d t _ r => ho _ _ _ _ (fun n => (E.grow t).ltB) r
theorem rp_bl {A : Nat → Prop} {h : Hh} {k : Bool} {d : D} (r : Rp A h (.bl k) d) : d = .bl k := by cases r; rfl
theorem sim_chain {o o2 : O2} {op op2 : O2p} {a b c : ME} {ap bp cp : MEp} (ho : SimO o op) (ho2 : SimO o2 op2) (ha : SimE own cl a ap) (hb : SimE own cl b bp) (hc : SimE own cl c cp) : SimE own cl (mChain o o2 a b c) (pChain op op2 ap bp cp) := fun S o h δ δp E =>
  (ha S o h δ δp E).bind fun p d t _ r => (hb S o _ δ δp (E.grow t)).bind fun p2 d2 t2 _ r2 => (ho _ _ _ _ _ _ (fun n => ((E.grow t).grow t2).ltB) (r.move (.app t2)) r2).bind fun p3 d3 t3 _ r3 => by
    cases p3 with
    | bl k =>
      cases rp_bl r3
      cases k with
      | true => exact (hc S o _ δ δp (((E.grow t).grow t2).grow t3)).bind fun p4 d4 t4 _ r4 => ho2 _ _ _ _ _ _ (fun n => ((((E.grow t).grow t2).grow t3).grow t4).ltB) ((r2.move (.app t3)).move (.app t4)) r4
      | false => exact .ok (.bl _)
    | _ => trivial
theorem sim_if {t : MT} {tp : MTp} {a b : ME} {ap bp : MEp} (ht : SimT own t tp) (ha : SimE own cl a ap) (hb : SimE own cl b bp) : SimE own cl (mIf t a b) (pIf tp ap bp) := fun S o h δ δp E =>
  SimR.bind (Q := fun _ b b' => b' = b) ((ht S o h δ δp E).mono (fun _ _ _ _ q => q) fun t => by rw [← avB_t]; exact avB_less fun _ => rfl) fun p d t _ r => by
    subst r
    cases d with
    | true => exact ha S o _ δ δp (E.grow t)
    | false => exact hb S o _ δ δp (E.grow t)
theorem sim_and {a b : ME} {ap bp : MEp} (ha : SimE own cl a ap) (hb : SimE own cl b bp) : SimE own cl (mAnd a b) (pAnd ap bp) := fun S o h δ δp E =>
  (ha S o h δ δp E).bind fun p d t _ r => by
    cases p with
    | bl k =>
      cases rp_bl r
      cases k with
      | true => exact hb S o _ δ δp (E.grow t)
      | false => exact .ok (.bl _)
    | _ => trivial
theorem sim_or {a b : ME} {ap bp : MEp} (ha : SimE own cl a ap) (hb : SimE own cl b bp) : SimE own cl (mOr a b) (pOr ap bp) := fun S o h δ δp E =>
  (ha S o h δ δp E).bind fun p d t _ r => by
    cases p with
    | bl k =>
      cases rp_bl r
      cases k with
      | true => exact .ok (.bl _)
      | false => exact hb S o _ δ δp (E.grow t)
    | _ => trivial
theorem sim_not {a : ME} {ap : MEp} (ha : SimE own cl a ap) : SimE own cl (mNot a) (pNot ap) := fun S o h δ δp E =>
  (ha S o h δ δp E).bind fun p d t _ r => by
    cases p with
    | bl k => cases rp_bl r; exact .ok (.bl _)
    | _ => trivial
theorem sim_call {f : Sem} {fp : Semp} {ms : MEs} {msp : MEsp} (hf : SimF f fp) (ha : SimEs own cl ms msp) : SimE own cl (mCall f ms) (pCall fp msp) := fun S o h δ δp E =>
  (ha S o h δ δp E).bind fun ps ds t _ rs => hf _ _ _ _ (fun n => (E.grow t).ltB) rs
/-! ### tests -/
theorem sim_tE {m : ME} {mp : MEp} (a : SimE own true m mp) : SimT own (tE m) (qE mp) := fun S o h δ δp E => by
  have z := a S o h δ δp E
  rw [avB_t] at z
  exact z.bind fun p d t _ r => by
    cases p with
    | bl k => cases rp_bl r; exact .ok rfl
    | _ => trivial
theorem sim_tAnd {a b : MT} {ap bp : MTp} (ha : SimT own a ap) (hb : SimT own b bp) : SimT own (tAnd a b) (qAnd ap bp) := fun S o h δ δp E =>
  (ha S o h δ δp E).bind fun p d t _ r => by
    subst r
    cases d with
    | true => exact hb S o _ δ δp (E.grow t)
    | false => exact .ok rfl
theorem sim_tOr {a b : MT} {ap bp : MTp} (ha : SimT own a ap) (hb : SimT own b bp) : SimT own (tOr a b) (qOr ap bp) := fun S o h δ δp E =>
  (ha S o h δ δp E).bind fun p d t _ r => by
    subst r
    cases d with
    | true => exact .ok rfl
    | false => exact hb S o _ δ δp (E.grow t)
theorem sim_tNot {a : MT} {ap : MTp} (ha : SimT own a ap) : SimT own (tNot a) (qNot ap) := fun S o h δ δp E =>
  (ha S o h δ δp E).bind fun p d t _ r => by
    subst r
    exact .ok rfl
theorem sim_tTrue : SimT own tTrue qTrue := fun S o h δ δp E => .ok rfl
end
end Mi

/-! Mi, part PC: operations. -/
namespace Mi
open PySem
section
variable {A : Nat → Prop} {h : Hh}
mutual
theorem toPy_rp : ∀ (n : Nat) (p : P) (d : D) (q : PyData), Rp A h p d → toPyP n p = some q → toPy h n d = some q
  | n, .non, _, _, r, e => by cases r; cases n <;> exact e
  | n, .bl b, _, _, r, e => by cases r; cases n <;> exact e
  | n, .int b, _, _, r, e => by cases r; cases n <;> exact e
  | n, .str b, _, _, r, e => by cases r; cases n <;> exact e
  | 0, .tup _, _, _, r, e => by cases e
  | 0, .lst _, _, _, r, e => by cases e
  | 0, .rol _, _, _, r, e => by cases e
  | 0, .dct _, _, _, r, e => by cases e
  | 0, .obj _ _, _, _, r, e => by cases e
  | 0, .cls _, _, _, r, e => by cases e
  | n + 1, .dct _, _, _, r, e => by cases e
  | n + 1, .obj _ _, _, _, r, e => by cases e
  | n + 1, .cls _, _, _, r, e => by cases e
  | n + 1, .tup ps, d, q, r, e => by
    cases r with
    | tup r =>
    have e' : (toPysP n ps).map PyData.tuple = some q := e
    cases z : toPysP n ps with
    | none => rw [z] at e'; cases e'
    | some qs =>
      rw [z] at e'; cases e'
      show (toPys h n _).map PyData.tuple = _
      rw [toPys_rp n ps _ qs r z]; rfl
  | n + 1, .lst ps, d, q, r, e => by
    cases r with
    | lst a e0 r =>
    have e' : (toPysP n ps).map PyData.list = some q := e
    cases z : toPysP n ps with
    | none => rw [z] at e'; cases e'
    | some qs =>
      rw [z] at e'; cases e'
      show (match (h[_]? : Option AO) with
    | some (.lst ds) => (toPys h n ds).map PyData.list
    | some (.rol ds) => (toPys h n ds).map PyData.list
    | _ => none) = _
      rw [e0]
      show (toPys h n _).map PyData.list = _
      rw [toPys_rp n ps _ qs r z]; rfl
  | n + 1, .rol ps, d, q, r, e => by
    cases r with
    | rol a e0 r =>
    have e' : (toPysP n ps).map PyData.list = some q := e
    cases z : toPysP n ps with
    | none => rw [z] at e'; cases e'
    | some qs =>
      rw [z] at e'; cases e'
      show (match (h[_]? : Option AO) with
    | some (.lst ds) => (toPys h n ds).map PyData.list
    | some (.rol ds) => (toPys h n ds).map PyData.list
    | _ => none) = _
      rw [e0]
      show (toPys h n _).map PyData.list = _
      rw [toPys_rp n ps _ qs r z]; rfl
theorem toPys_rp : ∀ (n : Nat) (ps : List P) (ds : List D) (qs : List PyData), Rps A h ps ds → toPysP n ps = some qs → toPys h n ds = some qs
  | n, [], _, _, r, e => by cases r; cases n <;> exact e
  | 0, _ :: _, _, _, r, e => by cases e
  | n + 1, p :: ps, ds, qs, r, e => by
    cases r with
    | cons r1 r2 =>
    have e' : (match toPyP n p, toPysP n ps with
      | some p, some ps => some (p :: ps)
      | _, _ => none) = some qs := e
    cases z1 : toPyP n p with
    | none => rw [z1] at e'; cases e'
    | some p1 =>
      cases z2 : toPysP n ps with
      | none => rw [z1, z2] at e'; cases e'
      | some p2 =>
        rw [z1, z2] at e'; cases e'
        show (match toPy h n _, toPys h n _ with
          | some p, some ps => some (p :: ps)
          | _, _ => none) = _
        rw [toPy_rp n p _ p1 r1 z1, toPys_rp n ps _ p2 r2 z2]
end
theorem eqPy_rp {px py : P} {x y : D} {b : Bool} (r : Rp A h px x) (r2 : Rp A h py y) (e : eqPyP px py = some b) : eqPy h x y = some b := by
  unfold eqPyP at e
  split at e
  · rename_i d e' z1 z2
    unfold eqPy
    rw [toPy_rp _ _ _ _ r z1, toPy_rp _ _ _ _ r2 z2]
    exact e
  · cases e
end
/-- an operation without new objects -/
theorem SimO.pure {o : O2} {op : O2p} (k : ∀ A h x y px py p, Rp A h px x → Rp A h py y → op px py = .ok p → ∃ d, o x y h = .ok d h ∧ Rp A h p d) (nx : ∀ px py x, op px py ≠ .ex x) : SimO o op := fun A h x y px py ha r r2 => by
  cases e : op px py with
  | ok p => obtain ⟨d, e1, r⟩ := k A h x y px py p r r2 e; rw [e1]; exact .ok r
  | ex x => exact absurd e (nx px py x)
  | no => trivial
theorem simo_int {C : Int → Int → Prop} [∀ i j, Decidable (C i j)] {g : Int → Int → Int} {o : O2} {op : O2p} (e : ∀ x y h, o x y h = (match x, y with | .int i, .int j => if C i j then .ok (.int (g i j)) h else .no | _, _ => .no))
    (ep : ∀ x y, op x y = (match x, y with | .int i, .int j => if C i j then .ok (.int (g i j)) else .no | _, _ => .no)) : SimO o op := fun A h x y px py ha r r2 => by
  rw [e, ep]
  cases px <;> first | trivial | (cases py <;> first | trivial | skip)
  cases r; cases r2
  dsimp only
  split
  · exact .ok (.int _)
  · trivial
theorem simo_int0 {g : Int → Int → D} {gp : Int → Int → P} (hg : ∀ A h i j, Rp A h (gp i j) (g i j)) {o : O2} {op : O2p} (e : ∀ x y h, o x y h = (match x, y with | .int i, .int j => .ok (g i j) h | _, _ => .no))
    (ep : ∀ x y, op x y = (match x, y with | .int i, .int j => .ok (gp i j) | _, _ => .no)) : SimO o op := fun A h x y px py ha r r2 => by
  rw [e, ep]
  cases px <;> first | trivial | (cases py <;> first | trivial | skip)
  cases r; cases r2
  exact .ok (hg _ _ _ _)
theorem so_add : SimO opAdd pAdd := fun A h x y px py ha r r2 => by
  cases px <;> first | trivial | (cases py <;> first | trivial | skip)
  · cases r; cases r2; exact .ok (.int _)
  · cases r; cases r2
    unfold pAdd opAdd
    dsimp only
    split
    · exact .ok (.str _)
    · trivial
  · cases r with | tup r =>
    cases r2 with | tup r2 =>
    unfold pAdd opAdd
    dsimp only
    rw [r.length, r2.length]
    split
    · exact .ok (.tup (r.append r2))
    · trivial
  · cases r with | lst a e r =>
    cases r2 with | lst a2 e2 r2 =>
    unfold pAdd opAdd
    dsimp only
    rw [e, e2, r.length, r2.length]
    dsimp only
    split
    · exact ⟨_, _, rfl, new_lst ha (r.append r2)⟩
    · trivial
theorem so_sub : SimO opSub pSub := simo_int0 (g := fun i j => .int (i - j)) (gp := fun i j => .int (i - j)) (fun _ _ _ _ => .int _) (fun x y h => rfl) fun x y => rfl
theorem so_mul : SimO opMul pMul := simo_int (C := fun i j => i.natAbs.log2 + j.natAbs.log2 < 1000000) (g := fun i j => i * j) (fun x y h => rfl) fun x y => rfl
theorem so_fdiv : SimO opFdiv pFdiv := simo_int (C := fun i j => 0 < j ∧ j.natAbs.log2 < 9000) (g := fun i j => i / j) (fun x y h => rfl) fun x y => rfl
theorem so_mod : SimO opMod pMod := simo_int (C := fun i j => 0 < j) (g := fun i j => i % j) (fun x y h => rfl) fun x y => rfl
theorem so_pow : SimO opPow pPow := simo_int (C := fun i j => 0 ≤ j ∧ j ≤ 1000000 ∧ i.natAbs < 2 ^ 64) (g := fun i j => i ^ j.toNat) (fun x y h => rfl) fun x y => rfl
theorem so_shl : SimO opShl pShl := simo_int (C := fun i j => 0 ≤ j ∧ j ≤ 1000000 ∧ i.natAbs < 2 ^ 64) (g := fun i j => i * 2 ^ j.toNat) (fun x y h => rfl) fun x y => rfl
theorem so_shr : SimO opShr pShr := simo_int (C := fun i j => 0 ≤ j) (g := fun i j => i / 2 ^ j.toNat) (fun x y h => rfl) fun x y => rfl
theorem so_band : SimO opAnd pBand := simo_int0 (g := fun i j => .int (Builtin.bitAnd i j)) (gp := fun i j => .int (Builtin.bitAnd i j)) (fun _ _ _ _ => .int _) (fun x y h => rfl) fun x y => rfl
theorem su_neg : SimU unNeg pNeg := fun A h x px ha r => by
  cases px <;> first | trivial | skip
  cases r
  exact .ok (.int _)
theorem so_eq : SimO cmEq qEq := fun A h x y px py ha r r2 => by
  unfold qEq cmEq
  cases e : eqPyP px py with
  | some b => rw [eqPy_rp r r2 e]; exact .ok (.bl _)
  | none => trivial
theorem so_ne : SimO cmNe qNe := fun A h x y px py ha r r2 => by
  unfold qNe cmNe
  cases e : eqPyP px py with
  | some b => rw [eqPy_rp r r2 e]; exact .ok (.bl _)
  | none => trivial
theorem so_i {p : Int → Int → Bool} : SimO (cmI p) (qI p) := simo_int0 (g := fun i j => .bl (p i j)) (gp := fun i j => .bl (p i j)) (fun _ _ _ _ => .bl _) (fun x y h => rfl) fun x y => rfl
theorem so_is : SimO cmIs qIs := fun A h x y px py ha r r2 => by
  cases py <;> first | trivial | skip
  cases r2
  cases r <;> exact .ok (.bl _)
theorem so_isNot : SimO cmIsNot qIsNot := fun A h x y px py ha r r2 => by
  cases py <;> first | trivial | skip
  cases r2
  cases r <;> exact .ok (.bl _)
section
variable {A : Nat → Prop} {h : Hh}
theorem flatD_rp {p : P} {d : D} (r : Rp A h p d) (f : flatP p = true) : flatD d = true := by
  cases r <;> first | rfl | cases f
theorem flatsD_rp : ∀ {p : List P} {d : List D}, Rps A h p d → p.all flatP = true → d.all flatD = true
  | _, _, .nil, _ => rfl
  | _, _, .cons r t, f => by
    rw [List.all_cons, Bool.and_eq_true] at f ⊢
    exact ⟨flatD_rp r f.1, flatsD_rp t f.2⟩
theorem eqFl_rp {p q : P} {d e : D} (r : Rp A h p d) (r2 : Rp A h q e) (f : flatP p = true) (f2 : flatP q = true) : eqFl d e = eqFlP p q := by
  cases r <;> first | (cases f; done) | (cases r2 <;> first | (cases f2; done) | rfl)
theorem inFl_rp {x : P} {v : D} (r : Rp A h x v) (f : flatP x = true) : ∀ {ps : List P} {ds : List D}, Rps A h ps ds → ps.all flatP = true → inFl v ds = inFlP x ps
  | _, _, .nil, _ => rfl
  | _, _, .cons r1 t, g => by
    rw [List.all_cons, Bool.and_eq_true] at g
    have ih := inFl_rp r f t g.2
    unfold inFl inFlP at ih ⊢
    rw [List.any_cons, List.any_cons, ih, eqFl_rp r1 r g.1 f]
theorem key_rp {p : P} {d : D} (r : Rp A h p d) {k : Sum Int Str} (e : keyOfP p = some k) : keyOfD d = some k := by
  cases r <;> first | exact e | cases e
theorem isIn_rp {px py : P} {x y : D} {b : Bool} (r : Rp A h px x) (r2 : Rp A h py y) (e : isInP px py = some b) : isIn x y h = some b := by
  unfold isInP at e
  cases py <;> first | (cases e; done) | skip
  · cases r2
    dsimp only at e
    split at e
    · rename_i s t
      cases r
      exact e
    · cases e
  · cases r2 with | tup r2 =>
    dsimp only at e
    split at e
    · rename_i hf
      rw [Bool.and_eq_true] at hf
      cases e
      unfold isIn
      dsimp only
      rw [if_pos (by rw [Bool.and_eq_true]; exact ⟨flatD_rp r hf.1, flatsD_rp r2 hf.2⟩), inFl_rp r hf.1 r2 hf.2]
    · cases e
  · rename_i ps
    have rr := r2
    cases r2 with | @lst n _ ds a e0 r2 =>
    dsimp only at e
    unfold isIn
    dsimp only
    rw [e0]
    dsimp only
    by_cases hf : (flatP px && ps.all flatP) = true
    · rw [if_pos hf] at e
      rw [Bool.and_eq_true] at hf
      cases e
      rw [if_pos (by rw [Bool.and_eq_true]; exact ⟨flatD_rp r hf.1, flatsD_rp r2 hf.2⟩), inFl_rp r hf.1 r2 hf.2]
    · rw [if_neg hf] at e
      split at e
      · rename_i d es z1 z2
        have y1 := toPy_rp _ _ _ _ r z1
        have y2 := toPy_rp _ _ _ _ rr z2
        by_cases hg : (flatD x && ds.all flatD) = true
        · exfalso
          apply hf
          rw [Bool.and_eq_true] at hg ⊢
          have key : ∀ {p : P} {d : D}, Rp A h p d → flatD d = true → flatP p = true := fun r f => by cases r <;> first | rfl | cases f
          have keys : ∀ {p : List P} {d : List D}, Rps A h p d → d.all flatD = true → p.all flatP = true := fun {p d} r => by
            induction p generalizing d with
            | nil => intro _; rfl
            | cons q qs ih =>
              cases r with
              | cons r t =>
                intro f
                rw [List.all_cons, Bool.and_eq_true] at f ⊢
                exact ⟨key r f.1, ih t f.2⟩
          exact ⟨key r hg.1, keys r2 hg.2⟩
        · rw [if_neg hg, y1, y2]
          exact e
      · cases e
  · cases r2 with | dct a e0 r2 =>
    dsimp only at e
    split at e
    · rename_i k hk
      unfold isIn
      dsimp only
      rw [e0]
      dsimp only
      rw [key_rp r hk]
      dsimp only
      rcases r2.val (k := k) with ⟨e1, e2⟩ | ⟨p, d, e1, e2, _⟩
      · rw [e1] at e; rw [e2]; exact e
      · rw [e1] at e; rw [e2]; exact e
    · cases e
end
theorem so_in : SimO cmIn qIn := fun A h x y px py ha r r2 => by
  unfold qIn cmIn
  cases e : isInP px py with
  | some b => rw [isIn_rp r r2 e]; exact .ok (.bl _)
  | none => trivial
theorem so_notIn : SimO cmNotIn qNotIn := fun A h x y px py ha r r2 => by
  unfold qNotIn cmNotIn
  cases e : isInP px py with
  | some b => rw [isIn_rp r r2 e]; exact .ok (.bl _)
  | none => trivial
theorem so_cmp : ∀ op : CmpOp, SimO (cmp op) (cmpP op)
  | .Eq => so_eq
  | .NotEq => so_ne
  | .Lt => so_i
  | .LtE => so_i
  | .Gt => so_i
  | .GtE => so_i
  | .Is => so_is
  | .IsNot => so_isNot
  | .In => so_in
  | .NotIn => so_notIn
section
variable {A : Nat → Prop} {h : Hh}
theorem atD_rp {ps : List P} {ds : List D} {i : Int} {p : P} (r : Rps A h ps ds) (e : atD ps i = some p) : ∃ d, atD ds i = some d ∧ Rp A h p d := by
  unfold atD at e ⊢
  rw [← r.length]
  cases z : ixD ps.length i with
  | none => rw [z] at e; cases e
  | some j =>
    rw [z] at e
    exact r.get (show ps[j]? = some p from e)
theorem isDk_rp {p : P} {d : D} (r : Rp A h p d) : isDk h d = (match p with | .dct _ => true | _ => false) := by
  cases r <;> first | rfl | (unfold isDk; dsimp only; simp only [*])
end
theorem so_ix : SimO opSub' pIx := fun A h x y px py ha r r2 => by
  unfold opSub'
  rw [isDk_rp r]
  cases px <;> first | trivial | skip
  · -- text
    cases py <;> first | trivial | skip
    cases r; cases r2
    dsimp only
    unfold pIx opIx
    simp only [Bool.false_eq_true, if_false]
    split
    · rename_i s i _
      cases e : atD s.cps.toList i with
      | none => trivial
      | some c => exact .ok (.str _)
    · trivial
  · cases py <;> first | trivial | skip
    cases r with | tup r =>
    cases r2
    unfold pIx opIx
    simp only [Bool.false_eq_true, if_false]
    cases e : atD (α := P) _ _ with
    | none => trivial
    | some p =>
      obtain ⟨d, e1, q⟩ := atD_rp r e
      rw [e1]
      exact .ok q
  · cases py <;> first | trivial | skip
    cases r with | lst a e0 r =>
    cases r2
    unfold pIx opIx lstAt
    simp only [Bool.false_eq_true, if_false, e0]
    cases e : atD (α := P) _ _ with
    | none => trivial
    | some p =>
      obtain ⟨d, e1, q⟩ := atD_rp r e
      rw [e1]
      exact .ok q
  · cases py <;> first | trivial | skip
    cases r with | rol a e0 r =>
    cases r2
    unfold pIx opIx lstAt
    simp only [Bool.false_eq_true, if_false, e0]
    cases e : atD (α := P) _ _ with
    | none => trivial
    | some p =>
      obtain ⟨d, e1, q⟩ := atD_rp r e
      rw [e1]
      exact .ok q
  · rename_i ps
    cases r with | @dct n _ ds a e0 r =>
    have ep : pIx (.dct ps) py = (match keyOfP py with
    | some k => match valP ps k with
      | some d => .ok d
      | none => .no
    | none => .no) := by cases py <;> rfl
    rw [ep]
    simp only [if_true]
    cases hk : keyOfP py with
    | none => trivial
    | some k =>
      have ed : opDk (.ref n) y h = (match valD ds k with
        | some d => .ok d h
        | none => .no) := by
        unfold opDk
        rw [key_rp r2 hk]
        dsimp only
        rw [e0] <;> rfl
      rw [ed]
      dsimp only
      rcases r.val (k := k) with ⟨e1, e2⟩ | ⟨p, d, e1, e2, q⟩
      · rw [e1]; trivial
      · rw [e1, e2]; exact .ok q
end Mi

/-! Mi, part PD: classes, methods, iteration, list comprehensions, built-in functions. -/
namespace Mi
open PySem
inductive Pw {α β : Type} (R : α → β → Prop) : List (Str × α) → List (Str × β) → Prop
  | nil : Pw R [] []
  | cons {x : Str} {a : α} {b : β} {l : List (Str × α)} {m : List (Str × β)} : R a b → Pw R l m → Pw R ((x, a) :: l) ((x, b) :: m)
theorem Pw.look {α β : Type} {R : α → β → Prop} {x : Str} : ∀ {l : List (Str × α)} {m : List (Str × β)}, Pw R l m → (l.lookup x = none ∧ m.lookup x = none) ∨ ∃ a b, l.lookup x = some a ∧ m.lookup x = some b ∧ R a b
  | _, _, .nil => .inl ⟨rfl, rfl⟩
  | _, _, @Pw.cons _ _ _ y a b l m r t => by
    by_cases e : x = y
    · have hb : (x == y) = true := beq_iff_eq.mpr e
      exact .inr ⟨a, b, by simp only [List.lookup, hb], by simp only [List.lookup, hb], r⟩
    · have hb : (x == y) = false := beq_eq_false_iff_ne.mpr e
      simp only [List.lookup, hb]
      exact Pw.look t
structure CiOk (ci : CI) (cp : CIP) : Prop where
  id : ci.id = cp.id
  fields : ci.fields = cp.fields
  consts : Pw (fun d p => ∀ A h, Rp A h p d) ci.consts cp.consts
  props : Pw SimF ci.props cp.props
  meths : Pw SimF ci.meths cp.meths
  below : ci.below = cp.below
inductive CsOk : List CI → List CIP → Prop
  | nil : CsOk [] []
  | cons {ci : CI} {cp : CIP} {l : List CI} {m : List CIP} : CiOk ci cp → CsOk l m → CsOk (ci :: l) (cp :: m)
theorem CsOk.find {c : Nat} : ∀ {l : List CI} {m : List CIP}, CsOk l m → ((l.find? fun ci => ci.id == c) = none ∧ (m.find? fun ci => ci.id == c) = none) ∨ ∃ ci cp, (l.find? fun ci => ci.id == c) = some ci ∧ (m.find? fun ci => ci.id == c) = some cp ∧ CiOk ci cp
  | _, _, .nil => .inl ⟨rfl, rfl⟩
  | _, _, @CsOk.cons ci cp l m r t => by
    rw [List.find?_cons, List.find?_cons, r.id]
    cases (cp.id == c) with
    | true => exact .inr ⟨ci, cp, rfl, rfl, r⟩
    | false => exact CsOk.find t
theorem CsOk.ids : ∀ {l : List CI} {m : List CIP}, CsOk l m → tagsOf l = tagsP m := fun {l m} k => by
  unfold tagsOf tagsP
  congr 1
  induction k with
  | nil => rfl
  | cons r _ ih => rw [List.map_cons, List.map_cons, r.id, ih]
theorem CsOk.meth {cs : List CI} {cp : List CIP} (k : CsOk cs cp) {c : Nat} {m : Str} : (methAt cs c m = none ∧ methP cp c m = none) ∨ ∃ f fp, methAt cs c m = some f ∧ methP cp c m = some fp ∧ SimF f fp := by
  unfold methAt methP
  rcases k.find (c := c) with ⟨e1, e2⟩ | ⟨ci, ip, e1, e2, r⟩
  · rw [e1, e2]; exact .inl ⟨rfl, rfl⟩
  · rw [e1, e2]; exact r.meths.look
section
variable {A : Nat → Prop} {h : Hh}
theorem tg_rp {p : P} {d : D} (r : Rp A h p d) : tgOf h d = tgP p := by
  cases r <;> first | rfl | (unfold tgOf; dsimp only; simp only [*]; rfl)
theorem cls_rp {p : P} {d : D} (r : Rp A h p d) : clsAt h d = (match p with | .obj c _ => some c | _ => none) := by
  cases r <;> first | rfl | (unfold clsAt; dsimp only; simp only [*])
theorem tagIn_rp {cs : List CI} {cp : List CIP} (k : CsOk cs cp) {c : Nat} {p : P} {d : D} (r : Rp A h p d) : tagIn cs c h d = tagInP cp c p := by
  unfold tagIn tagInP
  rw [tg_rp r, k.ids]
  cases tgP p with
  | none => rfl
  | some t =>
    dsimp only
    rcases k.find (c := c) with ⟨e1, e2⟩ | ⟨ci, ip, e1, e2, q⟩
    · rw [e1, e2]
    · rw [e1, e2]
      congr 1
      cases t with
      | b s => rfl
      | c m => show (!ci.below.contains m) = (!ip.below.contains m); rw [q.below]
end
theorem su_attr {cs : List CI} {cp : List CIP} (k : CsOk cs cp) (f : Str) : SimU (attrOf cs f) (attrP cp f) := fun A h x px ha r => by
  have rr := r
  cases r <;> first | trivial | skip
  rename_i n c ps ds a e r
  unfold attrOf attrP
  dsimp only
  rw [e]
  dsimp only
  rcases k.find (c := c) with ⟨e1, e2⟩ | ⟨ci, ip, e1, e2, q⟩
  · rw [e2]; trivial
  · rw [e1, e2]
    dsimp only
    rw [q.fields]
    split
    · rcases r.lookup (f := f) with ⟨z1, z2⟩ | ⟨p, d, z1, z2, w⟩
      · rw [z1]; trivial
      · rw [z1, z2]; exact .ok w
    · rcases q.props.look (x := f) with ⟨z1, z2⟩ | ⟨s, sp, z1, z2, w⟩
      · rw [z1, z2]
        dsimp only
        rcases q.consts.look (x := f) with ⟨y1, y2⟩ | ⟨d, p, y1, y2, v⟩
        · rw [y2]; trivial
        · rw [y1, y2]
          dsimp only
          rcases r.lookup (f := f) with ⟨x1, x2⟩ | ⟨p, d, x1, x2, w⟩
          · rw [x1, x2]; exact .ok (v _ _)
          · rw [x1]; trivial
      · rw [z1, z2]
        dsimp only
        have y := w A h [.obj c ps] [.ref n] ha (.cons rr .nil)
        cases z : sp [.obj c ps] with
        | ok p => rw [z] at y; obtain ⟨d, t, e3, y⟩ := y; rw [e3]; exact ⟨d, t, rfl, y⟩
        | ex x => trivial
        | no => trivial
section
variable {own : List Nat} {cl : Bool} {cs : List CI} {cp : List CIP}
theorem sim_attr (k : CsOk cs cp) (f : Str) {a : ME} {ap : MEp} (ha : SimE own cl a ap) : SimE own cl (mAttr cs f a) (pAttr cp f ap) := sim_un (su_attr k f) ha
theorem sim_meth (k : CsOk cs cp) (m : Str) {a : ME} {ap : MEp} {ms : MEs} {msp : MEsp} (ha : SimE own cl a ap) (hs : SimEs own cl ms msp) : SimE own cl (mMeth cs m a ms) (pMeth cp m ap msp) := fun S o h δ δp E =>
  (ha S o h δ δp E).bind fun p d t _ r => by
    have rr := r
    cases p <;> first | trivial | skip
    rename_i c ps _
    cases r with | @obj n _ _ ds a e r =>
    dsimp only
    rw [e]
    dsimp only
    rcases r.lookup (f := m) with ⟨x1, x2⟩ | ⟨p, d, x1, x2, w⟩
    · rw [x1, x2]
      dsimp only [Option.isSome]
      simp only [Bool.false_eq_true, if_false]
      rcases k.meth (c := c) (m := m) with ⟨e1, e2⟩ | ⟨f, fp, e1, e2, q⟩
      · rw [e2]; trivial
      · rw [e1, e2]
        exact (hs S o _ δ δp (E.grow t)).bind fun ps ds t2 _ rs => q _ _ _ _ (fun n => ((E.grow t).grow t2).ltB) (.cons (rr.move (.app t2)) rs)
    · rw [x1]; trivial
theorem sim_callI (k : CsOk cs cp) {a : ME} {ap : MEp} {ms : MEs} {msp : MEsp} (ha : SimE own cl a ap) (hs : SimEs own cl ms msp) : SimE own cl (mCallI cs a ms) (pCallI cp ap msp) := fun S o h δ δp E =>
  (ha S o h δ δp E).bind fun p d t _ r => by
    have rr := r
    cases p <;> first | trivial | skip
    rename_i c ps _
    cases r with | @obj n _ _ ds a e r =>
    exact (hs S o _ δ δp (E.grow t)).bind fun qs es t2 _ rs => by
      unfold callI callIP
      have e2 : clsAt (h ++ t ++ t2) (.ref n) = some c := by unfold clsAt; dsimp only; rw [app_at e t2]
      rw [e2]
      dsimp only
      rcases k.meth (c := c) (m := "__call__") with ⟨e1, e2⟩ | ⟨f, fp, e1, e2, q⟩
      · rw [e2]; trivial
      · rw [e1, e2]
        exact q _ _ _ _ (fun n => ((E.grow t).grow t2).ltB) (.cons (rr.move (.app t2)) rs)
theorem so_own (k : CsOk cs cp) (nm : Str) {o : O2} {op : O2p} (ho : SimO o op) : SimO (opOwn cs nm o) (ownP cp nm op) := fun A h x y px py ha r r2 => by
  unfold opOwn
  rw [cls_rp r]
  cases px <;> first | exact ho A h x y _ py ha r r2 | skip
  rename_i c fs
  dsimp only
  unfold ownP
  dsimp only
  rcases k.meth (c := c) (m := nm) with ⟨e1, e2⟩ | ⟨f, fp, e1, e2, q⟩
  · rw [e2]; trivial
  · rw [e1, e2]
    dsimp only
    rw [tagIn_rp k r2]
    split
    · exact q _ _ _ _ ha (.cons r (.cons r2 .nil))
    · trivial
theorem so_arith (k : CsOk cs cp) (nm : Str) {o : O2} {op : O2p} (ho : SimO o op) : SimO (opArith cs nm o) (arithP cp nm op) := fun A h x y px py ha r r2 => by
  unfold opArith
  rw [cls_rp r]
  cases px <;> first | exact ho A h x y _ py ha r r2 | skip
  rename_i c fs
  dsimp only
  unfold arithP
  dsimp only
  rcases k.meth (c := c) (m := nm) with ⟨e1, e2⟩ | ⟨f, fp, e1, e2, q⟩
  · rw [e2]; trivial
  · rw [e1, e2]
    dsimp only
    rw [tg_rp r2]
    rcases tgP py with _ | (t | c')
    · trivial
    · dsimp only
      split
      · exact q _ _ _ _ ha (.cons r (.cons r2 .nil))
      · trivial
    · dsimp only
      split
      · exact q _ _ _ _ ha (.cons r (.cons r2 .nil))
      · trivial
theorem so_neOwn (k : CsOk cs cp) : SimO (opNe cs) (neP cp) := fun A h x y px py ha r r2 => by
  unfold opNe
  rw [cls_rp r]
  cases px <;> first | exact so_ne A h x y _ py ha r r2 | skip
  rename_i c fs
  dsimp only
  unfold neP
  dsimp only
  rcases k.meth (c := c) (m := "__eq__") with ⟨e1, e2⟩ | ⟨f, fp, e1, e2, q⟩
  · rw [e2]; trivial
  · rw [e1, e2]
    dsimp only
    rw [tagIn_rp k r2]
    split
    · exact (q _ _ _ _ ha (.cons r (.cons r2 .nil))).bind fun p d t _ r => by
        cases p with
        | bl b => cases rp_bl r; exact .ok (.bl _)
        | _ => trivial
    · trivial
theorem su_own (k : CsOk cs cp) (nm : Str) {o : D → Hh → RE D} {op : P → RP P} (ho : SimU o op) : SimU (unOwn cs nm o) (unOwnP cp nm op) := fun A h x px ha r => by
  unfold unOwn
  rw [cls_rp r]
  cases px <;> first | exact ho A h x _ ha r | skip
  rename_i c fs
  dsimp only
  unfold unOwnP
  dsimp only
  rcases k.meth (c := c) (m := nm) with ⟨e1, e2⟩ | ⟨f, fp, e1, e2, q⟩
  · rw [e2]; trivial
  · rw [e1, e2]
    exact q _ _ _ _ ha (.cons r .nil)
theorem su_is (sub : List (Nat × Nat)) (tgs ts : List Tg) : SimU (opIs sub tgs ts) (isP sub tgs ts) := fun A h x px ha r => by
  unfold opIs isP
  rw [tg_rp r]
  cases tgP px with
  | none => trivial
  | some t =>
    dsimp only
    split
    · exact .ok (.bl _)
    · trivial
end
/-! ### what is walked -/
def ItOk (A : Nat → Prop) (h : Hh) : It → List P → Prop
  | .fix ds, ps => Rps A h ps ds
  | .ls n, ps => ∃ ds, lstAt h n = some ds ∧ Rps A h ps ds
def ItOff (A : Nat → Prop) : It → Prop
  | .fix _ => True
  | .ls n => ¬ A n
theorem lstAt_lt {h : Hh} {n : Nat} {ds : List D} (e : lstAt h n = some ds) : n < h.length := by
  unfold lstAt at e
  split at e
  · exact at_lt (by assumption)
  · exact at_lt (by assumption)
  · cases e
theorem ItOk.move {A A' : Nat → Prop} {h h' : Hh} (m : Mv A h A' h') {J : It} {ps : List P} (e : ∀ n, n < h.length → J = .ls n → h'[n]? = h[n]?) (r : ItOk A h J ps) : ItOk A' h' J ps := by
  cases J with
  | fix ds => exact Rps.move m r
  | ls n =>
    obtain ⟨ds, e1, r⟩ := r
    refine ⟨ds, ?_, r.move m⟩
    rw [← e1]
    unfold lstAt
    rw [e n (lstAt_lt e1) rfl]
/-- cl: what is walked is no object of the frame's own -/
def SimI (own : List Nat) (cl : Bool) (m : MI) (mp : MIp) : Prop := ∀ S o h δ δp, EnvOk S own o h δ δp → SimR (fun h' ps J => ItOk (Av S o) h' J ps ∧ (cl = true → ItOff (Av S o) J)) (Av S o) h (m δ h) (mp δp)
section
variable {own : List Nat} {cl : Bool}
theorem SimI.down {m : MI} {mp : MIp} (a : SimI own true m mp) : SimI own false m mp := fun S o h δ δp E => (a S o h δ δp E).mono (fun t p d _ q => ⟨q.1, fun z => by cases z⟩) fun t => .refl
theorem sim_it {m : ME} {mp : MEp} (a : SimE own true m mp) : SimI own true (Mi.iList m) (jList mp) := fun S o h δ δp E => by
  have z := a S o h δ δp E
  rw [avB_t] at z
  exact z.bind fun p d t _ r => by
    cases p <;> first | trivial | skip
    · cases r with | tup r => exact .ok ⟨r, fun _ => trivial⟩
    · cases r with | @lst n _ ds a e r =>
      have e1 : lstAt (h ++ t) n = some ds := by unfold lstAt; rw [e]
      dsimp only
      rw [e1]
      exact .ok ⟨⟨_, e1, r⟩, fun _ => a⟩
    · cases r with | @rol n _ ds a e r =>
      have e1 : lstAt (h ++ t) n = some ds := by unfold lstAt; rw [e]
      dsimp only
      rw [e1]
      exact .ok ⟨⟨_, e1, r⟩, fun _ => a⟩
theorem sim_itO {i : Nat} (hi : i ∈ own) : SimI own false (Mi.iList (mVar i)) (jList (pVar i)) := fun S o h δ δp E => by
  unfold jList Mi.iList mVar pVar
  rcases e : δp[i]? with _ | _ | p
  · trivial
  · trivial
  · obtain ⟨n, e1, e2, r⟩ := E.w i p e hi
    rw [e1]
    cases p <;> first | exact r.elim | skip
    · obtain ⟨ds, e3, r⟩ := r
      have e4 : lstAt h n = some ds := by unfold lstAt; rw [e3]
      show SimR _ _ h (match lstAt h n with
        | some _ => RE.ok (It.ls n) h
        | none => .no) (RP.ok _)
      rw [e4]
      exact .ok ⟨⟨ds, e4, r⟩, fun z => by cases z⟩
    · trivial
    · trivial
theorem rangeL_rp {A : Nat → Prop} {h : Hh} {lo : Int} {n : Nat} : Rps A h (rangeP lo n) (rangeL lo n) := by
  unfold rangeP rangeL
  induction (List.range n) with
  | nil => exact .nil
  | cons a l ih => exact .cons (.int _) ih
theorem sim_range1 {m : ME} {mp : MEp} (a : SimE own true m mp) : SimI own true (iRange1 m) (jRange1 mp) := fun S o h δ δp E => by
  have z := a S o h δ δp E
  rw [avB_t] at z
  exact z.bind fun p d t _ r => by
    cases p <;> first | trivial | skip
    cases r
    dsimp only
    split
    · exact .ok ⟨rangeL_rp, fun _ => trivial⟩
    · trivial
theorem sim_range2 {m m2 : ME} {mp mp2 : MEp} (a : SimE own true m mp) (b : SimE own true m2 mp2) : SimI own true (iRange2 m m2) (jRange2 mp mp2) := fun S o h δ δp E => by
  have z := a S o h δ δp E
  rw [avB_t] at z
  exact z.bind fun p d t _ r => by
    have z2 := b S o _ δ δp (E.grow t)
    rw [avB_t] at z2
    exact z2.bind fun p2 d2 t2 _ r2 => by
      cases p <;> first | trivial | (cases p2 <;> first | trivial | skip)
      cases r
      cases r2
      dsimp only
      split
      · exact .ok ⟨rangeL_rp, fun _ => trivial⟩
      · trivial
end
/-! ### targets -/
def SimG (own : List Nat) (g : MG) (gp : MGp) : Prop := ∀ S o h δ δp p d, EnvOk S own o h δ δp → Rp (Av S o) h p d → match gp p δp with
  | some δp' => ∃ δ', g d δ = some δ' ∧ EnvOk S own o h δ' δp'
  | none => True
def SimGs (own : List Nat) (g : MGs) (gp : MGsp) : Prop := ∀ S o h δ δp p d, EnvOk S own o h δ δp → Rps (Av S o) h p d → match gp p δp with
  | some δp' => ∃ δ', g d δ = some δ' ∧ EnvOk S own o h δ' δp'
  | none => True
section
variable {own : List Nat} {S : Nat → Prop} {o : Nat → Option Nat} {h : Hh} {δ : Dl} {δp : Dp}
theorem set_at {α : Type} {l : List α} {i j : Nat} {a b : α} (e : (l.set i a)[j]? = some b) : (j = i ∧ b = a ∧ i < l.length) ∨ (j ≠ i ∧ l[j]? = some b) := by
  by_cases hj : i = j
  · subst hj
    have hl : i < l.length := by
      have := (List.getElem?_eq_some_iff.mp e).1
      simpa using this
    rw [List.getElem?_set_self hl] at e
    exact .inl ⟨rfl, (Option.some.inj e).symm, hl⟩
  · rw [List.getElem?_set_ne hj] at e
    exact .inr ⟨Ne.symm hj, e⟩
theorem EnvOk.set {i : Nat} {p : P} {d : D} (E : EnvOk S own o h δ δp) (hi : i ∉ own) (r : Rp (Av S o) h p d) : EnvOk S own o h (δ.set i (some d)) (δp.set i (some p)) where
  len := by simp [E.len]
  S_lt := E.S_lt
  o_lt := E.o_lt
  o_inj := E.o_inj
  v := fun j q e hj => by
    rcases set_at e with ⟨rfl, e2, hl⟩ | ⟨hn, e2⟩
    · cases e2
      exact ⟨d, by rw [List.getElem?_set_self (by rw [← E.len]; exact hl)], r⟩
    · obtain ⟨d', e3, r'⟩ := E.v j q e2 hj
      exact ⟨d', by rw [List.getElem?_set_ne (Ne.symm hn)]; exact e3, r'⟩
  w := fun j q e hj => by
    rcases set_at e with ⟨rfl, e2, hl⟩ | ⟨hn, e2⟩
    · exact absurd hj hi
    · obtain ⟨d', e3, r'⟩ := E.w j q e2 hj
      exact ⟨d', by rw [List.getElem?_set_ne (Ne.symm hn)]; exact e3, r'⟩
theorem EnvOk.unset (i : Nat) (E : EnvOk S own o h δ δp) : EnvOk S own o h (δ.set i none) (δp.set i none) where
  len := by simp [E.len]
  S_lt := E.S_lt
  o_lt := E.o_lt
  o_inj := E.o_inj
  v := fun j q e hj => by
    rcases set_at e with ⟨rfl, e2, hl⟩ | ⟨hn, e2⟩
    · cases e2
    · obtain ⟨d', e3, r'⟩ := E.v j q e2 hj
      exact ⟨d', by rw [List.getElem?_set_ne (Ne.symm hn)]; exact e3, r'⟩
  w := fun j q e hj => by
    rcases set_at e with ⟨rfl, e2, hl⟩ | ⟨hn, e2⟩
    · cases e2
    · obtain ⟨d', e3, r'⟩ := E.w j q e2 hj
      exact ⟨d', by rw [List.getElem?_set_ne (Ne.symm hn)]; exact e3, r'⟩
theorem EnvOk.wipe (E : EnvOk S own o h δ δp) : ∀ vs : List Nat, EnvOk S own o h (wipeD δ vs) (wipeP δp vs)
  | [] => E
  | v :: vs => (EnvOk.wipe E vs).unset v
/-- one more is kept apart, which is new -/
theorem EnvOk.apart {r : Nat} {t : Hh} (E : EnvOk S own o h δ δp) (hr : h.length ≤ r) (ht : r < (h ++ t).length) : EnvOk (fun n => S n ∨ n = r) own o (h ++ t) δ δp where
  len := E.len
  S_lt := fun n z => by
    rcases z with z | rfl
    · have := E.S_lt n z; rw [List.length_append]; omega
    · exact ht
  o_lt := fun i n e => by
    have := E.o_lt i n e
    rw [List.length_append]
    refine ⟨by omega, fun z => ?_, this.2.2⟩
    rcases z with z | rfl
    · exact this.2.1 z
    · omega
  o_inj := E.o_inj
  v := fun i p e q => by
    obtain ⟨d, e1, r⟩ := E.v i p e q
    refine ⟨d, e1, (r.move (A' := Av (fun n => S n ∨ n = _) o) (.fresh fun n z => ?_)).move (.app t)⟩
    rcases z with (z | rfl) | z
    · exact .inl (.inl z)
    · exact .inr hr
    · exact .inl (.inr z)
  w := fun i p e q => by
    obtain ⟨n, e1, e2, r⟩ := E.w i p e q
    refine ⟨n, e1, e2, (r.move (A' := Av (fun n => S n ∨ n = _) o) (.fresh fun n z => ?_) rfl).move (.app t) ?_⟩
    · rcases z with (z | rfl) | z
      · exact .inl (.inl z)
      · exact .inr hr
      · exact .inl (.inr z)
    · rw [List.getElem?_append_left (E.o_lt i n e2).1]
/-- the object at r, which is kept apart, is another one -/
theorem EnvOk.other {r : Nat} {u : AO} (E : EnvOk S own o h δ δp) (hr : S r) : EnvOk S own o (h.set r u) δ δp where
  len := E.len
  S_lt := fun n z => by rw [List.length_set]; exact E.S_lt n z
  o_lt := fun i n e => by rw [List.length_set]; exact E.o_lt i n e
  o_inj := E.o_inj
  v := fun i p e q => by
    obtain ⟨d, e1, r'⟩ := E.v i p e q
    exact ⟨d, e1, r'.move fun n ob a e => ⟨a, by rw [List.getElem?_set_ne (fun z : r = n => a (.inl (by rw [← z]; exact hr)))]; exact e⟩⟩
  w := fun i p e q => by
    obtain ⟨n, e1, e2, r'⟩ := E.w i p e q
    refine ⟨n, e1, e2, r'.move (fun n ob a e => ⟨a, by rw [List.getElem?_set_ne (fun z : r = n => a (.inl (by rw [← z]; exact hr)))]; exact e⟩) ?_⟩
    exact List.getElem?_set_ne (fun z : r = n => (E.o_lt i n e2).2.1 (by rw [← z]; exact hr))
end
theorem sg_nm {own : List Nat} {i : Nat} (hi : i ∉ own) : SimG own (gNm i) (hNm i) := fun S o h δ δp p d E r => ⟨_, rfl, E.set hi r⟩
theorem sg_nil {own : List Nat} : SimGs own gNil' hNil := fun S o h δ δp p d E r => by
  cases r with
  | nil => exact ⟨δ, rfl, E⟩
  | cons _ _ => trivial
theorem sg_cons {own : List Nat} {g : MG} {gp : MGp} {gs : MGs} {gsp : MGsp} (a : SimG own g gp) (b : SimGs own gs gsp) : SimGs own (gCons' g gs) (hCons gp gsp) := fun S o h δ δp p d E r => by
  cases r with
  | nil => trivial
  | @cons p d ps ds r t =>
    have z := a S o h δ δp p d E r
    show match (gp p δp).bind (gsp ps) with
      | some δp' => ∃ δ', (g d δ).bind (gs ds) = some δ' ∧ EnvOk S own o h δ' δp'
      | none => True
    cases e : gp p δp with
    | none => trivial
    | some δ1 =>
      rw [e] at z
      obtain ⟨δ2, e2, E2⟩ := z
      rw [e2]
      exact b S o h δ2 δ1 ps ds E2 t
theorem sg_tp {own : List Nat} {gs : MGs} {gsp : MGsp} (b : SimGs own gs gsp) : SimG own (gTp gs) (hTp gsp) := fun S o h δ δp p d E r => by
  cases p <;> first | trivial | skip
  cases r with | tup r =>
  exact b S o h δ δp _ _ E r
end Mi

/-! Mi, part PE: list comprehensions, statements, defs. -/
namespace Mi
open PySem
/-! ### list comprehensions -/
theorem mid_at {h1 t : Hh} {u : AO} {r : Nat} (hr : r = h1.length) : (h1 ++ u :: t)[r]? = some u := by subst hr; simp
theorem mid_set {h1 t : Hh} {u v : AO} {r : Nat} (hr : r = h1.length) : (h1 ++ u :: t).set r v = h1 ++ v :: t := by subst hr; simp
theorem mid_ne {h1 t t' : Hh} {u v : AO} {r n : Nat} (hr : r = h1.length) (hn : n ≠ r) {o : AO} (e : (h1 ++ u :: t)[n]? = some o) : (h1 ++ v :: (t ++ t'))[n]? = some o := by
  subst hr
  by_cases hl : n < h1.length
  · rw [List.getElem?_append_left hl] at e ⊢; exact e
  · rw [List.getElem?_append_right (by omega)] at e ⊢
    have : n - h1.length = (n - h1.length - 1) + 1 := by omega
    rw [this] at e ⊢
    rw [List.getElem?_cons_succ] at e ⊢
    exact app_at e t'
theorem mid_mv {A : Nat → Prop} {h1 t t' : Hh} {u v : AO} {r : Nat} (hr : r = h1.length) (ha : A r) : Mv A (h1 ++ u :: t) A (h1 ++ v :: (t ++ t')) := fun n o a e => ⟨a, mid_ne hr (fun z => a (by rw [z]; exact ha)) e⟩
section
variable {own : List Nat} {g : MG} {gp : MGp} {tt : MT} {tp : MTp} {e : ME} {ep : MEp} {S : Nat → Prop} {o : Nat → Option Nat} {δ : Dl} {δp : Dp} {h1 : Hh} {r : Nat}
abbrev Sr (S : Nat → Prop) (r : Nat) : Nat → Prop := fun n => S n ∨ n = r
theorem comp_turn (hg : SimG own g gp) (ht : SimT own tt tp) (he : SimE own true e ep) (hr : r = h1.length) (E : EnvOk S own o h1 δ δp) {p : P} {d : D} {acc : List D} {t : Hh} {xs : List P} (rp : Rp (Av (Sr S r) o) (h1 ++ .lst acc :: t) p d)
    (ex : turnC gp tp ep p δp = .ok xs) (hl : acc.length + xs.length ≤ maxLen) :
    ∃ ds t', lcTurn g tt e r d δ (h1 ++ .lst acc :: t) = .ok () (h1 ++ .lst (acc ++ ds) :: (t ++ t')) ∧ Rps (Av (Sr S r) o) (h1 ++ .lst (acc ++ ds) :: (t ++ t')) xs ds := by
  have E1 : EnvOk (Sr S r) own o (h1 ++ .lst acc :: t) δ δp := E.apart (by omega) (by subst hr; simp)
  unfold turnC at ex
  unfold lcTurn
  have zg := hg _ _ _ _ _ p d E1 rp
  cases eg : gp p δp with
  | none => rw [eg] at ex; cases ex
  | some δ1 =>
    rw [eg] at ex zg
    obtain ⟨δ2, e2, E2⟩ := zg
    rw [e2]
    dsimp only at ex ⊢
    have zt := ht _ _ _ _ _ E2
    cases et : tp δ1 with
    | no => rw [et] at ex; cases ex
    | ex x => rw [et] at ex; cases ex
    | ok k =>
      rw [et] at ex zt
      obtain ⟨k', t1, e3, ek⟩ := zt
      subst ek
      rw [e3]
      have ex : (if k' = true then (ep δ1).bind fun x => .ok [x] else .ok []) = RP.ok xs := ex
      show ∃ ds t', lcElt e r δ2 k' (h1 ++ .lst acc :: t ++ t1) = _ ∧ _
      unfold lcElt
      cases k' with
      | false =>
        cases ex
        refine ⟨[], t1, ?_, .nil⟩
        show RE.ok () _ = _
        simp
      | true =>
        simp only [if_true] at ex ⊢
        have ze := he _ _ _ _ _ (E2.grow t1)
        cases ee : ep δ1 with
        | no => rw [ee] at ex; cases ex
        | ex x => rw [ee] at ex; cases ex
        | ok q =>
          rw [ee] at ex ze
          cases ex
          obtain ⟨d', t2, e4, rq⟩ := ze
          rw [e4]
          refine ⟨[d'], t1 ++ t2, ?_, ?_⟩
          · show lcPut r d' _ = _
            unfold lcPut app1
            have ea : h1 ++ .lst acc :: t ++ t1 ++ t2 = h1 ++ .lst acc :: (t ++ (t1 ++ t2)) := by simp
            rw [ea, mid_at hr]
            dsimp only
            rw [if_pos (by simp at hl; omega)]
            dsimp only
            rw [mid_set hr]
          · rw [avB_t] at rq
            refine .cons (rq.move ?_) .nil
            have ea : h1 ++ .lst acc :: t ++ t1 ++ t2 = h1 ++ .lst acc :: (t ++ (t1 ++ t2)) := by simp
            rw [ea]
            have := mid_mv (A := Av (Sr S r) o) (h1 := h1) (u := .lst acc) (v := .lst (acc ++ [d'])) (t := t ++ (t1 ++ t2)) (t' := []) hr (.inl (.inr rfl))
            simpa using this
theorem comp_fix (hg : SimG own g gp) (ht : SimT own tt tp) (he : SimE own true e ep) (hr : r = h1.length) (E : EnvOk S own o h1 δ δp) : ∀ {ps : List P} {ds : List D} {acc : List D} {qs : List P} {t : Hh} {xs : List P}, Rps (Av (Sr S r) o) (h1 ++ .lst acc :: t) ps ds → Rps (Av (Sr S r) o) (h1 ++ .lst acc :: t) qs acc →
    allC gp tp ep δp ps = .ok xs → acc.length + xs.length ≤ maxLen →
    ∃ ds' t', lcFix g tt e r ds δ (h1 ++ .lst acc :: t) = .ok (.ref r) (h1 ++ .lst ds' :: (t ++ t')) ∧ Rps (Av (Sr S r) o) (h1 ++ .lst ds' :: (t ++ t')) (qs ++ xs) ds'
  | [], _, acc, qs, t, xs, .nil, rq, ex, hl => by
    cases ex
    exact ⟨acc, [], by unfold lcFix; simp, by simpa using rq⟩
  | p :: ps, _, acc, qs, t, xs, .cons (d := d) (ds := ds) r1 r2, rq, ex, hl => by
    unfold allC at ex
    cases e1 : turnC gp tp ep p δp with
    | no => rw [e1] at ex; cases ex
    | ex x => rw [e1] at ex; cases ex
    | ok xs1 =>
      rw [e1] at ex
      dsimp only at ex
      cases e2 : allC gp tp ep δp ps with
      | no => rw [e2] at ex; cases ex
      | ex x => rw [e2] at ex; cases ex
      | ok xs2 =>
        rw [e2] at ex
        cases ex
        rw [List.length_append] at hl
        obtain ⟨ds1, t1, z1, w1⟩ := comp_turn hg ht he hr E r1 e1 (by omega)
        have mv := mid_mv (A := Av (Sr S r) o) (h1 := h1) (u := .lst acc) (v := .lst (acc ++ ds1)) (t := t) (t' := t1) hr (.inl (.inr rfl))
        have wl := w1.length
        obtain ⟨ds', t', z2, w2⟩ := comp_fix hg ht he hr E (r2.move mv) ((rq.move mv).append w1) e2 (by rw [List.length_append, ← wl]; omega)
        refine ⟨ds', t1 ++ t', ?_, ?_⟩
        · unfold lcFix
          rw [z1]
          dsimp only
          rw [z2, List.append_assoc]
        · rw [List.append_assoc, List.append_assoc] at w2
          exact w2
theorem comp_ls (hg : SimG own g gp) (ht : SimT own tt tp) (he : SimE own true e ep) (hr : r = h1.length) (E : EnvOk S own o h1 δ δp) {n : Nat} (hn : n ≠ r) {ds : List D} : ∀ {ps : List P} {i : Nat} {acc : List D} {qs : List P} {t : Hh} {xs : List P},
    lstAt (h1 ++ .lst acc :: t) n = some ds → Rps (Av (Sr S r) o) (h1 ++ .lst acc :: t) ps (ds.drop i) → i ≤ ds.length → Rps (Av (Sr S r) o) (h1 ++ .lst acc :: t) qs acc →
    allC gp tp ep δp ps = .ok xs → acc.length + xs.length ≤ maxLen →
    ∃ ds' t', lcLs g tt e r n (ps.length + 1) i δ (h1 ++ .lst acc :: t) = .ok (.ref r) (h1 ++ .lst ds' :: (t ++ t')) ∧ Rps (Av (Sr S r) o) (h1 ++ .lst ds' :: (t ++ t')) (qs ++ xs) ds'
  | [], i, acc, qs, t, xs, el, rp, hi, rq, ex, hl => by
    cases ex
    have e0 : ds.drop i = [] := by
      generalize ds.drop i = l at rp
      cases rp
      rfl
    have e1 : ds[i]? = none := List.getElem?_eq_none (by simpa using e0)
    exact ⟨acc, [], by unfold lcLs; rw [el]; dsimp only; rw [e1]; simp, by simpa using rq⟩
  | p :: ps, i, acc, qs, t, xs, el, rp, hi, rq, ex, hl => by
    have hlt : i < ds.length := by
      rcases Nat.lt_or_eq_of_le hi with h | h
      · exact h
      · subst h
        rw [List.drop_length] at rp
        cases rp
    rw [List.drop_eq_getElem_cons hlt] at rp
    cases rp with
    | cons r1 r2 =>
    unfold allC at ex
    cases e1 : turnC gp tp ep p δp with
    | no => rw [e1] at ex; cases ex
    | ex x => rw [e1] at ex; cases ex
    | ok xs1 =>
      rw [e1] at ex
      dsimp only at ex
      cases e2 : allC gp tp ep δp ps with
      | no => rw [e2] at ex; cases ex
      | ex x => rw [e2] at ex; cases ex
      | ok xs2 =>
        rw [e2] at ex
        cases ex
        rw [List.length_append] at hl
        obtain ⟨ds1, t1, z1, w1⟩ := comp_turn hg ht he hr E r1 e1 (by omega)
        have mv := mid_mv (A := Av (Sr S r) o) (h1 := h1) (u := .lst acc) (v := .lst (acc ++ ds1)) (t := t) (t' := t1) hr (.inl (.inr rfl))
        have wl := w1.length
        have el2 : lstAt (h1 ++ .lst (acc ++ ds1) :: (t ++ t1)) n = some ds := by
          unfold lstAt at el ⊢
          split at el
          · rename_i es z; cases el
            rw [mid_ne hr hn z]
          · rename_i es z; cases el
            rw [mid_ne hr hn z]
          · cases el
        obtain ⟨ds', t', z2, w2⟩ := comp_ls hg ht he hr E hn el2 (r2.move mv) (by omega) ((rq.move mv).append w1) e2 (by rw [List.length_append, ← wl]; omega)
        refine ⟨ds', t1 ++ t', ?_, ?_⟩
        · show lcLs g tt e r n (ps.length + 1 + 1) i δ _ = _
          unfold lcLs
          rw [el]
          dsimp only
          rw [List.getElem?_eq_getElem hlt]
          dsimp only
          rw [z1]
          dsimp only
          rw [z2, List.append_assoc]
        · rw [List.append_assoc, List.append_assoc] at w2
          exact w2
end
theorem sim_comp {own : List Nat} {cl cl' : Bool} {it : MI} {ip : MIp} {g : MG} {gp : MGp} {t : MT} {tp : MTp} {e : ME} {ep : MEp} (vs : List Nat) (hi : SimI own cl' it ip) (hg : SimG own g gp) (ht : SimT own t tp) (he : SimE own true e ep) : SimE own cl (mComp it g t e vs) (pComp ip gp tp ep vs) := SimE.weak fun S o h δ δp E => by
  have z := hi S o h δ δp E
  rw [avB_t]
  refine z.bind fun ps J t1 _ q => ?_
  have E1 := (E.grow t1).wipe vs
  cases ex : allC gp tp ep (wipeP δp vs) ps with
  | no => trivial
  | ex x => trivial
  | ok xs =>
    dsimp only
    by_cases hl : xs.length ≤ maxLen
    · rw [if_pos hl]
      have mvr : Mv (Av S o) (h ++ t1) (Av (Sr S (h ++ t1).length) o) (h ++ t1 ++ .lst [] :: []) := (Mv.fresh fun n z => by
        rcases z with (z | rfl) | z
        · exact .inl (.inl z)
        · exact .inr (Nat.le_refl _)
        · exact .inl (.inr z)).trans (.app _)
      have fin : ∀ ds' t', Rps (Av (Sr S (h ++ t1).length) o) (h ++ t1 ++ .lst ds' :: ([] ++ t')) ([] ++ xs) ds' → Rp (Av S o) (h ++ t1 ++ .lst ds' :: ([] ++ t')) (.lst xs) (.ref (h ++ t1).length) := fun ds' t' w =>
        .lst (fun z => by have := E1.lt z; omega) (mid_at rfl) (w.move (.less fun n z => z.elim (fun z => .inl (.inl z)) .inr))
      cases J with
      | fix ds =>
        obtain ⟨ds', t', z1, w⟩ := comp_fix hg ht he rfl E1 (acc := []) (qs := []) (t := []) (Rps.move mvr q.1) .nil ex (by simpa using hl)
        show SimR _ _ _ (lcFix g t e (h ++ t1).length ds (wipeD δ vs) (h ++ t1 ++ [.lst []])) _
        rw [z1]
        exact ⟨_, .lst ds' :: ([] ++ t'), rfl, fin _ _ w⟩
      | ls n =>
        obtain ⟨ds, el, rp⟩ := q.1
        have hn := lstAt_lt el
        have el2 : lstAt (h ++ t1 ++ .lst [] :: []) n = some ds := by
          rw [← el]
          unfold lstAt
          rw [List.getElem?_append_left hn]
        have elen : lenAt (h ++ t1) n + 1 = ps.length + 1 := by unfold lenAt; rw [el, rp.length]
        obtain ⟨ds', t', z1, w⟩ := comp_ls hg ht he rfl E1 (n := n) (by omega) (acc := []) (qs := []) (t := []) (i := 0) el2 (rp.move mvr) (Nat.zero_le _) .nil ex (by simpa using hl)
        show SimR _ _ _ (lcLs g t e (h ++ t1).length n (lenAt (h ++ t1) n + 1) 0 (wipeD δ vs) (h ++ t1 ++ [.lst []])) _
        rw [elen, z1]
        exact ⟨_, .lst ds' :: ([] ++ t'), rfl, fin _ _ w⟩
    · rw [if_neg hl]; trivial
/-! ### statements -/
def StepO (o o' : Nat → Option Nat) (h h' : Hh) : Prop := h.length ≤ h'.length ∧ (∀ n, n < h.length → (∀ i, o i ≠ some n) → h'[n]? = h[n]?) ∧ (∀ i n, o' i = some n → (∃ j, o j = some n) ∨ h.length ≤ n) ∧ ∀ n, o 0 = some n → o' 0 = some n
theorem StepO.refl {o : Nat → Option Nat} {h : Hh} : StepO o o h h := ⟨Nat.le_refl _, fun _ _ _ => rfl, fun i n e => .inl ⟨i, e⟩, fun _ e => e⟩
theorem StepO.app {o : Nat → Option Nat} {h : Hh} (t : Hh) : StepO o o h (h ++ t) := ⟨by simp, fun n hn _ => List.getElem?_append_left hn, fun i n e => .inl ⟨i, e⟩, fun _ e => e⟩
theorem StepO.trans {o o1 o2 : Nat → Option Nat} {h h1 h2 : Hh} (a : StepO o o1 h h1) (b : StepO o1 o2 h1 h2) : StepO o o2 h h2 := by
  refine ⟨Nat.le_trans a.1 b.1, fun n hn ho => ?_, fun i n e => ?_, fun n e => b.2.2.2 n (a.2.2.2 n e)⟩
  · rw [b.2.1 n (Nat.lt_of_lt_of_le hn a.1) fun i z => ?_, a.2.1 n hn ho]
    rcases a.2.2.1 i n z with ⟨j, z⟩ | z
    · exact ho j z
    · omega
  · rcases b.2.2.1 i n e with ⟨j, z⟩ | z
    · exact a.2.2.1 j n z
    · exact .inr (Nat.le_trans a.1 z)
theorem StepO.mv {S : Nat → Prop} {o o' : Nat → Option Nat} {h h' : Hh} (a : StepO o o' h h') : Mv (Av S o) h (Av S o') h' := fun n u hn e => by
  have hl := at_lt e
  refine ⟨fun z => ?_, ?_⟩
  · rcases z with z | ⟨i, z⟩
    · exact hn (.inl z)
    · rcases a.2.2.1 i n z with z | z
      · exact hn (.inr z)
      · omega
  · rw [a.2.1 n hl fun i z => hn (.inr ⟨i, z⟩)]
    exact e
/-- what a statement's results are -/
def SRS (S : Nat → Prop) (own : List Nat) (o : Nat → Option Nat) (h : Hh) (r : RS) (rp : RSp) : Prop := match rp with
  | .nx δp' => ∃ δ' h' o', r = .nx δ' h' ∧ EnvOk S own o' h' δ' δp' ∧ StepO o o' h h'
  | .bk δp' => ∃ δ' h' o', r = .bk δ' h' ∧ EnvOk S own o' h' δ' δp' ∧ StepO o o' h h'
  | .ct δp' => ∃ δ' h' o', r = .ct δ' h' ∧ EnvOk S own o' h' δ' δp' ∧ StepO o o' h h'
  | .rt p => ∃ d h' o', r = .rt d h' ∧ Rp S h' p d ∧ StepO o o' h h'
  | .ex x δp' => ∃ x' δ' h' o', r = .ex x' δ' h' ∧ EnvOk S own o' h' δ' δp' ∧ StepO o o' h h' ∧ XOk S h' x x'
  | .no => True
theorem SRS.shift {S : Nat → Prop} {own : List Nat} {o o1 : Nat → Option Nat} {h h1 : Hh} {r : RS} {rp : RSp} (s : StepO o o1 h h1) (a : SRS S own o1 h1 r rp) : SRS S own o h r rp := by
  cases rp with
  | nx _ => obtain ⟨a1, a2, a3, e, E, t⟩ := a; exact ⟨a1, a2, a3, e, E, s.trans t⟩
  | bk _ => obtain ⟨a1, a2, a3, e, E, t⟩ := a; exact ⟨a1, a2, a3, e, E, s.trans t⟩
  | ct _ => obtain ⟨a1, a2, a3, e, E, t⟩ := a; exact ⟨a1, a2, a3, e, E, s.trans t⟩
  | rt _ => obtain ⟨a1, a2, a3, e, E, t⟩ := a; exact ⟨a1, a2, a3, e, E, s.trans t⟩
  | ex _ _ => obtain ⟨a1, a2, a3, a4, e, E, t, x⟩ := a; exact ⟨a1, a2, a3, a4, e, E, s.trans t, x⟩
  | no => trivial
theorem SRS.st {α β : Type} {S : Nat → Prop} {own : List Nat} {o : Nat → Option Nat} {h : Hh} {δ : Dl} {δp : Dp} {Q : Hh → β → α → Prop} {A : Nat → Prop} {r : RE α} {rp : RP β} {f : α → Hh → RS} {fp : β → RSp} (E : EnvOk S own o h δ δp) (hA : ∀ n, S n → A n)
    (a : SimR Q A h r rp) (k : ∀ p d t, rp = .ok p → Q (h ++ t) p d → EnvOk S own o (h ++ t) δ δp → SRS S own o (h ++ t) (f d (h ++ t)) (fp p)) : SRS S own o h (r.st δ f) (rp.st δp fp) := by
  cases rp with
  | ok p =>
    obtain ⟨d, t, e, q⟩ := a
    subst e
    exact (k p d t rfl q (E.grow t)).shift (.app t)
  | ex x =>
    obtain ⟨x', t, e, q⟩ := a
    subst e
    exact ⟨x', δ, h ++ t, o, rfl, E.grow t, .app t, q.1, q.2.move (.less hA)⟩
  | no => trivial
def SimS (own : List Nat) (m : MS) (mp : MSp) : Prop := ∀ S o h δ δp, EnvOk S own o h δ δp → SRS S own o h (m δ h) (mp δp)
section
variable {own : List Nat}
theorem avB_S {S : Nat → Prop} {o : Nat → Option Nat} {cl : Bool} : ∀ n, S n → AvB cl S o n := fun n z => .inl z
theorem av_S {S : Nat → Prop} {o : Nat → Option Nat} : ∀ n, S n → Av S o n := fun n z => .inl z
theorem ss_nil : SimS own sNil uNil := fun S o h δ δp E => ⟨δ, h, o, rfl, E, .refl⟩
theorem ss_seq {a b : MS} {ap bp : MSp} (ha : SimS own a ap) (hb : SimS own b bp) : SimS own (sSeq a b) (uSeq ap bp) := fun S o h δ δp E => by
  have z := ha S o h δ δp E
  unfold sSeq uSeq
  cases e : ap δp with
  | nx δp' =>
    rw [e] at z
    obtain ⟨a1, a2, a3, e, E, t⟩ := z
    rw [e]
    exact (hb S _ _ _ _ E).shift t
  | bk _ => rw [e] at z; obtain ⟨a1, a2, a3, e, E, t⟩ := z; rw [e]; exact ⟨a1, a2, a3, rfl, E, t⟩
  | ct _ => rw [e] at z; obtain ⟨a1, a2, a3, e, E, t⟩ := z; rw [e]; exact ⟨a1, a2, a3, rfl, E, t⟩
  | rt _ => rw [e] at z; obtain ⟨a1, a2, a3, e, E, t⟩ := z; rw [e]; exact ⟨a1, a2, a3, rfl, E, t⟩
  | ex _ _ => rw [e] at z; obtain ⟨a1, a2, a3, a4, e, E, t, x⟩ := z; rw [e]; exact ⟨a1, a2, a3, a4, rfl, E, t, x⟩
  | no => trivial
theorem ss_expr {m : ME} {mp : MEp} (a : SimE own false m mp) : SimS own (Mi.sExpr m) (uExpr mp) := fun S o h δ δp E =>
  .st E avB_S (a S o h δ δp E) fun p d t _ r E1 => ⟨δ, _, o, rfl, E1, .refl⟩
theorem ss_ret {m : ME} {mp : MEp} (a : SimE own false m mp) : SimS own (Mi.sRet m) (uRet mp) := fun S o h δ δp E =>
  .st E avB_S (a S o h δ δp E) fun p d t _ r E1 => ⟨d, _, o, rfl, r.move (.less avB_S), .refl⟩
theorem ss_retN : SimS own sRetN uRetN := fun S o h δ δp E => ⟨.non, h, o, rfl, .non, .refl⟩
theorem ss_asg {m : ME} {mp : MEp} {g : MG} {gp : MGp} (a : SimE own true m mp) (hg : SimG own g gp) : SimS own (Mi.sAsg m g) (uAsg mp gp) := fun S o h δ δp E =>
  .st E avB_S (a S o h δ δp E) fun p d t _ r E1 => by
    rw [avB_t] at r
    have z := hg S o _ δ δp p d E1 r
    cases e : gp p δp with
    | none => trivial
    | some δ1 =>
      rw [e] at z
      obtain ⟨δ2, e2, E2⟩ := z
      rw [e2]
      exact ⟨δ2, _, o, rfl, E2, .refl⟩
theorem EnvOk.sets {S : Nat → Prop} {o : Nat → Option Nat} {h : Hh} : ∀ {is : List Nat} {ps : List P} {ds : List D} {δ : Dl} {δp : Dp}, (∀ i ∈ is, i ∉ own) → Rps (Av S o) h ps ds → EnvOk S own o h δ δp →
    EnvOk S own o h ((is.zip ds).foldl (fun δ p => δ.set p.1 (some p.2)) δ) ((is.zip ps).foldl (fun δ p => δ.set p.1 (some p.2)) δp)
  | [], _, _, _, _, _, _, E => E
  | i :: is, _, _, _, _, hi, .nil, E => E
  | i :: is, _, _, _, _, hi, .cons r rs, E => EnvOk.sets (is := is) (fun j hj => hi j (List.mem_cons_of_mem _ hj)) rs (E.set (hi i List.mem_cons_self) r)
theorem ss_par {is : List Nat} (hi : ∀ i ∈ is, i ∉ own) {ms : MEs} {msp : MEsp} (a : SimEs own true ms msp) : SimS own (sPar is ms) (uPar is msp) := fun S o h δ δp E =>
  .st E avB_S (a S o h δ δp E) fun ps ds t _ r E1 => by
    rw [avB_t] at r
    rw [← r.length]
    split
    · exact ⟨_, _, o, rfl, E1.sets hi r, .refl⟩
    · trivial
theorem ss_if {t : MT} {tp : MTp} {a b : MS} {ap bp : MSp} (ht : SimT own t tp) (ha : SimS own a ap) (hb : SimS own b bp) : SimS own (Mi.sIf t a b) (uIf tp ap bp) := fun S o h δ δp E =>
  .st E av_S (ht S o h δ δp E) fun p d t _ r E1 => by
    subst r
    cases d with
    | true => exact ha S o _ δ δp E1
    | false => exact hb S o _ δ δp E1
theorem ss_raise (c : Nat) {ms : MEs} {msp : MEsp} (a : SimEs own false ms msp) : SimS own (sRaise c ms) (uRaise c msp) := fun S o h δ δp E =>
  .st E avB_S (a S o h δ δp E) fun ps ds t _ r E1 => by
    rw [← r.length]
    split
    · exact ⟨_, δ, _, o, rfl, E1, .refl, rfl, .nil⟩
    · trivial
theorem ss_try0 {b : MS} {bp : MSp} (hb : SimS own b bp) : SimS own (sTry0 b) (uTry0 bp) := fun S o h δ δp E => by
  have z := hb S o h δ δp E
  unfold sTry0 uTry0
  cases e : bp δp with
  | nx _ => rw [e] at z; obtain ⟨a1, a2, a3, e, E, t⟩ := z; rw [e]; exact ⟨a1, a2, a3, rfl, E, t⟩
  | bk _ => rw [e] at z; obtain ⟨a1, a2, a3, e, E, t⟩ := z; rw [e]; exact ⟨a1, a2, a3, rfl, E, t⟩
  | ct _ => rw [e] at z; obtain ⟨a1, a2, a3, e, E, t⟩ := z; rw [e]; exact ⟨a1, a2, a3, rfl, E, t⟩
  | rt _ => rw [e] at z; obtain ⟨a1, a2, a3, e, E, t⟩ := z; rw [e]; exact ⟨a1, a2, a3, rfl, E, t⟩
  | ex _ _ => trivial
  | no => trivial
/-! ### loops -/
theorem wh_more {t : MT} {b : MS} : ∀ {n k : Nat} {δ : Dl} {h : Hh} {r : RS}, wh t b n δ h = r → r ≠ .no → wh t b (n + k) δ h = r
  | 0, k, δ, h, r, e, hr => absurd e.symm hr
  | n + 1, k, δ, h, r, e, hr => by
    rw [Nat.succ_add]
    unfold wh at e ⊢
    cases et : t δ h with
    | no => rw [et] at e; exact absurd e.symm hr
    | ex x h1 => rw [et] at e; exact e
    | ok c h1 =>
      rw [et] at e
      cases c with
      | false => exact e
      | true =>
        have e : (match b δ h1 with
          | .nx δ2 h2 => wh t b n δ2 h2
          | .ct δ2 h2 => wh t b n δ2 h2
          | .bk δ2 h2 => .nx δ2 h2
          | r => r) = r := e
        show (match b δ h1 with
          | .nx δ2 h2 => wh t b (n + k) δ2 h2
          | .ct δ2 h2 => wh t b (n + k) δ2 h2
          | .bk δ2 h2 => .nx δ2 h2
          | r => r) = r
        cases eb : b δ h1 with
        | nx δ2 h2 => rw [eb] at e; exact wh_more e hr
        | ct δ2 h2 => rw [eb] at e; exact wh_more e hr
        | bk δ2 h2 => rw [eb] at e; exact e
        | rt d h2 => rw [eb] at e; exact e
        | ex x δ2 h2 => rw [eb] at e; exact e
        | no => rw [eb] at e; exact e
theorem ss_wh {t : MT} {tp : MTp} {b : MS} {bp : MSp} (ht : SimT own t tp) (hb : SimS own b bp) : ∀ n, SimS own (wh t b n) (uWh tp bp n)
  | 0 => fun S o h δ δp E => trivial
  | n + 1 => fun S o h δ δp E => by
    unfold wh uWh
    refine .st E av_S (ht S o h δ δp E) fun p d t1 _ r E1 => ?_
    subst r
    cases d with
    | false => exact ⟨δ, _, o, rfl, E1, .refl⟩
    | true =>
      have z := hb S o _ δ δp E1
      simp only [if_true]
      cases e : bp δp with
      | nx _ => rw [e] at z; obtain ⟨a1, a2, a3, e, E, t⟩ := z; rw [e]; exact (ss_wh ht hb n S _ _ _ _ E).shift t
      | ct _ => rw [e] at z; obtain ⟨a1, a2, a3, e, E, t⟩ := z; rw [e]; exact (ss_wh ht hb n S _ _ _ _ E).shift t
      | bk _ => rw [e] at z; obtain ⟨a1, a2, a3, e, E, t⟩ := z; rw [e]; exact ⟨a1, a2, a3, rfl, E, t⟩
      | rt _ => rw [e] at z; obtain ⟨a1, a2, a3, e, E, t⟩ := z; rw [e]; exact ⟨a1, a2, a3, rfl, E, t⟩
      | ex _ _ => rw [e] at z; obtain ⟨a1, a2, a3, a4, e, E, t, x⟩ := z; rw [e]; exact ⟨a1, a2, a3, a4, rfl, E, t, x⟩
      | no => trivial
theorem SRS.no_ {S : Nat → Prop} {o : Nat → Option Nat} {h : Hh} {r : RS} {rp : RSp} (a : SRS S own o h r rp) (k : ∀ r', r ≠ .no → r' = r → SRS S own o h r' rp) : SRS S own o h r rp := a
theorem ss_while {μ : Dl → Hh → Nat} {t : MT} {tp : MTp} {b : MS} {bp : MSp} (hμ : ∀ S o h δ δp, EnvOk S own o h δ δp → (δp.foldl (fun a d => match d with
  | some (.int i) => a + i.natAbs
  | _ => a) 1000) ≤ μ δ h) (ht : SimT own t tp) (hb : SimS own b bp) : SimS own (Mi.sWhile μ t b) (uWhile tp bp) := fun S o h δ δp E => by
  unfold Mi.sWhile uWhile
  have hm := hμ S o h δ δp E
  generalize δp.foldl (fun a d => match d with
  | some (.int i) => a + i.natAbs
  | _ => a) 1000 = n at hm ⊢
  have z := ss_wh ht hb (n + 1) S o h δ δp E
  obtain ⟨k, hk⟩ : ∃ k, μ δ h + 1 = n + 1 + k := ⟨μ δ h - n, by omega⟩
  rw [hk]
  cases e : uWh tp bp (n + 1) δp with
  | nx _ => rw [e] at z; obtain ⟨a1, a2, a3, e, E, t⟩ := z; exact ⟨a1, a2, a3, wh_more e (by intro z; cases z), E, t⟩
  | bk _ => rw [e] at z; obtain ⟨a1, a2, a3, e, E, t⟩ := z; exact ⟨a1, a2, a3, wh_more e (by intro z; cases z), E, t⟩
  | ct _ => rw [e] at z; obtain ⟨a1, a2, a3, e, E, t⟩ := z; exact ⟨a1, a2, a3, wh_more e (by intro z; cases z), E, t⟩
  | rt _ => rw [e] at z; obtain ⟨a1, a2, a3, e, E, t⟩ := z; exact ⟨a1, a2, a3, wh_more e (by intro z; cases z), E, t⟩
  | ex _ _ => rw [e] at z; obtain ⟨a1, a2, a3, a4, e, E, t, x⟩ := z; exact ⟨a1, a2, a3, a4, wh_more e (by intro z; cases z), E, t, x⟩
  | no => trivial
theorem fix_ok {g : MG} {gp : MGp} {b : MS} {bp : MSp} (hg : SimG own g gp) (hb : SimS own b bp) : ∀ {ps : List P} {ds : List D} {S : Nat → Prop} {o : Nat → Option Nat} {h : Hh} {δ : Dl} {δp : Dp}, Rps (Av S o) h ps ds → EnvOk S own o h δ δp → SRS S own o h (forFix g b ds δ h) (uLoop gp bp ps δp)
  | [], _, S, o, h, δ, δp, .nil, E => ⟨δ, h, o, rfl, E, .refl⟩
  | p :: ps, _, S, o, h, δ, δp, .cons (d := d) (ds := ds) r1 r2, E => by
    unfold forFix uLoop
    have zg := hg S o h δ δp p d E r1
    cases eg : gp p δp with
    | none => trivial
    | some δ1 =>
      rw [eg] at zg
      obtain ⟨δ2, e2, E2⟩ := zg
      rw [e2]
      dsimp only
      have z := hb S o h _ _ E2
      cases e : bp δ1 with
      | nx _ => rw [e] at z; obtain ⟨a1, a2, a3, e, E, t⟩ := z; rw [e]; exact (fix_ok hg hb (r2.move t.mv) E).shift t
      | ct _ => rw [e] at z; obtain ⟨a1, a2, a3, e, E, t⟩ := z; rw [e]; exact (fix_ok hg hb (r2.move t.mv) E).shift t
      | bk _ => rw [e] at z; obtain ⟨a1, a2, a3, e, E, t⟩ := z; rw [e]; exact ⟨a1, a2, a3, rfl, E, t⟩
      | rt _ => rw [e] at z; obtain ⟨a1, a2, a3, e, E, t⟩ := z; rw [e]; exact ⟨a1, a2, a3, rfl, E, t⟩
      | ex _ _ => rw [e] at z; obtain ⟨a1, a2, a3, a4, e, E, t, x⟩ := z; rw [e]; exact ⟨a1, a2, a3, a4, rfl, E, t, x⟩
      | no => trivial
theorem ls_ok {g : MG} {gp : MGp} {b : MS} {bp : MSp} (hg : SimG own g gp) (hb : SimS own b bp) {n : Nat} {ds : List D} : ∀ {ps : List P} {i : Nat} {S : Nat → Prop} {o : Nat → Option Nat} {h : Hh} {δ : Dl} {δp : Dp},
    lstAt h n = some ds → ¬ Av S o n → Rps (Av S o) h ps (ds.drop i) → i ≤ ds.length → EnvOk S own o h δ δp → SRS S own o h (forLs g b n (ps.length + 1) i δ h) (uLoop gp bp ps δp)
  | [], i, S, o, h, δ, δp, el, hn, rp, hi, E => by
    have e0 : ds.drop i = [] := by
      generalize ds.drop i = l at rp
      cases rp
      rfl
    have e1 : ds[i]? = none := List.getElem?_eq_none (by simpa using e0)
    unfold forLs uLoop
    rw [el]
    dsimp only
    rw [e1]
    exact ⟨δ, h, o, rfl, E, .refl⟩
  | p :: ps, i, S, o, h, δ, δp, el, hn, rp, hi, E => by
    have hlt : i < ds.length := by
      rcases Nat.lt_or_eq_of_le hi with h | h
      · exact h
      · subst h
        rw [List.drop_length] at rp
        cases rp
    rw [List.drop_eq_getElem_cons hlt] at rp
    cases rp with
    | cons r1 r2 =>
    show SRS S own o h (forLs g b n (ps.length + 1 + 1) i δ h) _
    unfold forLs uLoop
    rw [el]
    dsimp only
    rw [List.getElem?_eq_getElem hlt]
    dsimp only
    have zg := hg S o h δ δp p _ E r1
    cases eg : gp p δp with
    | none => trivial
    | some δ1 =>
      rw [eg] at zg
      obtain ⟨δ2, e2, E2⟩ := zg
      rw [e2]
      dsimp only
      have z := hb S o h _ _ E2
      have go : ∀ {a1 : Dl} {a2 : Hh} {a3 : Nat → Option Nat} {δ3 : Dp}, EnvOk S own a3 a2 a1 δ3 → StepO o a3 h a2 → SRS S own o h (forLs g b n (ps.length + 1) (i + 1) a1 a2) (uLoop gp bp ps δ3) := fun {a1 a2 a3 δ3} E t => by
        have hl := lstAt_lt el
        have e3 : a2[n]? = h[n]? := t.2.1 n hl fun i z => hn (.inr ⟨i, z⟩)
        refine (ls_ok hg hb (h := a2) (i := i + 1) ?_ ?_ (r2.move t.mv) hlt E).shift t
        · rw [← el]; unfold lstAt; rw [e3]
        · exact (t.mv n h[n] hn (List.getElem?_eq_getElem hl)).1
      cases e : bp δ1 with
      | nx _ => rw [e] at z; obtain ⟨a1, a2, a3, e, E, t⟩ := z; rw [e]; exact go E t
      | ct _ => rw [e] at z; obtain ⟨a1, a2, a3, e, E, t⟩ := z; rw [e]; exact go E t
      | bk _ => rw [e] at z; obtain ⟨a1, a2, a3, e, E, t⟩ := z; rw [e]; exact ⟨a1, a2, a3, rfl, E, t⟩
      | rt _ => rw [e] at z; obtain ⟨a1, a2, a3, e, E, t⟩ := z; rw [e]; exact ⟨a1, a2, a3, rfl, E, t⟩
      | ex _ _ => rw [e] at z; obtain ⟨a1, a2, a3, a4, e, E, t, x⟩ := z; rw [e]; exact ⟨a1, a2, a3, a4, rfl, E, t, x⟩
      | no => trivial
theorem ss_for {it : MI} {ip : MIp} {g : MG} {gp : MGp} {b : MS} {bp : MSp} (hi : SimI own true it ip) (hg : SimG own g gp) (hb : SimS own b bp) : SimS own (Mi.sFor it g b) (uFor ip gp bp) := fun S o h δ δp E =>
  .st E av_S (hi S o h δ δp E) fun ps J t _ q E1 => by
    cases J with
    | fix ds => exact fix_ok hg hb q.1 E1
    | ls n =>
      obtain ⟨ds, el, rp⟩ := q.1
      have elen : lenAt (h ++ t) n + 1 = ps.length + 1 := by unfold lenAt; rw [el, rp.length]
      show SRS S own o (h ++ t) (forLs g b n (lenAt (h ++ t) n + 1) 0 δ (h ++ t)) _
      rw [elen]
      exact ls_ok hg hb el (q.2 rfl) rp (Nat.zero_le _) E1
end
end Mi

/-! Mi, part PF: defs, __init__, built-in functions. -/
namespace Mi
open PySem
section
variable {own : List Nat}
theorem foldl_le : ∀ {l : Dl} {lp : Dp} {a b : Nat}, lp.length = l.length → (∀ (i : Nat) (k : Int), lp[i]? = some (some (.int k)) → l[i]? = some (some (.int k))) → a ≤ b →
    lp.foldl (fun a d => match d with
      | some (.int i) => a + i.natAbs
      | _ => a) a ≤ l.foldl (fun a d => match d with
      | some (.int i) => a + i.natAbs
      | _ => a) b
  | [], [], a, b, _, _, h => h
  | [], _ :: _, _, _, e, _, _ => by cases e
  | _ :: _, [], _, _, e, _, _ => by cases e
  | d :: l, p :: lp, a, b, e, k, h => by
    rw [List.foldl_cons, List.foldl_cons]
    refine foldl_le (by simpa using e) (fun i z q => by simpa using k (i + 1) z (by simpa using q)) ?_
    have k0 := fun z => k 0 z
    simp only [List.getElem?_cons_zero, Option.some.injEq] at k0
    rcases p with _ | p
    · rcases d with _ | d
      · exact h
      · cases d <;> first | exact h | exact Nat.le_trans h (Nat.le_add_right _ _)
    · cases p <;> first | (rcases d with _ | d
                           · exact h
                           · cases d <;> first | exact h | exact Nat.le_trans h (Nat.le_add_right _ _)) | skip
      rename_i z
      rw [k0 z rfl]
      exact Nat.add_le_add_right h _
theorem mu0_le (S : Nat → Prop) (o : Nat → Option Nat) (h : Hh) (δ : Dl) (δp : Dp) (E : EnvOk S own o h δ δp) : (δp.foldl (fun a d => match d with
  | some (.int i) => a + i.natAbs
  | _ => a) 1000) ≤ μ0 δ h := by
  unfold μ0
  refine foldl_le E.len (fun i k e => ?_) (Nat.le_refl _)
  by_cases hi : i ∈ own
  · obtain ⟨n, _, _, r⟩ := E.w i _ e hi
    exact r.elim
  · obtain ⟨d, e1, r⟩ := E.v i _ e hi
    cases r
    exact e1
theorem ss_while0 {t : MT} {tp : MTp} {b : MS} {bp : MSp} (ht : SimT own t tp) (hb : SimS own b bp) : SimS own (Mi.sWhile μ0 t b) (uWhile tp bp) := ss_while mu0_le ht hb
/-! ### self.f = m -/
theorem EnvOk.putO {S : Nat → Prop} {o : Nat → Option Nat} {h : Hh} {δ : Dl} {δp : Dp} (E : EnvOk S own o h δ δp) {i n : Nat} {u : AO} {p : P} (hi : i ∈ own) (ei : δ[i]? = some (some (.ref n))) (eo : o i = some n) (hu : ∀ h', (h.set n u) = h' → RpT (Av S o) h' n p) : EnvOk S own o (h.set n u) δ (δp.set i (some p)) := by
  have mv : Mv (Av S o) h (Av S o) (h.set n u) := fun m ob a e => ⟨a, by
    rw [List.getElem?_set_ne (fun z => a (.inr ⟨i, by rw [eo, z]⟩))]; exact e⟩
  refine ⟨by simp [E.len], fun m z => by rw [List.length_set]; exact E.S_lt m z, fun j m e => by rw [List.length_set]; exact E.o_lt j m e, E.o_inj, fun j q e hj => ?_, fun j q e hj => ?_⟩
  · rcases set_at e with ⟨rfl, _, _⟩ | ⟨hn, e2⟩
    · exact absurd hi hj
    · obtain ⟨d, e3, r⟩ := E.v j q e2 hj
      exact ⟨d, e3, r.move mv⟩
  · rcases set_at e with ⟨rfl, e2, _⟩ | ⟨hn, e2⟩
    · cases e2
      exact ⟨n, ei, eo, hu _ rfl⟩
    · obtain ⟨m, e3, e4, r⟩ := E.w j q e2 hj
      refine ⟨m, e3, e4, r.move mv ?_⟩
      refine List.getElem?_set_ne fun z => ?_
      subst z
      exact hn (E.o_inj _ _ _ e4 eo)
theorem StepO.set {o : Nat → Option Nat} {h : Hh} {i n : Nat} {u : AO} (eo : o i = some n) : StepO o o h (h.set n u) := ⟨by simp, fun m hm k => List.getElem?_set_ne fun z => k i (by rw [eo, z]), fun j m e => .inl ⟨j, e⟩, fun _ e => e⟩
theorem ss_fld {cs : List CI} {cp : List CIP} (k : CsOk cs cp) {i : Nat} (hi : i ∈ own) (f : Str) {m : ME} {mp : MEp} (a : SimE own true m mp) : SimS own (Mi.sFld cs (mVar i) f m) (uFld cp i f mp) := fun S o h δ δp E =>
  .st E avB_S (a S o h δ δp E) fun p d t _ r E1 => by
    rw [avB_t] at r
    rcases e : δp[i]? with _ | _ | q
    · trivial
    · trivial
    · cases q <;> first | trivial | skip
      rename_i c fs
      obtain ⟨n, e1, e2, ds, e3, rf⟩ := E1.w i _ e hi
      dsimp only
      unfold mVar
      rw [e1]
      show SRS S own o _ (match (h ++ t)[n]? with
        | some (.ins c fs) => match cs.find? fun ci => ci.id == c with
          | some ci => if ci.fields.contains f && decide (fs.length < 900) then RS.nx δ ((h ++ t).set n (.ins c (putD f d fs))) else .no
          | none => .no
        | _ => .no) _
      rw [e3]
      dsimp only
      rcases k.find (c := c) with ⟨z1, z2⟩ | ⟨ci, ip, z1, z2, w⟩
      · rw [z2]; trivial
      · rw [z1, z2]
        dsimp only
        rw [w.fields, rf.length]
        split
        · have hn : n < (h ++ t).length := (E1.o_lt i n e2).1
          refine ⟨δ, _, o, rfl, E1.putO hi e1 e2 fun h' eh => ?_, .set e2⟩
          subst eh
          refine ⟨_, List.getElem?_set_self hn, (rf.put r).move fun m ob a e => ⟨a, ?_⟩⟩
          rw [List.getElem?_set_ne (fun z => a (.inr ⟨i, by rw [e2, z]⟩))]
          exact e
        · trivial
/-! ### defs -/
theorem start_len {n : Nat} {ps : List P} {ds : List D} {A : Nat → Prop} {h : Hh} (r : Rps A h ps ds) : (startP n ps).length = (startD n ds).length := by
  unfold startP startD
  simp [r.length]
theorem startP_at {n i : Nat} {ps : List P} {p : P} (e : (startP n ps)[i]? = some (some p)) : ps[i]? = some p := by
  unfold startP at e
  by_cases hi : i < ps.length
  · rw [List.getElem?_append_left (by simpa using hi), List.getElem?_map] at e
    cases z : ps[i]? with
    | none => rw [z] at e; cases e
    | some q => rw [z] at e; cases e; rfl
  · rw [List.getElem?_append_right (by simpa using hi), List.getElem?_replicate] at e
    split at e <;> cases e
theorem startD_at {n i : Nat} {ds : List D} {d : D} (e : ds[i]? = some d) : (startD n ds)[i]? = some (some d) := by
  unfold startD
  have hi : i < ds.length := (List.getElem?_eq_some_iff.mp e).1
  rw [List.getElem?_append_left (by simpa using hi), List.getElem?_map, e]
  rfl
theorem av_none {S : Nat → Prop} : Av S (fun _ => none) = S := by
  funext n; simp [Av]
theorem start_ok {n : Nat} {ps : List P} {ds : List D} {A : Nat → Prop} {h : Hh} (hA : ∀ n, A n → n < h.length) (r : Rps A h ps ds) (hp : ∀ i ∈ own, ps.length ≤ i) : EnvOk A own (fun _ => none) h (startD n ds) (startP n ps) where
  len := start_len r
  S_lt := hA
  o_lt := fun i n e => by cases e
  o_inj := fun i j n e => by cases e
  v := fun i p e _ => by
    obtain ⟨d, e1, q⟩ := r.get (startP_at e)
    exact ⟨d, startD_at e1, by rw [av_none]; exact q⟩
  w := fun i p e hi => by
    exfalso
    have := (List.getElem?_eq_some_iff.mp (startP_at e)).1
    have := hp i hi
    omega
theorem prefix_of {h h' : Hh} (hl : h.length ≤ h'.length) (k : ∀ n, n < h.length → h'[n]? = h[n]?) : ∃ t, h' = h ++ t := by
  refine ⟨h'.drop h.length, ?_⟩
  refine List.ext_getElem? fun n => ?_
  by_cases hn : n < h.length
  · rw [List.getElem?_append_left hn, k n hn]
  · rw [List.getElem?_append_right (by omega), List.getElem?_drop]
    congr 1
    omega
theorem sim_def {n p : Nat} {b : MS} {bp : MSp} (hp : ∀ i ∈ own, p ≤ i) (hb : SimS own b bp) : SimF (mkDef n p b) (pDef n p bp) := fun A h ps ds hA r => by
  unfold mkDef pDef
  rw [r.length]
  by_cases hl : ds.length = p
  · rw [if_pos hl, if_pos hl]
    have z := hb A _ h _ _ (start_ok (n := n) hA r fun i hi => by rw [r.length, hl]; exact hp i hi)
    have fin : ∀ {h' : Hh} {o' : Nat → Option Nat}, StepO (fun _ => none) o' h h' → ∃ t, h' = h ++ t := fun s => prefix_of s.1 fun n hn => s.2.1 n hn fun i z => by cases z
    cases e : bp (startP n ps) with
    | nx _ => rw [e] at z; obtain ⟨a1, a2, a3, e, E, t⟩ := z; rw [e]; obtain ⟨u, rfl⟩ := fin t; exact ⟨.non, u, rfl, .non⟩
    | rt _ => rw [e] at z; obtain ⟨a1, a2, a3, e, r, t⟩ := z; rw [e]; obtain ⟨u, rfl⟩ := fin t; exact ⟨_, u, rfl, r⟩
    | ex _ _ => rw [e] at z; obtain ⟨a1, a2, a3, a4, e, E, t, x⟩ := z; rw [e]; obtain ⟨u, rfl⟩ := fin t; exact ⟨_, u, rfl, x⟩
    | bk _ => trivial
    | ct _ => trivial
    | no => trivial
  · rw [if_neg hl, if_neg hl]; trivial
theorem sim_defaults {f : Sem} {fp : Semp} {np : Nat} {dfl : List D} {dp : List P} (a : SimF f fp) (r : ∀ A h, Rps A h dp dfl) : SimF (semCall f np dfl) (callP fp np dp) := fun A h ps ds hA rs => by
  unfold semCall callP
  have e1 := rs.length
  have e2 := (r A h).length
  rw [e1, e2]
  split
  · exact a A h _ _ hA (rs.append ((r A h).drop _))
  · trivial
theorem sim_no : SimF (fun _ _ => .no) (fun _ => .no) := fun A h ps ds hA r => trivial
/-! ### __init__ -/
abbrev An (A : Nat → Prop) (n : Nat) : Nat → Prop := fun m => A m ∨ m = n
def SimIni (f : Sem) (fp : Inip) : Prop := ∀ A h n s ps ds, (∀ m, A m → m < h.length) → n < h.length → ¬ A n → RpT (An A n) h n s → Rps (An A n) h ps ds → match fp s ps with
  | .ok s' => ∃ h', f (.ref n :: ds) h = .ok .non h' ∧ h.length ≤ h'.length ∧ (∀ m, m < h.length → m ≠ n → h'[m]? = h[m]?) ∧ RpT (An A n) h' n s'
  | .ex x => ∃ x' h', f (.ref n :: ds) h = .ex x' h' ∧ h.length ≤ h'.length ∧ (∀ m, m < h.length → m ≠ n → h'[m]? = h[m]?) ∧ XOk A h' x x'
  | .no => True
theorem sim_init {n p : Nat} {b : MS} {bp : MSp} (h0 : 0 ∈ own) (hp : ∀ i ∈ own, i ≠ 0 → p ≤ i) (hb : SimS own b bp) : SimIni (mkDef n p b) (pInit n p bp) := fun A h m s ps ds hA hm hnA rt r => by
  unfold mkDef pInit
  rw [r.length]
  by_cases hl : ds.length + 1 = p
  · rw [if_pos hl, if_pos (by simpa using hl)]
    let o : Nat → Option Nat := fun i => if i = 0 then some m else none
    have av : Av A o = An A m := by
      funext j
      unfold Av An
      apply propext
      constructor
      · rintro (z | ⟨i, z⟩)
        · exact .inl z
        · by_cases hi : i = 0
          · have z : (if i = 0 then some m else none) = some j := z
            rw [if_pos hi] at z; cases z; exact .inr rfl
          · have z : (if i = 0 then some m else none) = some j := z
            rw [if_neg hi] at z; cases z
      · rintro (z | rfl)
        · exact .inl z
        · exact .inr ⟨0, rfl⟩
    have E : EnvOk A own o h (startD n (.ref m :: ds)) (startP n (s :: ps)) := by
      refine ⟨by unfold startD startP; simp [r.length], hA, fun i j e => ?_, fun i j k e1 e2 => ?_, fun i p e hi => ?_, fun i p e hi => ?_⟩
      · by_cases hi : i = 0
        · have e : (if i = 0 then some m else none) = some j := e
          rw [if_pos hi] at e; cases e
          exact ⟨hm, hnA, hi ▸ h0⟩
        · have e : (if i = 0 then some m else none) = some j := e
          rw [if_neg hi] at e; cases e
      · have e1 : (if i = 0 then some m else none) = some k := e1
        have e2 : (if j = 0 then some m else none) = some k := e2
        by_cases hi : i = 0
        · by_cases hj : j = 0
          · rw [hi, hj]
          · rw [if_neg hj] at e2; cases e2
        · rw [if_neg hi] at e1; cases e1
      · have e1 := startP_at e
        have hi0 : i ≠ 0 := fun z => hi (z ▸ h0)
        obtain ⟨k, rfl⟩ : ∃ k, i = k + 1 := ⟨i - 1, by omega⟩
        rw [List.getElem?_cons_succ] at e1
        obtain ⟨d, e2, q⟩ := r.get e1
        exact ⟨d, startD_at (by rw [List.getElem?_cons_succ]; exact e2), by rw [av]; exact q⟩
      · have e1 := startP_at e
        by_cases hi0 : i = 0
        · subst hi0
          cases e1
          exact ⟨m, startD_at rfl, rfl, by rw [av]; exact rt⟩
        · exfalso
          have h1 := (List.getElem?_eq_some_iff.mp e1).1
          have h2 := hp i hi hi0
          have h3 := r.length
          simp at h1
          omega
    have z := hb A o h _ _ E
    have keep : ∀ {h' : Hh} {o' : Nat → Option Nat}, StepO o o' h h' → h.length ≤ h'.length ∧ (∀ j, j < h.length → j ≠ m → h'[j]? = h[j]?) := fun st => ⟨st.1, fun j hj hne => st.2.1 j hj fun i z => by
      have z : (if i = 0 then some m else none) = some j := z
      by_cases hi : i = 0
      · rw [if_pos hi] at z; cases z; exact hne rfl
      · rw [if_neg hi] at z; cases z⟩
    cases e : bp (startP n (s :: ps)) with
    | nx δ' =>
      rw [e] at z
      obtain ⟨δ1, h', o', e1, E', st⟩ := z
      dsimp only
      rw [e1]
      rcases e2 : (δ'[0]? : Option (Option P)) with _ | _ | s'
      · trivial
      · trivial
      · obtain ⟨m', e3, e4, rt'⟩ := E'.w 0 s' e2 h0
        have em : m' = m := by
          have := st.2.2.2 m rfl
          rw [e4] at this
          exact Option.some.inj this
        subst em
        refine ⟨h', rfl, (keep st).1, (keep st).2, rt'.move (fun j u ha eu => ?_) rfl⟩
        refine ⟨fun z => ha ?_, eu⟩
        rcases z with z | rfl
        · exact .inl z
        · exact .inr ⟨0, e4⟩
    | ex x δ' =>
      rw [e] at z
      obtain ⟨x', δ1, h', o', e1, E', st, xx⟩ := z
      dsimp only
      rw [e1]
      exact ⟨x', h', rfl, (keep st).1, (keep st).2, xx⟩
    | bk _ => trivial
    | ct _ => trivial
    | rt _ => trivial
    | no => trivial
  · rw [if_neg hl]; trivial

theorem sim_iniD {f : Sem} {fp : Inip} {np : Nat} {dfl : List D} {dp : List P} (a : SimIni f fp) (r : ∀ A h, Rps A h dp dfl) : SimIni (semCall f np dfl) (callIni fp np dp) := fun A h n s ps ds hA hn hnA rt rs => by
  unfold semCall callIni
  have e1 := rs.length
  have e2 := (r A h).length
  rw [e1, e2, List.length_cons]
  by_cases hc : ds.length + 1 ≤ np ∧ np - (ds.length + 1) ≤ dfl.length
  · rw [if_pos hc, if_pos hc]
    exact a A h n s _ _ hA hn hnA rt (rs.append ((r _ h).drop _))
  · rw [if_neg hc, if_neg hc]
    trivial
/-- a new instance -/
theorem sim_mk (c : Nat) {f : Sem} {fp : Inip} (a : SimIni f fp) : SimF (mkIns c f) (mkP c fp) := fun A h ps ds hA rs => by
  unfold mkIns mkP
  have mv : Mv A h (An A h.length) (h ++ [.ins c []]) := (Mv.fresh fun n z => z.elim .inl fun z => .inr (by omega)).trans (.app _)
  have z := a A (h ++ [.ins c []]) h.length (.obj c []) ps ds (fun m z => by have := hA m z; simp; omega) (by simp) (fun z => by have := hA _ z; omega) ⟨[], by simp, .nil⟩ (rs.move mv)
  have pre : ∀ {h' : Hh}, (h ++ [AO.ins c []]).length ≤ h'.length → (∀ m, m < (h ++ [AO.ins c []]).length → m ≠ h.length → h'[m]? = (h ++ [AO.ins c []])[m]?) → ∃ t, h' = h ++ t := fun hl k => prefix_of (by simp at hl; omega) fun m hm => by
    rw [k m (by simp; omega) (by omega), List.getElem?_append_left hm]
  cases e : fp (.obj c []) ps with
  | ok s' =>
    rw [e] at z
    obtain ⟨h', e1, hl, k, rt⟩ := z
    obtain ⟨t, rfl⟩ := pre hl k
    rw [e1]
    exact ⟨_, t, rfl, rpT_ref (fun z => by have := hA _ z; omega) (rt.move (.less fun n z => .inl z) rfl)⟩
  | ex x =>
    rw [e] at z
    obtain ⟨x', h', e1, hl, k, xx⟩ := z
    obtain ⟨t, rfl⟩ := pre hl k
    rw [e1]
    exact ⟨_, t, rfl, xx⟩
  | no => trivial
/-- super().__init__(..) -/
theorem ss_super (h0 : 0 ∈ own) (c : Nat) {f : Sem} {fp : Inip} (a : SimIni f fp) {ms : MEs} {msp : MEsp} (hs : SimEs own true ms msp) : SimS own (Mi.sExpr (mSuper c f ms)) (uSuper c fp msp) := fun S o h δ δp E => by
  unfold uSuper
  rcases e : (δp[0]? : Option (Option P)) with _ | _ | q
  · trivial
  · trivial
  · cases q <;> first | trivial | skip
    rename_i c' fs
    obtain ⟨n, e1, e2, ds, e3, rf⟩ := E.w 0 _ e h0
    dsimp only
    split
    · rename_i hc
      subst hc
      have em : Mi.sExpr (mSuper c' f ms) δ h = (ms δ h).st δ fun ds h2 => (f (.ref n :: ds) h2).st δ fun _ h3 => .nx δ h3 := by
        unfold Mi.sExpr mSuper
        rw [e1]
        dsimp only
        have : clsAt h (.ref n) = some c' := by unfold clsAt; dsimp only; rw [e3]
        rw [if_pos this]
        cases ms δ h <;> rfl
      rw [em]
      refine .st E avB_S (hs S o h δ δp E) fun ps ds2 t _ r E1 => ?_
      rw [avB_t] at r
      let A : Nat → Prop := fun m => Av S o m ∧ m ≠ n
      have an : An A n = Av S o := by
        funext m
        apply propext
        constructor
        · rintro (z | rfl)
          · exact z.1
          · exact .inr ⟨0, e2⟩
        · intro z
          by_cases hm : m = n
          · exact .inr hm
          · exact .inl ⟨z, hm⟩
      obtain ⟨n', e1', e2', rt⟩ := E1.w 0 _ e h0
      rw [e2] at e2'; cases e2'
      have z := a A (h ++ t) n (.obj c' fs) ps ds2 (fun m z => E1.lt z.1) (E1.o_lt 0 n e2).1 (fun z => z.2 rfl) (by rw [an]; exact rt) (by rw [an]; exact r)
      cases ez : fp (.obj c' fs) ps with
      | ok s' =>
        rw [ez] at z
        obtain ⟨h', e4, hl, k, rt'⟩ := z
        rw [e4]
        rw [an] at rt'
        refine ⟨δ, h', o, rfl, ?_, hl, fun m hm ho => k m hm fun z => ho 0 (by rw [e2, z]), fun j m z => .inl ⟨j, z⟩, fun _ z => z⟩
        have mv : Mv (Av S o) (h ++ t) (Av S o) h' := fun m u ha eu => ⟨ha, by
          rw [k m (at_lt eu) fun z => ha (.inr ⟨0, by rw [e2, z]⟩)]; exact eu⟩
        refine ⟨by simp [E1.len], fun m z => Nat.lt_of_lt_of_le (E1.S_lt m z) hl, fun j m z => ⟨Nat.lt_of_lt_of_le (E1.o_lt j m z).1 hl, (E1.o_lt j m z).2⟩, E1.o_inj, fun j q eq hj => ?_, fun j q eq hj => ?_⟩
        · rcases set_at eq with ⟨rfl, _, _⟩ | ⟨_, eq⟩
          · exact absurd h0 hj
          · obtain ⟨d, e5, r5⟩ := E1.v j q eq hj
            exact ⟨d, e5, r5.move mv⟩
        · rcases set_at eq with ⟨rfl, eq2, _⟩ | ⟨hn, eq⟩
          · cases eq2
            exact ⟨n, e1, e2, rt'⟩
          · obtain ⟨m, e5, e6, r5⟩ := E1.w j q eq hj
            refine ⟨m, e5, e6, r5.move mv ?_⟩
            exact k m (E1.o_lt j m e6).1 fun z => hn (E1.o_inj j 0 m e6 (by rw [e2, z]))
      | ex x => trivial
      | no => trivial
    · trivial
end
/-! ### built-in functions -/
theorem sb_abs : SimF bAbs fAbs := fun A h ps ds hA r => by
  cases r with
  | nil => trivial
  | cons r1 r2 =>
    cases r2 with
    | nil => cases r1 <;> first | exact .ok (.int _) | trivial
    | cons _ _ => cases r1 <;> trivial
theorem sb_len : SimF bLen fLen := fun A h ps ds hA r => by
  cases r with
  | nil => trivial
  | cons r1 r2 =>
    cases r2 with
    | nil =>
      cases r1 <;> first | trivial | skip
      · unfold bLen fLen; dsimp only; split
        · exact .ok (.int _)
        · trivial
      · rename_i r; unfold bLen fLen; dsimp only; rw [r.length]; exact .ok (.int _)
      · rename_i e r; unfold bLen fLen; dsimp only; rw [e, r.length]; exact .ok (.int _)
      · rename_i e r; unfold bLen fLen; dsimp only; rw [e, r.length]; exact .ok (.int _)
    | cons _ _ => cases r1 <;> trivial
section
variable {A : Nat → Prop} {h : Hh}
theorem bools_rp : ∀ {ps : List P} {ds : List D} {bs : List Bool}, Rps A h ps ds → boolsP ps = some bs → boolsOf ds = some bs
  | _, _, _, .nil, e => e
  | p :: ps', _, bs, .cons r t, e => by
    cases p <;> first | (cases e; done) | skip
    rename_i b
    cases r
    have e : (boolsP ps').map (b :: ·) = some bs := e
    cases z : boolsP ps' with
    | none => rw [z] at e; cases e
    | some bs' => rw [z] at e; show (boolsOf _).map (b :: ·) = _; rw [bools_rp t z]; exact e
theorem ints_rp : ∀ {ps : List P} {ds : List D} {bs : List Int}, Rps A h ps ds → intsP ps = some bs → intsOf ds = some bs
  | _, _, _, .nil, e => e
  | p :: ps', _, bs, .cons r t, e => by
    cases p <;> first | (cases e; done) | skip
    rename_i b
    cases r
    have e : (intsP ps').map (b :: ·) = some bs := e
    cases z : intsP ps' with
    | none => rw [z] at e; cases e
    | some bs' => rw [z] at e; show (intsOf _).map (b :: ·) = _; rw [ints_rp t z]; exact e
theorem seq_rp {p : P} {d : D} {ps : List P} (r : Rp A h p d) (e : seqP p = some ps) : ∃ n ds, d = .ref n ∧ lstAt h n = some ds ∧ Rps A h ps ds := by
  cases r <;> first | (cases e; done) | skip
  · rename_i n ps' ds a e1 r
    cases e
    exact ⟨n, ds, rfl, by unfold lstAt; rw [e1], r⟩
  · rename_i n ps' ds a e1 r
    cases e
    exact ⟨n, ds, rfl, by unfold lstAt; rw [e1], r⟩
end
theorem sb_any : SimF bAny fAny := fun A h ps ds hA r => by
  cases r with
  | nil => trivial
  | @cons p _ _ _ r1 r2 =>
    cases r2 with
    | cons _ _ => trivial
    | nil =>
      unfold fAny
      dsimp only
      cases e : seqP p with
      | none => trivial
      | some ps =>
        obtain ⟨n, ds, rfl, e1, r⟩ := seq_rp r1 e
        cases e2 : boolsP ps with
        | none => show SimR _ _ _ _ (match boolsP ps with | some bs => _ | none => RP.no); rw [e2]; trivial
        | some bs =>
          have e3 : (some ps).bind boolsP = some bs := e2
          have e4 : (lstAt h n).bind boolsOf = some bs := by rw [e1]; exact bools_rp r e2
          rw [e3]
          unfold bAny
          dsimp only
          rw [e4]
          exact .ok (.bl _)
theorem sb_all : SimF bAll fAll := fun A h ps ds hA r => by
  cases r with
  | nil => trivial
  | @cons p _ _ _ r1 r2 =>
    cases r2 with
    | cons _ _ => trivial
    | nil =>
      unfold fAll
      dsimp only
      cases e : seqP p with
      | none => trivial
      | some ps =>
        obtain ⟨n, ds, rfl, e1, r⟩ := seq_rp r1 e
        cases e2 : boolsP ps with
        | none => show SimR _ _ _ _ (match boolsP ps with | some bs => _ | none => RP.no); rw [e2]; trivial
        | some bs =>
          have e3 : (some ps).bind boolsP = some bs := e2
          have e4 : (lstAt h n).bind boolsOf = some bs := by rw [e1]; exact bools_rp r e2
          rw [e3]
          unfold bAll
          dsimp only
          rw [e4]
          exact .ok (.bl _)
theorem sb_sum : SimF bSum fSum := fun A h ps ds hA r => by
  cases r with
  | nil => trivial
  | @cons p _ _ _ r1 r2 =>
    cases r2 with
    | cons _ _ => trivial
    | nil =>
      unfold fSum
      dsimp only
      cases e : seqP p with
      | none => trivial
      | some ps =>
        obtain ⟨n, ds, rfl, e1, r⟩ := seq_rp r1 e
        cases e2 : intsP ps with
        | none => show SimR _ _ _ _ (match intsP ps with | some bs => _ | none => RP.no); rw [e2]; trivial
        | some bs =>
          have e3 : (some ps).bind intsP = some bs := e2
          have e4 : (lstAt h n).bind intsOf = some bs := by rw [e1]; exact ints_rp r e2
          rw [e3]
          unfold bSum
          dsimp only
          rw [e4]
          exact .ok (.int _)
/-! ### a law's def -/
theorem ints_rps {A : Nat → Prop} {h : Hh} : ∀ ns : List Int, Rps A h (ns.map P.int) (ns.map D.int)
  | [] => .nil
  | i :: l => .cons (.int i) (ints_rps l)
theorem sim_law {s : Sem} {sp : Semp} (a : SimF s sp) (ns : List Int) (e : sp [.rol (ns.map P.int)] = .ok (.bl true)) : ∃ h', s [.ref 0] [.rol (ns.map D.int)] = .ok (.bl true) h' := by
  have z := a (fun _ => False) [.rol (ns.map D.int)] [.rol (ns.map P.int)] [.ref 0] (fun _ z => z.elim) (.cons (.rol (fun z => z) rfl (ints_rps ns)) .nil)
  rw [e] at z
  obtain ⟨d, t, e1, r⟩ := z
  cases r
  exact ⟨_, e1⟩
end Mi
namespace Mi
open PySem
/-! ### what the printed proofs use -/
theorem ni {own : List Nat} {i : Nat} (h : own.contains i = false) : i ∉ own := fun z => by
  have : own.contains i = true := by simpa using z
  rw [h] at this; cases this
theorem yi {own : List Nat} {i : Nat} (h : own.contains i = true) : i ∈ own := by simpa using h
theorem nis {own is : List Nat} (h : (is.all fun i => !own.contains i) = true) : ∀ i ∈ is, i ∉ own := fun i hi => ni (by
  have := List.all_eq_true.mp h i hi
  simpa using this)
theorem lo {own : List Nat} {p : Nat} (h : (own.all fun i => decide (p ≤ i)) = true) : ∀ i ∈ own, p ≤ i := fun i hi => of_decide_eq_true (List.all_eq_true.mp h i hi)
theorem lo0 {own : List Nat} {p : Nat} (h : (own.all fun i => decide (i = 0) || decide (p ≤ i)) = true) : ∀ i ∈ own, i ≠ 0 → p ≤ i := fun i hi hn => by
  have := List.all_eq_true.mp h i hi
  rw [Bool.or_eq_true] at this
  rcases this with z | z
  · exact absurd (of_decide_eq_true z) hn
  · exact of_decide_eq_true z
def pNo : MEp := fun _ => .no
def qNo : MTp := fun _ => .no
def uNo : MSp := fun _ => .no
def jNo : MIp := fun _ => .no
def hNo : MGp := fun _ _ => none
theorem sim_noE {own : List Nat} {cl : Bool} {m : ME} : SimE own cl m pNo := fun S o h δ δp E => trivial
theorem sim_noT {own : List Nat} {m : MT} : SimT own m qNo := fun S o h δ δp E => trivial
theorem ss_no {own : List Nat} {m : MS} : SimS own m uNo := fun S o h δ δp E => trivial
theorem sim_noI {own : List Nat} {cl : Bool} {m : MI} : SimI own cl m jNo := fun S o h δ δp E => trivial
theorem sg_no {own : List Nat} {g : MG} : SimG own g hNo := fun S o h δ δp p d E r => trivial
end Mi

namespace Lw
open PySem Mi
def vp_MODES : P := .tup [.str "down", .str "up", .str "half", .str "even"]
theorem rp_MODES (A : Nat → Prop) (h : Hh) : Rp A h vp_MODES v_MODES := .tup (.cons (.str _) (.cons (.str _) (.cons (.str _) (.cons (.str _) .nil))))
def vp_MOST : P := .int 99
theorem rp_MOST (A : Nat → Prop) (h : Hh) : Rp A h vp_MOST v_MOST := .int _
def csP0 : List CIP := [⟨0, ["pair"], [], [], [], []⟩,
  ⟨1, ["number", "rule"], [("WORD", .str "step")], [], [], [2, 3, 4]⟩,
  ⟨2, ["number", "rule"], [("WORD", .str "scale")], [], [], []⟩,
  ⟨3, ["number", "rule"], [("WORD", .str "shift")], [], [], []⟩,
  ⟨4, ["number", "rule"], [("WORD", .str "round")], [], [], []⟩]
theorem csok0 : CsOk cs0 csP0 := (.cons ⟨rfl, rfl, .nil, .nil, .nil, rfl⟩ (.cons ⟨rfl, rfl, (.cons (fun _ _ => .str _) .nil), .nil, .nil, rfl⟩ (.cons ⟨rfl, rfl, (.cons (fun _ _ => .str _) .nil), .nil, .nil, rfl⟩ (.cons ⟨rfl, rfl, (.cons (fun _ _ => .str _) .nil), .nil, .nil, rfl⟩ (.cons ⟨rfl, rfl, (.cons (fun _ _ => .str _) .nil), .nil, .nil, rfl⟩ .nil)))))
/-! is_integer -/
def bp_is_integer : MSp := (uSeq (uRet (pAnd (pUn (isP subs tgs [.b "int"]) (pVar 0)) (pNot (pUn (isP subs tgs [.b "bool"]) (pVar 0))))) uNil)
theorem sb_is_integer : SimS [] b_is_integer bp_is_integer := (ss_seq (ss_ret (sim_and (sim_un (su_is subs tgs [.b "int"]) (sim_var (ni rfl))) (sim_not (sim_un (su_is subs tgs [.b "bool"]) (sim_var (ni rfl)))))) ss_nil)
def sp_is_integer : Semp := pDef 1 1 bp_is_integer
theorem si_is_integer : SimF s_is_integer sp_is_integer := sim_def (own := []) (lo rfl) sb_is_integer
abbrev ep_is_integer : Semp := sp_is_integer
theorem se_is_integer : SimF e_is_integer ep_is_integer := si_is_integer
/-! common -/
def lp_common_0 : MSp := (uSeq (uPar [0, 1] (pCons (pVar 1) (pCons (pBin (pMod) (pVar 0) (pVar 1)) pNil))) uNil)
def bp_common : MSp := (uSeq (uPar [0, 1] (pCons (pCall fAbs (pCons (pVar 0) pNil)) (pCons (pCall fAbs (pCons (pVar 1) pNil)) pNil))) (uSeq (uWhile (qE (pBin (neP csP0) (pVar 1) (pLit (.int 0)))) lp_common_0) (uSeq (uRet (pVar 0)) uNil)))
theorem sb_common : SimS [] b_common bp_common := (ss_seq (ss_par (nis rfl) (sim_cons (sim_call sb_abs (sim_cons (sim_var (ni rfl)) sim_nil)) (sim_cons (sim_call sb_abs (sim_cons (sim_var (ni rfl)) sim_nil)) sim_nil))) (ss_seq (ss_while0 (sim_tE (sim_bin (so_neOwn csok0) (sim_var (ni rfl)) (sim_lit fun _ _ => (.int _)))) (ss_seq (ss_par (nis rfl) (sim_cons (sim_var (ni rfl)) (sim_cons (sim_bin (so_mod) (sim_var (ni rfl)) (sim_var (ni rfl))) sim_nil))) ss_nil)) (ss_seq (ss_ret (sim_var (ni rfl))) ss_nil)))
def sp_common : Semp := pDef 2 2 bp_common
theorem si_common : SimF s_common sp_common := sim_def (own := []) (lo rfl) sb_common
abbrev ep_common : Semp := sp_common
theorem se_common : SimF e_common ep_common := si_common
/-! lowest -/
def bp_lowest : MSp := (uSeq (uAsg (pCall ep_common (pCons (pBin pIx (pVar 0) (pLit (.int 0))) (pCons (pBin pIx (pVar 0) (pLit (.int 1))) pNil))) (hNm 1)) (uSeq (uRet (pTup (pCons (pBin (pFdiv) (pBin pIx (pVar 0) (pLit (.int 0))) (pVar 1)) (pCons (pBin (pFdiv) (pBin pIx (pVar 0) (pLit (.int 1))) (pVar 1)) pNil)))) uNil))
theorem sb_lowest : SimS [] b_lowest bp_lowest := (ss_seq (ss_asg (sim_call se_common (sim_cons (sim_bin so_ix (sim_var (ni rfl)) (sim_lit fun _ _ => (.int _))) (sim_cons (sim_bin so_ix (sim_var (ni rfl)) (sim_lit fun _ _ => (.int _))) sim_nil))) (sg_nm (ni rfl))) (ss_seq (ss_ret (sim_tup (sim_cons (sim_bin (so_fdiv) (sim_bin so_ix (sim_var (ni rfl)) (sim_lit fun _ _ => (.int _))) (sim_var (ni rfl))) (sim_cons (sim_bin (so_fdiv) (sim_bin so_ix (sim_var (ni rfl)) (sim_lit fun _ _ => (.int _))) (sim_var (ni rfl))) sim_nil)))) ss_nil))
def sp_lowest : Semp := pDef 2 1 bp_lowest
theorem si_lowest : SimF s_lowest sp_lowest := sim_def (own := []) (lo rfl) sb_lowest
abbrev ep_lowest : Semp := sp_lowest
theorem se_lowest : SimF e_lowest ep_lowest := si_lowest
/-! added -/
def bp_added : MSp := (uSeq (uRet (pCall ep_lowest (pCons (pTup (pCons (pBin (arithP csP0 "__add__" pAdd) (pBin (arithP csP0 "__mul__" pMul) (pBin pIx (pVar 0) (pLit (.int 0))) (pBin pIx (pVar 1) (pLit (.int 1)))) (pBin (arithP csP0 "__mul__" pMul) (pBin pIx (pVar 1) (pLit (.int 0))) (pBin pIx (pVar 0) (pLit (.int 1))))) (pCons (pBin (arithP csP0 "__mul__" pMul) (pBin pIx (pVar 0) (pLit (.int 1))) (pBin pIx (pVar 1) (pLit (.int 1)))) pNil))) pNil))) uNil)
theorem sb_added : SimS [] b_added bp_added := (ss_seq (ss_ret (sim_call se_lowest (sim_cons (sim_tup (sim_cons (sim_bin (so_arith csok0 "__add__" so_add) (sim_bin (so_arith csok0 "__mul__" so_mul) (sim_bin so_ix (sim_var (ni rfl)) (sim_lit fun _ _ => (.int _))) (sim_bin so_ix (sim_var (ni rfl)) (sim_lit fun _ _ => (.int _)))) (sim_bin (so_arith csok0 "__mul__" so_mul) (sim_bin so_ix (sim_var (ni rfl)) (sim_lit fun _ _ => (.int _))) (sim_bin so_ix (sim_var (ni rfl)) (sim_lit fun _ _ => (.int _))))) (sim_cons (sim_bin (so_arith csok0 "__mul__" so_mul) (sim_bin so_ix (sim_var (ni rfl)) (sim_lit fun _ _ => (.int _))) (sim_bin so_ix (sim_var (ni rfl)) (sim_lit fun _ _ => (.int _)))) sim_nil))) sim_nil))) ss_nil)
def sp_added : Semp := pDef 2 2 bp_added
theorem si_added : SimF s_added sp_added := sim_def (own := []) (lo rfl) sb_added
abbrev ep_added : Semp := sp_added
theorem se_added : SimF e_added ep_added := si_added
/-! multiplied -/
def bp_multiplied : MSp := (uSeq (uRet (pCall ep_lowest (pCons (pTup (pCons (pBin (arithP csP0 "__mul__" pMul) (pBin pIx (pVar 0) (pLit (.int 0))) (pBin pIx (pVar 1) (pLit (.int 0)))) (pCons (pBin (arithP csP0 "__mul__" pMul) (pBin pIx (pVar 0) (pLit (.int 1))) (pBin pIx (pVar 1) (pLit (.int 1)))) pNil))) pNil))) uNil)
theorem sb_multiplied : SimS [] b_multiplied bp_multiplied := (ss_seq (ss_ret (sim_call se_lowest (sim_cons (sim_tup (sim_cons (sim_bin (so_arith csok0 "__mul__" so_mul) (sim_bin so_ix (sim_var (ni rfl)) (sim_lit fun _ _ => (.int _))) (sim_bin so_ix (sim_var (ni rfl)) (sim_lit fun _ _ => (.int _)))) (sim_cons (sim_bin (so_arith csok0 "__mul__" so_mul) (sim_bin so_ix (sim_var (ni rfl)) (sim_lit fun _ _ => (.int _))) (sim_bin so_ix (sim_var (ni rfl)) (sim_lit fun _ _ => (.int _)))) sim_nil))) sim_nil))) ss_nil)
def sp_multiplied : Semp := pDef 2 2 bp_multiplied
theorem si_multiplied : SimF s_multiplied sp_multiplied := sim_def (own := []) (lo rfl) sb_multiplied
abbrev ep_multiplied : Semp := sp_multiplied
theorem se_multiplied : SimF e_multiplied ep_multiplied := si_multiplied
/-! Ratio.__init__ -/
def bp_Ratio_init : MSp := (uSeq (uIf (qOr (qNot (qE (pCall ep_is_integer (pCons (pVar 1) pNil)))) (qOr (qNot (qE (pCall ep_is_integer (pCons (pVar 2) pNil)))) (qE (pBin (cmpP .Lt) (pVar 2) (pLit (.int 1)))))) (uSeq (uRaise 6 (pCons (pLit (.str "not a numerator and a positive denominator")) pNil)) uNil) uNil) (uSeq (uFld csP0 0 "pair" (pCall ep_lowest (pCons (pTup (pCons (pVar 1) (pCons (pVar 2) pNil))) pNil))) uNil))
theorem sb_Ratio_init : SimS [0] b_Ratio_init bp_Ratio_init := (ss_seq (ss_if (sim_tOr (sim_tNot (sim_tE (sim_call se_is_integer (sim_cons (sim_var (ni rfl)) sim_nil)))) (sim_tOr (sim_tNot (sim_tE (sim_call se_is_integer (sim_cons (sim_var (ni rfl)) sim_nil)))) (sim_tE (sim_bin (so_cmp .Lt) (sim_var (ni rfl)) (sim_lit fun _ _ => (.int _)))))) (ss_seq (ss_raise 6 (sim_cons (sim_lit fun _ _ => (.str _)) sim_nil)) ss_nil) ss_nil) (ss_seq (ss_fld csok0 (yi rfl) "pair" (sim_call se_lowest (sim_cons (sim_tup (sim_cons (sim_var (ni rfl)) (sim_cons (sim_var (ni rfl)) sim_nil))) sim_nil))) ss_nil))
def sp_Ratio_init : Inip := pInit 3 3 bp_Ratio_init
theorem si_Ratio_init : SimIni s_Ratio_init sp_Ratio_init := sim_init (own := [0]) (yi rfl) (lo0 rfl) sb_Ratio_init
def ep_Ratio_init : Inip := callIni sp_Ratio_init 3 [.int 1]
theorem se_Ratio_init : SimIni e_Ratio_init ep_Ratio_init := sim_iniD si_Ratio_init fun _ _ => (.cons (.int _) .nil)
def ep_Ratio : Semp := mkP 0 ep_Ratio_init
theorem se_Ratio : SimF e_Ratio ep_Ratio := sim_mk 0 se_Ratio_init
/-! pair_of -/
def bp_pair_of : MSp := (uSeq (uIf (qNot (qE (pUn (isP subs tgs [.c 0]) (pVar 0)))) (uSeq (uRaise 6 (pCons (pLit (.str "not a Ratio")) pNil)) uNil) uNil) (uSeq (uRet (pAttr csP0 "pair" (pVar 0))) uNil))
theorem sb_pair_of : SimS [] b_pair_of bp_pair_of := (ss_seq (ss_if (sim_tNot (sim_tE (sim_un (su_is subs tgs [.c 0]) (sim_var (ni rfl))))) (ss_seq (ss_raise 6 (sim_cons (sim_lit fun _ _ => (.str _)) sim_nil)) ss_nil) ss_nil) (ss_seq (ss_ret (sim_attr csok0 "pair" (sim_var (ni rfl)))) ss_nil))
def sp_pair_of : Semp := pDef 1 1 bp_pair_of
theorem si_pair_of : SimF s_pair_of sp_pair_of := sim_def (own := []) (lo rfl) sb_pair_of
abbrev ep_pair_of : Semp := sp_pair_of
theorem se_pair_of : SimF e_pair_of ep_pair_of := si_pair_of
/-! ratio_of -/
def bp_ratio_of : MSp := (uSeq (uRet (pCall ep_Ratio (pCons (pBin pIx (pVar 0) (pLit (.int 0))) (pCons (pBin pIx (pVar 0) (pLit (.int 1))) pNil)))) uNil)
theorem sb_ratio_of : SimS [] b_ratio_of bp_ratio_of := (ss_seq (ss_ret (sim_call se_Ratio (sim_cons (sim_bin so_ix (sim_var (ni rfl)) (sim_lit fun _ _ => (.int _))) (sim_cons (sim_bin so_ix (sim_var (ni rfl)) (sim_lit fun _ _ => (.int _))) sim_nil)))) ss_nil)
def sp_ratio_of : Semp := pDef 1 1 bp_ratio_of
theorem si_ratio_of : SimF s_ratio_of sp_ratio_of := sim_def (own := []) (lo rfl) sb_ratio_of
abbrev ep_ratio_of : Semp := sp_ratio_of
theorem se_ratio_of : SimF e_ratio_of ep_ratio_of := si_ratio_of
/-! Ratio.top -/
def bp_Ratio_top : MSp := (uSeq (uRet (pBin pIx (pAttr csP0 "pair" (pVar 0)) (pLit (.int 0)))) uNil)
theorem sb_Ratio_top : SimS [] b_Ratio_top bp_Ratio_top := (ss_seq (ss_ret (sim_bin so_ix (sim_attr csok0 "pair" (sim_var (ni rfl))) (sim_lit fun _ _ => (.int _)))) ss_nil)
def sp_Ratio_top : Semp := pDef 1 1 bp_Ratio_top
theorem si_Ratio_top : SimF s_Ratio_top sp_Ratio_top := sim_def (own := []) (lo rfl) sb_Ratio_top
abbrev ep_Ratio_top : Semp := sp_Ratio_top
theorem se_Ratio_top : SimF e_Ratio_top ep_Ratio_top := si_Ratio_top
/-! Ratio.bottom -/
def bp_Ratio_bottom : MSp := (uSeq (uRet (pBin pIx (pAttr csP0 "pair" (pVar 0)) (pLit (.int 1)))) uNil)
theorem sb_Ratio_bottom : SimS [] b_Ratio_bottom bp_Ratio_bottom := (ss_seq (ss_ret (sim_bin so_ix (sim_attr csok0 "pair" (sim_var (ni rfl))) (sim_lit fun _ _ => (.int _)))) ss_nil)
def sp_Ratio_bottom : Semp := pDef 1 1 bp_Ratio_bottom
theorem si_Ratio_bottom : SimF s_Ratio_bottom sp_Ratio_bottom := sim_def (own := []) (lo rfl) sb_Ratio_bottom
abbrev ep_Ratio_bottom : Semp := sp_Ratio_bottom
theorem se_Ratio_bottom : SimF e_Ratio_bottom ep_Ratio_bottom := si_Ratio_bottom
/-! Ratio.__eq__ -/
def bp_Ratio_eq : MSp := (uSeq (uRet (pAnd (pUn (isP subs tgs [.c 0]) (pVar 1)) (pBin (ownP csP0 "__eq__" qEq) (pAttr csP0 "pair" (pVar 0)) (pAttr csP0 "pair" (pVar 1))))) uNil)
theorem sb_Ratio_eq : SimS [] b_Ratio_eq bp_Ratio_eq := (ss_seq (ss_ret (sim_and (sim_un (su_is subs tgs [.c 0]) (sim_var (ni rfl))) (sim_bin (so_own csok0 "__eq__" so_eq) (sim_attr csok0 "pair" (sim_var (ni rfl))) (sim_attr csok0 "pair" (sim_var (ni rfl)))))) ss_nil)
def sp_Ratio_eq : Semp := pDef 2 2 bp_Ratio_eq
theorem si_Ratio_eq : SimF s_Ratio_eq sp_Ratio_eq := sim_def (own := []) (lo rfl) sb_Ratio_eq
abbrev ep_Ratio_eq : Semp := sp_Ratio_eq
theorem se_Ratio_eq : SimF e_Ratio_eq ep_Ratio_eq := si_Ratio_eq
/-! Ratio.__add__ -/
def bp_Ratio_add : MSp := (uSeq (uRet (pCall ep_ratio_of (pCons (pCall ep_added (pCons (pAttr csP0 "pair" (pVar 0)) (pCons (pCall ep_pair_of (pCons (pVar 1) pNil)) pNil))) pNil))) uNil)
theorem sb_Ratio_add : SimS [] b_Ratio_add bp_Ratio_add := (ss_seq (ss_ret (sim_call se_ratio_of (sim_cons (sim_call se_added (sim_cons (sim_attr csok0 "pair" (sim_var (ni rfl))) (sim_cons (sim_call se_pair_of (sim_cons (sim_var (ni rfl)) sim_nil)) sim_nil))) sim_nil))) ss_nil)
def sp_Ratio_add : Semp := pDef 2 2 bp_Ratio_add
theorem si_Ratio_add : SimF s_Ratio_add sp_Ratio_add := sim_def (own := []) (lo rfl) sb_Ratio_add
abbrev ep_Ratio_add : Semp := sp_Ratio_add
theorem se_Ratio_add : SimF e_Ratio_add ep_Ratio_add := si_Ratio_add
/-! Ratio.__sub__ -/
def bp_Ratio_sub : MSp := (uSeq (uAsg (pCall ep_pair_of (pCons (pVar 1) pNil)) (hNm 2)) (uSeq (uRet (pCall ep_ratio_of (pCons (pCall ep_added (pCons (pAttr csP0 "pair" (pVar 0)) (pCons (pTup (pCons (pUn (unOwnP csP0 "__neg__" pNeg) (pBin pIx (pVar 2) (pLit (.int 0)))) (pCons (pBin pIx (pVar 2) (pLit (.int 1))) pNil))) pNil))) pNil))) uNil))
theorem sb_Ratio_sub : SimS [] b_Ratio_sub bp_Ratio_sub := (ss_seq (ss_asg (sim_call se_pair_of (sim_cons (sim_var (ni rfl)) sim_nil)) (sg_nm (ni rfl))) (ss_seq (ss_ret (sim_call se_ratio_of (sim_cons (sim_call se_added (sim_cons (sim_attr csok0 "pair" (sim_var (ni rfl))) (sim_cons (sim_tup (sim_cons (sim_un (su_own csok0 "__neg__" su_neg) (sim_bin so_ix (sim_var (ni rfl)) (sim_lit fun _ _ => (.int _)))) (sim_cons (sim_bin so_ix (sim_var (ni rfl)) (sim_lit fun _ _ => (.int _))) sim_nil))) sim_nil))) sim_nil))) ss_nil))
def sp_Ratio_sub : Semp := pDef 3 2 bp_Ratio_sub
theorem si_Ratio_sub : SimF s_Ratio_sub sp_Ratio_sub := sim_def (own := []) (lo rfl) sb_Ratio_sub
abbrev ep_Ratio_sub : Semp := sp_Ratio_sub
theorem se_Ratio_sub : SimF e_Ratio_sub ep_Ratio_sub := si_Ratio_sub
/-! Ratio.__mul__ -/
def bp_Ratio_mul : MSp := (uSeq (uRet (pCall ep_ratio_of (pCons (pCall ep_multiplied (pCons (pAttr csP0 "pair" (pVar 0)) (pCons (pCall ep_pair_of (pCons (pVar 1) pNil)) pNil))) pNil))) uNil)
theorem sb_Ratio_mul : SimS [] b_Ratio_mul bp_Ratio_mul := (ss_seq (ss_ret (sim_call se_ratio_of (sim_cons (sim_call se_multiplied (sim_cons (sim_attr csok0 "pair" (sim_var (ni rfl))) (sim_cons (sim_call se_pair_of (sim_cons (sim_var (ni rfl)) sim_nil)) sim_nil))) sim_nil))) ss_nil)
def sp_Ratio_mul : Semp := pDef 2 2 bp_Ratio_mul
theorem si_Ratio_mul : SimF s_Ratio_mul sp_Ratio_mul := sim_def (own := []) (lo rfl) sb_Ratio_mul
abbrev ep_Ratio_mul : Semp := sp_Ratio_mul
theorem se_Ratio_mul : SimF e_Ratio_mul ep_Ratio_mul := si_Ratio_mul
/-! Ratio.__neg__ -/
def bp_Ratio_neg : MSp := (uSeq (uRet (pCall ep_ratio_of (pCons (pTup (pCons (pUn (unOwnP csP0 "__neg__" pNeg) (pBin pIx (pAttr csP0 "pair" (pVar 0)) (pLit (.int 0)))) (pCons (pBin pIx (pAttr csP0 "pair" (pVar 0)) (pLit (.int 1))) pNil))) pNil))) uNil)
theorem sb_Ratio_neg : SimS [] b_Ratio_neg bp_Ratio_neg := (ss_seq (ss_ret (sim_call se_ratio_of (sim_cons (sim_tup (sim_cons (sim_un (su_own csok0 "__neg__" su_neg) (sim_bin so_ix (sim_attr csok0 "pair" (sim_var (ni rfl))) (sim_lit fun _ _ => (.int _)))) (sim_cons (sim_bin so_ix (sim_attr csok0 "pair" (sim_var (ni rfl))) (sim_lit fun _ _ => (.int _))) sim_nil))) sim_nil))) ss_nil)
def sp_Ratio_neg : Semp := pDef 1 1 bp_Ratio_neg
theorem si_Ratio_neg : SimF s_Ratio_neg sp_Ratio_neg := sim_def (own := []) (lo rfl) sb_Ratio_neg
abbrev ep_Ratio_neg : Semp := sp_Ratio_neg
theorem se_Ratio_neg : SimF e_Ratio_neg ep_Ratio_neg := si_Ratio_neg
/-! Ratio.__le__ -/
def bp_Ratio_le : MSp := (uSeq (uAsg (pCall ep_pair_of (pCons (pVar 1) pNil)) (hNm 2)) (uSeq (uRet (pBin (ownP csP0 "__le__" (cmpP .LtE)) (pBin (arithP csP0 "__mul__" pMul) (pBin pIx (pAttr csP0 "pair" (pVar 0)) (pLit (.int 0))) (pBin pIx (pVar 2) (pLit (.int 1)))) (pBin (arithP csP0 "__mul__" pMul) (pBin pIx (pVar 2) (pLit (.int 0))) (pBin pIx (pAttr csP0 "pair" (pVar 0)) (pLit (.int 1)))))) uNil))
theorem sb_Ratio_le : SimS [] b_Ratio_le bp_Ratio_le := (ss_seq (ss_asg (sim_call se_pair_of (sim_cons (sim_var (ni rfl)) sim_nil)) (sg_nm (ni rfl))) (ss_seq (ss_ret (sim_bin (so_own csok0 "__le__" (so_cmp .LtE)) (sim_bin (so_arith csok0 "__mul__" so_mul) (sim_bin so_ix (sim_attr csok0 "pair" (sim_var (ni rfl))) (sim_lit fun _ _ => (.int _))) (sim_bin so_ix (sim_var (ni rfl)) (sim_lit fun _ _ => (.int _)))) (sim_bin (so_arith csok0 "__mul__" so_mul) (sim_bin so_ix (sim_var (ni rfl)) (sim_lit fun _ _ => (.int _))) (sim_bin so_ix (sim_attr csok0 "pair" (sim_var (ni rfl))) (sim_lit fun _ _ => (.int _)))))) ss_nil))
def sp_Ratio_le : Semp := pDef 3 2 bp_Ratio_le
theorem si_Ratio_le : SimF s_Ratio_le sp_Ratio_le := sim_def (own := []) (lo rfl) sb_Ratio_le
abbrev ep_Ratio_le : Semp := sp_Ratio_le
theorem se_Ratio_le : SimF e_Ratio_le ep_Ratio_le := si_Ratio_le
/-! floor_of -/
def bp_floor_of : MSp := (uSeq (uRet (pBin (pFdiv) (pBin pIx (pVar 0) (pLit (.int 0))) (pBin pIx (pVar 0) (pLit (.int 1))))) uNil)
theorem sb_floor_of : SimS [] b_floor_of bp_floor_of := (ss_seq (ss_ret (sim_bin (so_fdiv) (sim_bin so_ix (sim_var (ni rfl)) (sim_lit fun _ _ => (.int _))) (sim_bin so_ix (sim_var (ni rfl)) (sim_lit fun _ _ => (.int _))))) ss_nil)
def sp_floor_of : Semp := pDef 1 1 bp_floor_of
theorem si_floor_of : SimF s_floor_of sp_floor_of := sim_def (own := []) (lo rfl) sb_floor_of
abbrev ep_floor_of : Semp := sp_floor_of
theorem se_floor_of : SimF e_floor_of ep_floor_of := si_floor_of
/-! turned -/
def bp_turned : MSp := (uSeq (uRet (pIf (qE (pBin (cmpP .Gt) (pBin pIx (pVar 0) (pLit (.int 0))) (pLit (.int 0)))) (pTup (pCons (pBin pIx (pVar 0) (pLit (.int 1))) (pCons (pBin pIx (pVar 0) (pLit (.int 0))) pNil))) (pTup (pCons (pUn (unOwnP csP0 "__neg__" pNeg) (pBin pIx (pVar 0) (pLit (.int 1)))) (pCons (pUn (unOwnP csP0 "__neg__" pNeg) (pBin pIx (pVar 0) (pLit (.int 0)))) pNil))))) uNil)
theorem sb_turned : SimS [] b_turned bp_turned := (ss_seq (ss_ret (sim_if (sim_tE (sim_bin (so_cmp .Gt) (sim_bin so_ix (sim_var (ni rfl)) (sim_lit fun _ _ => (.int _))) (sim_lit fun _ _ => (.int _)))) (sim_tup (sim_cons (sim_bin so_ix (sim_var (ni rfl)) (sim_lit fun _ _ => (.int _))) (sim_cons (sim_bin so_ix (sim_var (ni rfl)) (sim_lit fun _ _ => (.int _))) sim_nil))) (sim_tup (sim_cons (sim_un (su_own csok0 "__neg__" su_neg) (sim_bin so_ix (sim_var (ni rfl)) (sim_lit fun _ _ => (.int _)))) (sim_cons (sim_un (su_own csok0 "__neg__" su_neg) (sim_bin so_ix (sim_var (ni rfl)) (sim_lit fun _ _ => (.int _)))) sim_nil))))) ss_nil)
def sp_turned : Semp := pDef 1 1 bp_turned
theorem si_turned : SimF s_turned sp_turned := sim_def (own := []) (lo rfl) sb_turned
abbrev ep_turned : Semp := sp_turned
theorem se_turned : SimF e_turned ep_turned := si_turned
/-! rounded -/
def bp_rounded : MSp := (uSeq (uAsg (pCall ep_floor_of (pCons (pVar 0) pNil)) (hNm 2)) (uSeq (uAsg (pCall ep_added (pCons (pVar 0) (pCons (pTup (pCons (pUn (unOwnP csP0 "__neg__" pNeg) (pVar 2)) (pCons (pLit (.int 1)) pNil))) pNil))) (hNm 3)) (uSeq (uIf (qOr (qE (pBin (ownP csP0 "__eq__" qEq) (pBin pIx (pVar 3) (pLit (.int 0))) (pLit (.int 0)))) (qE (pBin (ownP csP0 "__eq__" qEq) (pVar 1) (pLit (.str "down"))))) (uSeq (uRet (pVar 2)) uNil) uNil) (uSeq (uIf (qE (pBin (ownP csP0 "__eq__" qEq) (pVar 1) (pLit (.str "up")))) (uSeq (uRet (pBin (arithP csP0 "__add__" pAdd) (pVar 2) (pLit (.int 1)))) uNil) uNil) (uSeq (uAsg (pBin (arithP csP0 "__sub__" pSub) (pBin (arithP csP0 "__mul__" pMul) (pLit (.int 2)) (pBin pIx (pVar 3) (pLit (.int 0)))) (pBin pIx (pVar 3) (pLit (.int 1)))) (hNm 4)) (uSeq (uIf (qE (pBin (neP csP0) (pVar 4) (pLit (.int 0)))) (uSeq (uRet (pIf (qE (pBin (cmpP .Gt) (pVar 4) (pLit (.int 0)))) (pBin (arithP csP0 "__add__" pAdd) (pVar 2) (pLit (.int 1))) (pVar 2))) uNil) uNil) (uSeq (uRet (pIf (qOr (qE (pBin (ownP csP0 "__eq__" qEq) (pVar 1) (pLit (.str "half")))) (qE (pBin (ownP csP0 "__eq__" qEq) (pBin (pMod) (pVar 2) (pLit (.int 2))) (pLit (.int 1))))) (pBin (arithP csP0 "__add__" pAdd) (pVar 2) (pLit (.int 1))) (pVar 2))) uNil)))))))
theorem sb_rounded : SimS [] b_rounded bp_rounded := (ss_seq (ss_asg (sim_call se_floor_of (sim_cons (sim_var (ni rfl)) sim_nil)) (sg_nm (ni rfl))) (ss_seq (ss_asg (sim_call se_added (sim_cons (sim_var (ni rfl)) (sim_cons (sim_tup (sim_cons (sim_un (su_own csok0 "__neg__" su_neg) (sim_var (ni rfl))) (sim_cons (sim_lit fun _ _ => (.int _)) sim_nil))) sim_nil))) (sg_nm (ni rfl))) (ss_seq (ss_if (sim_tOr (sim_tE (sim_bin (so_own csok0 "__eq__" so_eq) (sim_bin so_ix (sim_var (ni rfl)) (sim_lit fun _ _ => (.int _))) (sim_lit fun _ _ => (.int _)))) (sim_tE (sim_bin (so_own csok0 "__eq__" so_eq) (sim_var (ni rfl)) (sim_lit fun _ _ => (.str _))))) (ss_seq (ss_ret (sim_var (ni rfl))) ss_nil) ss_nil) (ss_seq (ss_if (sim_tE (sim_bin (so_own csok0 "__eq__" so_eq) (sim_var (ni rfl)) (sim_lit fun _ _ => (.str _)))) (ss_seq (ss_ret (sim_bin (so_arith csok0 "__add__" so_add) (sim_var (ni rfl)) (sim_lit fun _ _ => (.int _)))) ss_nil) ss_nil) (ss_seq (ss_asg (sim_bin (so_arith csok0 "__sub__" so_sub) (sim_bin (so_arith csok0 "__mul__" so_mul) (sim_lit fun _ _ => (.int _)) (sim_bin so_ix (sim_var (ni rfl)) (sim_lit fun _ _ => (.int _)))) (sim_bin so_ix (sim_var (ni rfl)) (sim_lit fun _ _ => (.int _)))) (sg_nm (ni rfl))) (ss_seq (ss_if (sim_tE (sim_bin (so_neOwn csok0) (sim_var (ni rfl)) (sim_lit fun _ _ => (.int _)))) (ss_seq (ss_ret (sim_if (sim_tE (sim_bin (so_cmp .Gt) (sim_var (ni rfl)) (sim_lit fun _ _ => (.int _)))) (sim_bin (so_arith csok0 "__add__" so_add) (sim_var (ni rfl)) (sim_lit fun _ _ => (.int _))) (sim_var (ni rfl)))) ss_nil) ss_nil) (ss_seq (ss_ret (sim_if (sim_tOr (sim_tE (sim_bin (so_own csok0 "__eq__" so_eq) (sim_var (ni rfl)) (sim_lit fun _ _ => (.str _)))) (sim_tE (sim_bin (so_own csok0 "__eq__" so_eq) (sim_bin (so_mod) (sim_var (ni rfl)) (sim_lit fun _ _ => (.int _))) (sim_lit fun _ _ => (.int _))))) (sim_bin (so_arith csok0 "__add__" so_add) (sim_var (ni rfl)) (sim_lit fun _ _ => (.int _))) (sim_var (ni rfl)))) ss_nil)))))))
def sp_rounded : Semp := pDef 5 2 bp_rounded
theorem si_rounded : SimF s_rounded sp_rounded := sim_def (own := []) (lo rfl) sb_rounded
abbrev ep_rounded : Semp := sp_rounded
theorem se_rounded : SimF e_rounded ep_rounded := si_rounded
/-! done -/
def bp_done : MSp := (uSeq (uIf (qE (pBin (ownP csP0 "__eq__" qEq) (pVar 0) (pLit (.str "scale")))) (uSeq (uRet (pCall ep_multiplied (pCons (pVar 3) (pCons (pVar 1) pNil)))) uNil) uNil) (uSeq (uIf (qE (pBin (ownP csP0 "__eq__" qEq) (pVar 0) (pLit (.str "shift")))) (uSeq (uRet (pCall ep_added (pCons (pVar 3) (pCons (pVar 1) pNil)))) uNil) uNil) (uSeq (uRet (pCall ep_multiplied (pCons (pTup (pCons (pCall ep_rounded (pCons (pCall ep_multiplied (pCons (pVar 3) (pCons (pCall ep_turned (pCons (pVar 1) pNil)) pNil))) (pCons (pVar 2) pNil))) (pCons (pLit (.int 1)) pNil))) (pCons (pVar 1) pNil)))) uNil)))
theorem sb_done : SimS [] b_done bp_done := (ss_seq (ss_if (sim_tE (sim_bin (so_own csok0 "__eq__" so_eq) (sim_var (ni rfl)) (sim_lit fun _ _ => (.str _)))) (ss_seq (ss_ret (sim_call se_multiplied (sim_cons (sim_var (ni rfl)) (sim_cons (sim_var (ni rfl)) sim_nil)))) ss_nil) ss_nil) (ss_seq (ss_if (sim_tE (sim_bin (so_own csok0 "__eq__" so_eq) (sim_var (ni rfl)) (sim_lit fun _ _ => (.str _)))) (ss_seq (ss_ret (sim_call se_added (sim_cons (sim_var (ni rfl)) (sim_cons (sim_var (ni rfl)) sim_nil)))) ss_nil) ss_nil) (ss_seq (ss_ret (sim_call se_multiplied (sim_cons (sim_tup (sim_cons (sim_call se_rounded (sim_cons (sim_call se_multiplied (sim_cons (sim_var (ni rfl)) (sim_cons (sim_call se_turned (sim_cons (sim_var (ni rfl)) sim_nil)) sim_nil))) (sim_cons (sim_var (ni rfl)) sim_nil))) (sim_cons (sim_lit fun _ _ => (.int _)) sim_nil))) (sim_cons (sim_var (ni rfl)) sim_nil)))) ss_nil)))
def sp_done : Semp := pDef 4 4 bp_done
theorem si_done : SimF s_done sp_done := sim_def (own := []) (lo rfl) sb_done
abbrev ep_done : Semp := sp_done
theorem se_done : SimF e_done ep_done := si_done
/-! is_small -/
def bp_is_small : MSp := (uSeq (uRet (pAnd (pUn (isP subs tgs [.c 0]) (pVar 0)) (pAnd (pBin (ownP csP0 "__le__" (cmpP .LtE)) (pCall fAbs (pCons (pBin pIx (pAttr csP0 "pair" (pVar 0)) (pLit (.int 0))) pNil)) (pLit vp_MOST)) (pBin (ownP csP0 "__le__" (cmpP .LtE)) (pBin pIx (pAttr csP0 "pair" (pVar 0)) (pLit (.int 1))) (pLit vp_MOST))))) uNil)
theorem sb_is_small : SimS [] b_is_small bp_is_small := (ss_seq (ss_ret (sim_and (sim_un (su_is subs tgs [.c 0]) (sim_var (ni rfl))) (sim_and (sim_bin (so_own csok0 "__le__" (so_cmp .LtE)) (sim_call sb_abs (sim_cons (sim_bin so_ix (sim_attr csok0 "pair" (sim_var (ni rfl))) (sim_lit fun _ _ => (.int _))) sim_nil)) (sim_lit rp_MOST)) (sim_bin (so_own csok0 "__le__" (so_cmp .LtE)) (sim_bin so_ix (sim_attr csok0 "pair" (sim_var (ni rfl))) (sim_lit fun _ _ => (.int _))) (sim_lit rp_MOST))))) ss_nil)
def sp_is_small : Semp := pDef 1 1 bp_is_small
theorem si_is_small : SimF s_is_small sp_is_small := sim_def (own := []) (lo rfl) sb_is_small
abbrev ep_is_small : Semp := sp_is_small
theorem se_is_small : SimF e_is_small ep_is_small := si_is_small
/-! Step.__init__ -/
def bp_Step_init : MSp := (uSeq (uFld csP0 0 "number" (pVar 1)) (uSeq (uFld csP0 0 "rule" (pVar 2)) uNil))
theorem sb_Step_init : SimS [0] b_Step_init bp_Step_init := (ss_seq (ss_fld csok0 (yi rfl) "number" (sim_var (ni rfl))) (ss_seq (ss_fld csok0 (yi rfl) "rule" (sim_var (ni rfl))) ss_nil))
def sp_Step_init : Inip := pInit 3 3 bp_Step_init
theorem si_Step_init : SimIni s_Step_init sp_Step_init := sim_init (own := [0]) (yi rfl) (lo0 rfl) sb_Step_init
abbrev ep_Step_init : Inip := sp_Step_init
theorem se_Step_init : SimIni e_Step_init ep_Step_init := si_Step_init
def ep_Step : Semp := mkP 1 ep_Step_init
theorem se_Step : SimF e_Step ep_Step := sim_mk 1 se_Step_init
/-! Step.listed -/
def bp_Step_listed : MSp := (uSeq (uRet (pTup (pCons (pAttr csP0 "WORD" (pVar 0)) (pCons (pAttr csP0 "number" (pVar 0)) (pCons (pAttr csP0 "rule" (pVar 0)) pNil))))) uNil)
theorem sb_Step_listed : SimS [] b_Step_listed bp_Step_listed := (ss_seq (ss_ret (sim_tup (sim_cons (sim_attr csok0 "WORD" (sim_var (ni rfl))) (sim_cons (sim_attr csok0 "number" (sim_var (ni rfl))) (sim_cons (sim_attr csok0 "rule" (sim_var (ni rfl))) sim_nil))))) ss_nil)
def sp_Step_listed : Semp := pDef 1 1 bp_Step_listed
theorem si_Step_listed : SimF s_Step_listed sp_Step_listed := sim_def (own := []) (lo rfl) sb_Step_listed
abbrev ep_Step_listed : Semp := sp_Step_listed
theorem se_Step_listed : SimF e_Step_listed ep_Step_listed := si_Step_listed
/-! Step.__call__ -/
def bp_Step_call : MSp := (uSeq (uIf (qNot (qE (pUn (isP subs tgs [.c 0]) (pVar 1)))) (uSeq (uRaise 6 (pCons (pLit (.str "not a Ratio")) pNil)) uNil) uNil) (uSeq (uRet (pCall ep_ratio_of (pCons (pCall ep_done (pCons (pAttr csP0 "WORD" (pVar 0)) (pCons (pAttr csP0 "number" (pVar 0)) (pCons (pAttr csP0 "rule" (pVar 0)) (pCons (pAttr csP0 "pair" (pVar 1)) pNil))))) pNil))) uNil))
theorem sb_Step_call : SimS [] b_Step_call bp_Step_call := (ss_seq (ss_if (sim_tNot (sim_tE (sim_un (su_is subs tgs [.c 0]) (sim_var (ni rfl))))) (ss_seq (ss_raise 6 (sim_cons (sim_lit fun _ _ => (.str _)) sim_nil)) ss_nil) ss_nil) (ss_seq (ss_ret (sim_call se_ratio_of (sim_cons (sim_call se_done (sim_cons (sim_attr csok0 "WORD" (sim_var (ni rfl))) (sim_cons (sim_attr csok0 "number" (sim_var (ni rfl))) (sim_cons (sim_attr csok0 "rule" (sim_var (ni rfl))) (sim_cons (sim_attr csok0 "pair" (sim_var (ni rfl))) sim_nil))))) sim_nil))) ss_nil))
def sp_Step_call : Semp := pDef 2 2 bp_Step_call
theorem si_Step_call : SimF s_Step_call sp_Step_call := sim_def (own := []) (lo rfl) sb_Step_call
abbrev ep_Step_call : Semp := sp_Step_call
theorem se_Step_call : SimF e_Step_call ep_Step_call := si_Step_call
/-! Scale.__init__ -/
def bp_Scale_init : MSp := (uSeq (uSeq (uIf (qOr (qNot (qE (pCall ep_is_small (pCons (pVar 1) pNil)))) (qE (pBin (ownP csP0 "__eq__" qEq) (pBin pIx (pAttr csP0 "pair" (pVar 1)) (pLit (.int 0))) (pLit (.int 0))))) (uSeq (uRaise 7 (pCons (pLit (.str "not a small ratio other than 0")) pNil)) uNil) uNil) uNil) (uSuper 2 ep_Step_init (pCons (pAttr csP0 "pair" (pVar 1)) (pCons (pLit (.non)) pNil))))
theorem sb_Scale_init : SimS [0] b_Scale_init bp_Scale_init := (ss_seq (ss_seq (ss_if (sim_tOr (sim_tNot (sim_tE (sim_call se_is_small (sim_cons (sim_var (ni rfl)) sim_nil)))) (sim_tE (sim_bin (so_own csok0 "__eq__" so_eq) (sim_bin so_ix (sim_attr csok0 "pair" (sim_var (ni rfl))) (sim_lit fun _ _ => (.int _))) (sim_lit fun _ _ => (.int _))))) (ss_seq (ss_raise 7 (sim_cons (sim_lit fun _ _ => (.str _)) sim_nil)) ss_nil) ss_nil) ss_nil) (ss_super (yi rfl) 2 se_Step_init (sim_cons (sim_attr csok0 "pair" (sim_var (ni rfl))) (sim_cons (sim_lit fun _ _ => .non) sim_nil))))
def sp_Scale_init : Inip := pInit 3 2 bp_Scale_init
theorem si_Scale_init : SimIni s_Scale_init sp_Scale_init := sim_init (own := [0]) (yi rfl) (lo0 rfl) sb_Scale_init
abbrev ep_Scale_init : Inip := sp_Scale_init
theorem se_Scale_init : SimIni e_Scale_init ep_Scale_init := si_Scale_init
def ep_Scale : Semp := mkP 2 ep_Scale_init
theorem se_Scale : SimF e_Scale ep_Scale := sim_mk 2 se_Scale_init
/-! Scale.ratio -/
def bp_Scale_ratio : MSp := (uSeq (uRet (pCall ep_ratio_of (pCons (pAttr csP0 "number" (pVar 0)) pNil))) uNil)
theorem sb_Scale_ratio : SimS [] b_Scale_ratio bp_Scale_ratio := (ss_seq (ss_ret (sim_call se_ratio_of (sim_cons (sim_attr csok0 "number" (sim_var (ni rfl))) sim_nil))) ss_nil)
def sp_Scale_ratio : Semp := pDef 1 1 bp_Scale_ratio
theorem si_Scale_ratio : SimF s_Scale_ratio sp_Scale_ratio := sim_def (own := []) (lo rfl) sb_Scale_ratio
abbrev ep_Scale_ratio : Semp := sp_Scale_ratio
theorem se_Scale_ratio : SimF e_Scale_ratio ep_Scale_ratio := si_Scale_ratio
/-! Scale.__neg__ -/
def bp_Scale_neg : MSp := (uSeq (uRet (pCall ep_Scale (pCons (pCall ep_ratio_of (pCons (pCall ep_turned (pCons (pAttr csP0 "number" (pVar 0)) pNil)) pNil)) pNil))) uNil)
theorem sb_Scale_neg : SimS [] b_Scale_neg bp_Scale_neg := (ss_seq (ss_ret (sim_call se_Scale (sim_cons (sim_call se_ratio_of (sim_cons (sim_call se_turned (sim_cons (sim_attr csok0 "number" (sim_var (ni rfl))) sim_nil)) sim_nil)) sim_nil))) ss_nil)
def sp_Scale_neg : Semp := pDef 1 1 bp_Scale_neg
theorem si_Scale_neg : SimF s_Scale_neg sp_Scale_neg := sim_def (own := []) (lo rfl) sb_Scale_neg
abbrev ep_Scale_neg : Semp := sp_Scale_neg
theorem se_Scale_neg : SimF e_Scale_neg ep_Scale_neg := si_Scale_neg
/-! Shift.__init__ -/
def bp_Shift_init : MSp := (uSeq (uSeq (uIf (qNot (qE (pCall ep_is_small (pCons (pVar 1) pNil)))) (uSeq (uRaise 7 (pCons (pLit (.str "not a small ratio")) pNil)) uNil) uNil) uNil) (uSuper 3 ep_Step_init (pCons (pAttr csP0 "pair" (pVar 1)) (pCons (pLit (.non)) pNil))))
theorem sb_Shift_init : SimS [0] b_Shift_init bp_Shift_init := (ss_seq (ss_seq (ss_if (sim_tNot (sim_tE (sim_call se_is_small (sim_cons (sim_var (ni rfl)) sim_nil)))) (ss_seq (ss_raise 7 (sim_cons (sim_lit fun _ _ => (.str _)) sim_nil)) ss_nil) ss_nil) ss_nil) (ss_super (yi rfl) 3 se_Step_init (sim_cons (sim_attr csok0 "pair" (sim_var (ni rfl))) (sim_cons (sim_lit fun _ _ => .non) sim_nil))))
def sp_Shift_init : Inip := pInit 3 2 bp_Shift_init
theorem si_Shift_init : SimIni s_Shift_init sp_Shift_init := sim_init (own := [0]) (yi rfl) (lo0 rfl) sb_Shift_init
abbrev ep_Shift_init : Inip := sp_Shift_init
theorem se_Shift_init : SimIni e_Shift_init ep_Shift_init := si_Shift_init
def ep_Shift : Semp := mkP 3 ep_Shift_init
theorem se_Shift : SimF e_Shift ep_Shift := sim_mk 3 se_Shift_init
/-! Shift.ratio -/
def bp_Shift_ratio : MSp := (uSeq (uRet (pCall ep_ratio_of (pCons (pAttr csP0 "number" (pVar 0)) pNil))) uNil)
theorem sb_Shift_ratio : SimS [] b_Shift_ratio bp_Shift_ratio := (ss_seq (ss_ret (sim_call se_ratio_of (sim_cons (sim_attr csok0 "number" (sim_var (ni rfl))) sim_nil))) ss_nil)
def sp_Shift_ratio : Semp := pDef 1 1 bp_Shift_ratio
theorem si_Shift_ratio : SimF s_Shift_ratio sp_Shift_ratio := sim_def (own := []) (lo rfl) sb_Shift_ratio
abbrev ep_Shift_ratio : Semp := sp_Shift_ratio
theorem se_Shift_ratio : SimF e_Shift_ratio ep_Shift_ratio := si_Shift_ratio
/-! Shift.__neg__ -/
def bp_Shift_neg : MSp := (uSeq (uRet (pCall ep_Shift (pCons (pCall ep_ratio_of (pCons (pTup (pCons (pUn (unOwnP csP0 "__neg__" pNeg) (pBin pIx (pAttr csP0 "number" (pVar 0)) (pLit (.int 0)))) (pCons (pBin pIx (pAttr csP0 "number" (pVar 0)) (pLit (.int 1))) pNil))) pNil)) pNil))) uNil)
theorem sb_Shift_neg : SimS [] b_Shift_neg bp_Shift_neg := (ss_seq (ss_ret (sim_call se_Shift (sim_cons (sim_call se_ratio_of (sim_cons (sim_tup (sim_cons (sim_un (su_own csok0 "__neg__" su_neg) (sim_bin so_ix (sim_attr csok0 "number" (sim_var (ni rfl))) (sim_lit fun _ _ => (.int _)))) (sim_cons (sim_bin so_ix (sim_attr csok0 "number" (sim_var (ni rfl))) (sim_lit fun _ _ => (.int _))) sim_nil))) sim_nil)) sim_nil))) ss_nil)
def sp_Shift_neg : Semp := pDef 1 1 bp_Shift_neg
theorem si_Shift_neg : SimF s_Shift_neg sp_Shift_neg := sim_def (own := []) (lo rfl) sb_Shift_neg
abbrev ep_Shift_neg : Semp := sp_Shift_neg
theorem se_Shift_neg : SimF e_Shift_neg ep_Shift_neg := si_Shift_neg
/-! Round.__init__ -/
def bp_Round_init : MSp := (uSeq (uSeq (uIf (qOr (qNot (qE (pCall ep_is_small (pCons (pVar 1) pNil)))) (qE (pBin (ownP csP0 "__le__" (cmpP .LtE)) (pBin pIx (pAttr csP0 "pair" (pVar 1)) (pLit (.int 0))) (pLit (.int 0))))) (uSeq (uRaise 7 (pCons (pLit (.str "not a small positive ratio")) pNil)) uNil) uNil) (uSeq (uIf (qOr (qNot (qE (pUn (isP subs tgs [.b "str"]) (pVar 2)))) (qE (pBin (cmpP .NotIn) (pVar 2) (pLit vp_MODES)))) (uSeq (uRaise 7 (pCons (pLit (.str "not a mode")) pNil)) uNil) uNil) uNil)) (uSuper 4 ep_Step_init (pCons (pAttr csP0 "pair" (pVar 1)) (pCons (pVar 2) pNil))))
theorem sb_Round_init : SimS [0] b_Round_init bp_Round_init := (ss_seq (ss_seq (ss_if (sim_tOr (sim_tNot (sim_tE (sim_call se_is_small (sim_cons (sim_var (ni rfl)) sim_nil)))) (sim_tE (sim_bin (so_own csok0 "__le__" (so_cmp .LtE)) (sim_bin so_ix (sim_attr csok0 "pair" (sim_var (ni rfl))) (sim_lit fun _ _ => (.int _))) (sim_lit fun _ _ => (.int _))))) (ss_seq (ss_raise 7 (sim_cons (sim_lit fun _ _ => (.str _)) sim_nil)) ss_nil) ss_nil) (ss_seq (ss_if (sim_tOr (sim_tNot (sim_tE (sim_un (su_is subs tgs [.b "str"]) (sim_var (ni rfl))))) (sim_tE (sim_bin (so_cmp .NotIn) (sim_var (ni rfl)) (sim_lit rp_MODES)))) (ss_seq (ss_raise 7 (sim_cons (sim_lit fun _ _ => (.str _)) sim_nil)) ss_nil) ss_nil) ss_nil)) (ss_super (yi rfl) 4 se_Step_init (sim_cons (sim_attr csok0 "pair" (sim_var (ni rfl))) (sim_cons (sim_var (ni rfl)) sim_nil))))
def sp_Round_init : Inip := pInit 4 3 bp_Round_init
theorem si_Round_init : SimIni s_Round_init sp_Round_init := sim_init (own := [0]) (yi rfl) (lo0 rfl) sb_Round_init
def ep_Round_init : Inip := callIni sp_Round_init 3 [.str "half"]
theorem se_Round_init : SimIni e_Round_init ep_Round_init := sim_iniD si_Round_init fun _ _ => (.cons (.str _) .nil)
def ep_Round : Semp := mkP 4 ep_Round_init
theorem se_Round : SimF e_Round ep_Round := sim_mk 4 se_Round_init
/-! Round.unit -/
def bp_Round_unit : MSp := (uSeq (uRet (pCall ep_ratio_of (pCons (pAttr csP0 "number" (pVar 0)) pNil))) uNil)
theorem sb_Round_unit : SimS [] b_Round_unit bp_Round_unit := (ss_seq (ss_ret (sim_call se_ratio_of (sim_cons (sim_attr csok0 "number" (sim_var (ni rfl))) sim_nil))) ss_nil)
def sp_Round_unit : Semp := pDef 1 1 bp_Round_unit
theorem si_Round_unit : SimF s_Round_unit sp_Round_unit := sim_def (own := []) (lo rfl) sb_Round_unit
abbrev ep_Round_unit : Semp := sp_Round_unit
theorem se_Round_unit : SimF e_Round_unit ep_Round_unit := si_Round_unit
/-! Round.mode -/
def bp_Round_mode : MSp := (uSeq (uRet (pAttr csP0 "rule" (pVar 0))) uNil)
theorem sb_Round_mode : SimS [] b_Round_mode bp_Round_mode := (ss_seq (ss_ret (sim_attr csok0 "rule" (sim_var (ni rfl)))) ss_nil)
def sp_Round_mode : Semp := pDef 1 1 bp_Round_mode
theorem si_Round_mode : SimF s_Round_mode sp_Round_mode := sim_def (own := []) (lo rfl) sb_Round_mode
abbrev ep_Round_mode : Semp := sp_Round_mode
theorem se_Round_mode : SimF e_Round_mode ep_Round_mode := si_Round_mode
def csP1 : List CIP := [⟨0, ["pair"], [], [("top", sp_Ratio_top), ("bottom", sp_Ratio_bottom)], [("__eq__", ep_Ratio_eq), ("__add__", ep_Ratio_add), ("__sub__", ep_Ratio_sub), ("__mul__", ep_Ratio_mul), ("__neg__", ep_Ratio_neg), ("__le__", ep_Ratio_le)], []⟩,
  ⟨1, ["number", "rule"], [("WORD", .str "step")], [], [("listed", ep_Step_listed), ("__call__", ep_Step_call)], [2, 3, 4]⟩,
  ⟨2, ["number", "rule"], [("WORD", .str "scale")], [("ratio", sp_Scale_ratio)], [("__neg__", ep_Scale_neg), ("listed", ep_Step_listed), ("__call__", ep_Step_call)], []⟩,
  ⟨3, ["number", "rule"], [("WORD", .str "shift")], [("ratio", sp_Shift_ratio)], [("__neg__", ep_Shift_neg), ("listed", ep_Step_listed), ("__call__", ep_Step_call)], []⟩,
  ⟨4, ["number", "rule"], [("WORD", .str "round")], [("unit", sp_Round_unit), ("mode", sp_Round_mode)], [("listed", ep_Step_listed), ("__call__", ep_Step_call)], []⟩]
theorem csok1 : CsOk cs1 csP1 := (.cons ⟨rfl, rfl, .nil, (.cons si_Ratio_top (.cons si_Ratio_bottom .nil)), (.cons se_Ratio_eq (.cons se_Ratio_add (.cons se_Ratio_sub (.cons se_Ratio_mul (.cons se_Ratio_neg (.cons se_Ratio_le .nil)))))), rfl⟩ (.cons ⟨rfl, rfl, (.cons (fun _ _ => .str _) .nil), .nil, (.cons se_Step_listed (.cons se_Step_call .nil)), rfl⟩ (.cons ⟨rfl, rfl, (.cons (fun _ _ => .str _) .nil), (.cons si_Scale_ratio .nil), (.cons se_Scale_neg (.cons se_Step_listed (.cons se_Step_call .nil))), rfl⟩ (.cons ⟨rfl, rfl, (.cons (fun _ _ => .str _) .nil), (.cons si_Shift_ratio .nil), (.cons se_Shift_neg (.cons se_Step_listed (.cons se_Step_call .nil))), rfl⟩ (.cons ⟨rfl, rfl, (.cons (fun _ _ => .str _) .nil), (.cons si_Round_unit (.cons si_Round_mode .nil)), (.cons se_Step_listed (.cons se_Step_call .nil)), rfl⟩ .nil)))))
/-! Step.__eq__ -/
def bp_Step_eq : MSp := (uSeq (uRet (pAnd (pUn (isP subs tgs [.c 1]) (pVar 1)) (pBin (ownP csP1 "__eq__" qEq) (pMeth csP1 "listed" (pVar 0) pNil) (pMeth csP1 "listed" (pVar 1) pNil)))) uNil)
theorem sb_Step_eq : SimS [] b_Step_eq bp_Step_eq := (ss_seq (ss_ret (sim_and (sim_un (su_is subs tgs [.c 1]) (sim_var (ni rfl))) (sim_bin (so_own csok1 "__eq__" so_eq) (sim_meth csok1 "listed" (sim_var (ni rfl)) sim_nil) (sim_meth csok1 "listed" (sim_var (ni rfl)) sim_nil)))) ss_nil)
def sp_Step_eq : Semp := pDef 2 2 bp_Step_eq
theorem si_Step_eq : SimF s_Step_eq sp_Step_eq := sim_def (own := []) (lo rfl) sb_Step_eq
abbrev ep_Step_eq : Semp := sp_Step_eq
theorem se_Step_eq : SimF e_Step_eq ep_Step_eq := si_Step_eq
def csP2 : List CIP := [⟨0, ["pair"], [], [("top", sp_Ratio_top), ("bottom", sp_Ratio_bottom)], [("__eq__", ep_Ratio_eq), ("__add__", ep_Ratio_add), ("__sub__", ep_Ratio_sub), ("__mul__", ep_Ratio_mul), ("__neg__", ep_Ratio_neg), ("__le__", ep_Ratio_le)], []⟩,
  ⟨1, ["number", "rule"], [("WORD", .str "step")], [], [("__eq__", ep_Step_eq), ("listed", ep_Step_listed), ("__call__", ep_Step_call)], [2, 3, 4]⟩,
  ⟨2, ["number", "rule"], [("WORD", .str "scale")], [("ratio", sp_Scale_ratio)], [("__neg__", ep_Scale_neg), ("__eq__", ep_Step_eq), ("listed", ep_Step_listed), ("__call__", ep_Step_call)], []⟩,
  ⟨3, ["number", "rule"], [("WORD", .str "shift")], [("ratio", sp_Shift_ratio)], [("__neg__", ep_Shift_neg), ("__eq__", ep_Step_eq), ("listed", ep_Step_listed), ("__call__", ep_Step_call)], []⟩,
  ⟨4, ["number", "rule"], [("WORD", .str "round")], [("unit", sp_Round_unit), ("mode", sp_Round_mode)], [("__eq__", ep_Step_eq), ("listed", ep_Step_listed), ("__call__", ep_Step_call)], []⟩]
theorem csok2 : CsOk cs2 csP2 := (.cons ⟨rfl, rfl, .nil, (.cons si_Ratio_top (.cons si_Ratio_bottom .nil)), (.cons se_Ratio_eq (.cons se_Ratio_add (.cons se_Ratio_sub (.cons se_Ratio_mul (.cons se_Ratio_neg (.cons se_Ratio_le .nil)))))), rfl⟩ (.cons ⟨rfl, rfl, (.cons (fun _ _ => .str _) .nil), .nil, (.cons se_Step_eq (.cons se_Step_listed (.cons se_Step_call .nil))), rfl⟩ (.cons ⟨rfl, rfl, (.cons (fun _ _ => .str _) .nil), (.cons si_Scale_ratio .nil), (.cons se_Scale_neg (.cons se_Step_eq (.cons se_Step_listed (.cons se_Step_call .nil)))), rfl⟩ (.cons ⟨rfl, rfl, (.cons (fun _ _ => .str _) .nil), (.cons si_Shift_ratio .nil), (.cons se_Shift_neg (.cons se_Step_eq (.cons se_Step_listed (.cons se_Step_call .nil)))), rfl⟩ (.cons ⟨rfl, rfl, (.cons (fun _ _ => .str _) .nil), (.cons si_Round_unit (.cons si_Round_mode .nil)), (.cons se_Step_eq (.cons se_Step_listed (.cons se_Step_call .nil))), rfl⟩ .nil)))))
/-! _law_number -/
def bp_x_law_number : MSp := (uSeq (uAsg (pIf (qE (pBin (neP csP2) (pVar 0) (pLst pNil))) (pVar 0) (pLst (pCons (pLit (.int 9)) pNil))) (hNm 2)) (uSeq (uAsg (pBin (arithP csP2 "__add__" pAdd) (pBin (pMod) (pBin pIx (pVar 2) (pBin (pMod) (pVar 1) (pCall fLen (pCons (pVar 2) pNil)))) (pBin (pPow) (pLit (.int 10)) (pLit (.int 18)))) (pBin (arithP csP2 "__mul__" pMul) (pLit (.int 13)) (pBin (pFdiv) (pVar 1) (pCall fLen (pCons (pVar 2) pNil))))) (hNm 3)) (uSeq (uAsg (pBin (pMod) (pBin (arithP csP2 "__add__" pAdd) (pBin (arithP csP2 "__mul__" pMul) (pBin (arithP csP2 "__add__" pAdd) (pVar 3) (pBin (arithP csP2 "__mul__" pMul) (pLit (.int 977)) (pVar 1))) (pLit (.int 48271))) (pBin (arithP csP2 "__mul__" pMul) (pLit (.int 7919)) (pCall fLen (pCons (pVar 2) pNil)))) (pLit (.int 2147483647))) (hNm 4)) (uSeq (uRet (pBin (pFdiv) (pBin (arithP csP2 "__mul__" pMul) (pBin (arithP csP2 "__mul__" pMul) (pVar 4) (pBin (arithP csP2 "__add__" pAdd) (pBin (arithP csP2 "__add__" pAdd) (pVar 4) (pBin (arithP csP2 "__mul__" pMul) (pLit (.int 31)) (pVar 1))) (pLit (.int 7)))) (pBin (arithP csP2 "__add__" pAdd) (pVar 4) (pLit (.int 5)))) (pLit (.int 1009)))) uNil))))
theorem sb_x_law_number : SimS [] b_x_law_number bp_x_law_number := (ss_seq (ss_asg (sim_if (sim_tE (sim_bin (so_neOwn csok2) (sim_var (ni rfl)) (sim_lst sim_nil))) (sim_var (ni rfl)) (sim_lst (sim_cons (sim_lit fun _ _ => (.int _)) sim_nil))) (sg_nm (ni rfl))) (ss_seq (ss_asg (sim_bin (so_arith csok2 "__add__" so_add) (sim_bin (so_mod) (sim_bin so_ix (sim_var (ni rfl)) (sim_bin (so_mod) (sim_var (ni rfl)) (sim_call sb_len (sim_cons (sim_var (ni rfl)) sim_nil)))) (sim_bin (so_pow) (sim_lit fun _ _ => (.int _)) (sim_lit fun _ _ => (.int _)))) (sim_bin (so_arith csok2 "__mul__" so_mul) (sim_lit fun _ _ => (.int _)) (sim_bin (so_fdiv) (sim_var (ni rfl)) (sim_call sb_len (sim_cons (sim_var (ni rfl)) sim_nil))))) (sg_nm (ni rfl))) (ss_seq (ss_asg (sim_bin (so_mod) (sim_bin (so_arith csok2 "__add__" so_add) (sim_bin (so_arith csok2 "__mul__" so_mul) (sim_bin (so_arith csok2 "__add__" so_add) (sim_var (ni rfl)) (sim_bin (so_arith csok2 "__mul__" so_mul) (sim_lit fun _ _ => (.int _)) (sim_var (ni rfl)))) (sim_lit fun _ _ => (.int _))) (sim_bin (so_arith csok2 "__mul__" so_mul) (sim_lit fun _ _ => (.int _)) (sim_call sb_len (sim_cons (sim_var (ni rfl)) sim_nil)))) (sim_lit fun _ _ => (.int _))) (sg_nm (ni rfl))) (ss_seq (ss_ret (sim_bin (so_fdiv) (sim_bin (so_arith csok2 "__mul__" so_mul) (sim_bin (so_arith csok2 "__mul__" so_mul) (sim_var (ni rfl)) (sim_bin (so_arith csok2 "__add__" so_add) (sim_bin (so_arith csok2 "__add__" so_add) (sim_var (ni rfl)) (sim_bin (so_arith csok2 "__mul__" so_mul) (sim_lit fun _ _ => (.int _)) (sim_var (ni rfl)))) (sim_lit fun _ _ => (.int _)))) (sim_bin (so_arith csok2 "__add__" so_add) (sim_var (ni rfl)) (sim_lit fun _ _ => (.int _)))) (sim_lit fun _ _ => (.int _)))) ss_nil))))
def sp_x_law_number : Semp := pDef 5 2 bp_x_law_number
theorem si_x_law_number : SimF s_x_law_number sp_x_law_number := sim_def (own := []) (lo rfl) sb_x_law_number
abbrev ep_x_law_number : Semp := sp_x_law_number
theorem se_x_law_number : SimF e_x_law_number ep_x_law_number := si_x_law_number
/-! _law_rounded -/
def bp_x_law_rounded : MSp := (uSeq (uAsg (pVar 2) (hTp (hCons (hNm 3) (hCons (hNm 4) (hCons (hNm 5) (hCons (hNm 6) (hCons (hNm 7) hNil))))))) (uSeq (uPar [8, 9] (pCons (pBin (arithP csP2 "__mul__" pMul) (pVar 0) (pVar 6)) (pCons (pBin (arithP csP2 "__mul__" pMul) (pVar 1) (pVar 5)) pNil))) (uSeq (uIf (qE (pBin (ownP csP2 "__eq__" qEq) (pVar 7) (pLit (.str "down")))) (uSeq (uRet (pTup (pCons (pBin (arithP csP2 "__mul__" pMul) (pBin (pFdiv) (pVar 8) (pVar 9)) (pVar 5)) (pCons (pVar 6) pNil)))) uNil) uNil) (uSeq (uIf (qE (pBin (ownP csP2 "__eq__" qEq) (pVar 7) (pLit (.str "up")))) (uSeq (uRet (pTup (pCons (pBin (arithP csP2 "__mul__" pMul) (pUn (unOwnP csP2 "__neg__" pNeg) (pBin (pFdiv) (pUn (unOwnP csP2 "__neg__" pNeg) (pVar 8)) (pVar 9))) (pVar 5)) (pCons (pVar 6) pNil)))) uNil) uNil) (uSeq (uAsg (pBin (pFdiv) (pBin (arithP csP2 "__add__" pAdd) (pBin (arithP csP2 "__mul__" pMul) (pLit (.int 2)) (pVar 8)) (pVar 9)) (pBin (arithP csP2 "__mul__" pMul) (pLit (.int 2)) (pVar 9))) (hNm 10)) (uSeq (uIf (qAnd (qE (pBin (ownP csP2 "__eq__" qEq) (pVar 7) (pLit (.str "even")))) (qAnd (qE (pBin (ownP csP2 "__eq__" qEq) (pBin (pMod) (pBin (arithP csP2 "__add__" pAdd) (pBin (arithP csP2 "__mul__" pMul) (pLit (.int 2)) (pVar 8)) (pVar 9)) (pBin (arithP csP2 "__mul__" pMul) (pLit (.int 2)) (pVar 9))) (pLit (.int 0)))) (qE (pBin (ownP csP2 "__eq__" qEq) (pBin (pMod) (pVar 10) (pLit (.int 2))) (pLit (.int 1)))))) (uSeq (uAsg (pBin (arithP csP2 "__sub__" pSub) (pVar 10) (pLit (.int 1))) (hNm 10)) uNil) uNil) (uSeq (uRet (pTup (pCons (pBin (arithP csP2 "__mul__" pMul) (pVar 10) (pVar 5)) (pCons (pVar 6) pNil)))) uNil)))))))
theorem sb_x_law_rounded : SimS [] b_x_law_rounded bp_x_law_rounded := (ss_seq (ss_asg (sim_var (ni rfl)) (sg_tp (sg_cons (sg_nm (ni rfl)) (sg_cons (sg_nm (ni rfl)) (sg_cons (sg_nm (ni rfl)) (sg_cons (sg_nm (ni rfl)) (sg_cons (sg_nm (ni rfl)) sg_nil))))))) (ss_seq (ss_par (nis rfl) (sim_cons (sim_bin (so_arith csok2 "__mul__" so_mul) (sim_var (ni rfl)) (sim_var (ni rfl))) (sim_cons (sim_bin (so_arith csok2 "__mul__" so_mul) (sim_var (ni rfl)) (sim_var (ni rfl))) sim_nil))) (ss_seq (ss_if (sim_tE (sim_bin (so_own csok2 "__eq__" so_eq) (sim_var (ni rfl)) (sim_lit fun _ _ => (.str _)))) (ss_seq (ss_ret (sim_tup (sim_cons (sim_bin (so_arith csok2 "__mul__" so_mul) (sim_bin (so_fdiv) (sim_var (ni rfl)) (sim_var (ni rfl))) (sim_var (ni rfl))) (sim_cons (sim_var (ni rfl)) sim_nil)))) ss_nil) ss_nil) (ss_seq (ss_if (sim_tE (sim_bin (so_own csok2 "__eq__" so_eq) (sim_var (ni rfl)) (sim_lit fun _ _ => (.str _)))) (ss_seq (ss_ret (sim_tup (sim_cons (sim_bin (so_arith csok2 "__mul__" so_mul) (sim_un (su_own csok2 "__neg__" su_neg) (sim_bin (so_fdiv) (sim_un (su_own csok2 "__neg__" su_neg) (sim_var (ni rfl))) (sim_var (ni rfl)))) (sim_var (ni rfl))) (sim_cons (sim_var (ni rfl)) sim_nil)))) ss_nil) ss_nil) (ss_seq (ss_asg (sim_bin (so_fdiv) (sim_bin (so_arith csok2 "__add__" so_add) (sim_bin (so_arith csok2 "__mul__" so_mul) (sim_lit fun _ _ => (.int _)) (sim_var (ni rfl))) (sim_var (ni rfl))) (sim_bin (so_arith csok2 "__mul__" so_mul) (sim_lit fun _ _ => (.int _)) (sim_var (ni rfl)))) (sg_nm (ni rfl))) (ss_seq (ss_if (sim_tAnd (sim_tE (sim_bin (so_own csok2 "__eq__" so_eq) (sim_var (ni rfl)) (sim_lit fun _ _ => (.str _)))) (sim_tAnd (sim_tE (sim_bin (so_own csok2 "__eq__" so_eq) (sim_bin (so_mod) (sim_bin (so_arith csok2 "__add__" so_add) (sim_bin (so_arith csok2 "__mul__" so_mul) (sim_lit fun _ _ => (.int _)) (sim_var (ni rfl))) (sim_var (ni rfl))) (sim_bin (so_arith csok2 "__mul__" so_mul) (sim_lit fun _ _ => (.int _)) (sim_var (ni rfl)))) (sim_lit fun _ _ => (.int _)))) (sim_tE (sim_bin (so_own csok2 "__eq__" so_eq) (sim_bin (so_mod) (sim_var (ni rfl)) (sim_lit fun _ _ => (.int _))) (sim_lit fun _ _ => (.int _)))))) (ss_seq (ss_asg (sim_bin (so_arith csok2 "__sub__" so_sub) (sim_var (ni rfl)) (sim_lit fun _ _ => (.int _))) (sg_nm (ni rfl))) ss_nil) ss_nil) (ss_seq (ss_ret (sim_tup (sim_cons (sim_bin (so_arith csok2 "__mul__" so_mul) (sim_var (ni rfl)) (sim_var (ni rfl))) (sim_cons (sim_var (ni rfl)) sim_nil)))) ss_nil)))))))
def sp_x_law_rounded : Semp := pDef 11 3 bp_x_law_rounded
theorem si_x_law_rounded : SimF s_x_law_rounded sp_x_law_rounded := sim_def (own := []) (lo rfl) sb_x_law_rounded
abbrev ep_x_law_rounded : Semp := sp_x_law_rounded
theorem se_x_law_rounded : SimF e_x_law_rounded ep_x_law_rounded := si_x_law_rounded
/-! _law_is_pair -/
def bp_x_law_is_pair : MSp := (uSeq (uIf (qOr (qE (pBin (neP csP2) (pBin (arithP csP2 "__mul__" pMul) (pAttr csP2 "top" (pVar 0)) (pVar 2)) (pBin (arithP csP2 "__mul__" pMul) (pVar 1) (pAttr csP2 "bottom" (pVar 0))))) (qE (pBin (cmpP .Lt) (pAttr csP2 "bottom" (pVar 0)) (pLit (.int 1))))) (uSeq (uRet (pLit (.bl false))) uNil) uNil) (uSeq (uRet (pNot (pCall fAny (pCons (pComp (jList (pTup (pCons (pLit (.int 2)) (pCons (pLit (.int 3)) (pCons (pLit (.int 5)) (pCons (pLit (.int 7)) (pCons (pLit (.int 11)) (pCons (pLit (.int 13)) pNil)))))))) (hNm 3) qTrue (pAnd (pBin (ownP csP2 "__eq__" qEq) (pBin (pMod) (pAttr csP2 "top" (pVar 0)) (pVar 3)) (pLit (.int 0))) (pBin (ownP csP2 "__eq__" qEq) (pBin (pMod) (pAttr csP2 "bottom" (pVar 0)) (pVar 3)) (pLit (.int 0)))) [3]) pNil)))) uNil))
theorem sb_x_law_is_pair : SimS [] b_x_law_is_pair bp_x_law_is_pair := (ss_seq (ss_if (sim_tOr (sim_tE (sim_bin (so_neOwn csok2) (sim_bin (so_arith csok2 "__mul__" so_mul) (sim_attr csok2 "top" (sim_var (ni rfl))) (sim_var (ni rfl))) (sim_bin (so_arith csok2 "__mul__" so_mul) (sim_var (ni rfl)) (sim_attr csok2 "bottom" (sim_var (ni rfl)))))) (sim_tE (sim_bin (so_cmp .Lt) (sim_attr csok2 "bottom" (sim_var (ni rfl))) (sim_lit fun _ _ => (.int _))))) (ss_seq (ss_ret (sim_lit fun _ _ => (.bl _))) ss_nil) ss_nil) (ss_seq (ss_ret (sim_not (sim_call sb_any (sim_cons (sim_comp [3] (sim_it (sim_tup (sim_cons (sim_lit fun _ _ => (.int _)) (sim_cons (sim_lit fun _ _ => (.int _)) (sim_cons (sim_lit fun _ _ => (.int _)) (sim_cons (sim_lit fun _ _ => (.int _)) (sim_cons (sim_lit fun _ _ => (.int _)) (sim_cons (sim_lit fun _ _ => (.int _)) sim_nil)))))))) (sg_nm (ni rfl)) sim_tTrue (sim_and (sim_bin (so_own csok2 "__eq__" so_eq) (sim_bin (so_mod) (sim_attr csok2 "top" (sim_var (ni rfl))) (sim_var (ni rfl))) (sim_lit fun _ _ => (.int _))) (sim_bin (so_own csok2 "__eq__" so_eq) (sim_bin (so_mod) (sim_attr csok2 "bottom" (sim_var (ni rfl))) (sim_var (ni rfl))) (sim_lit fun _ _ => (.int _))))) sim_nil)))) ss_nil))
def sp_x_law_is_pair : Semp := pDef 4 3 bp_x_law_is_pair
theorem si_x_law_is_pair : SimF s_x_law_is_pair sp_x_law_is_pair := sim_def (own := []) (lo rfl) sb_x_law_is_pair
abbrev ep_x_law_is_pair : Semp := sp_x_law_is_pair
theorem se_x_law_is_pair : SimF e_x_law_is_pair ep_x_law_is_pair := si_x_law_is_pair
/-! _law_ratios_right -/
def bp_x_law_ratios_right : MSp := (uSeq (uPar [4, 5] (pCons (pCall ep_Ratio (pCons (pVar 0) (pCons (pVar 1) pNil))) (pCons (pCall ep_Ratio (pCons (pVar 2) (pCons (pVar 3) pNil))) pNil))) (uSeq (uIf (qOr (qNot (qE (pCall ep_x_law_is_pair (pCons (pVar 4) (pCons (pVar 0) (pCons (pVar 1) pNil)))))) (qNot (qE (pCall ep_x_law_is_pair (pCons (pBin (arithP csP2 "__add__" pAdd) (pVar 4) (pVar 5)) (pCons (pBin (arithP csP2 "__add__" pAdd) (pBin (arithP csP2 "__mul__" pMul) (pVar 0) (pVar 3)) (pBin (arithP csP2 "__mul__" pMul) (pVar 2) (pVar 1))) (pCons (pBin (arithP csP2 "__mul__" pMul) (pVar 1) (pVar 3)) pNil))))))) (uSeq (uRet (pLit (.bl false))) uNil) uNil) (uSeq (uIf (qNot (qE (pCall ep_x_law_is_pair (pCons (pBin (arithP csP2 "__sub__" pSub) (pVar 4) (pVar 5)) (pCons (pBin (arithP csP2 "__sub__" pSub) (pBin (arithP csP2 "__mul__" pMul) (pVar 0) (pVar 3)) (pBin (arithP csP2 "__mul__" pMul) (pVar 2) (pVar 1))) (pCons (pBin (arithP csP2 "__mul__" pMul) (pVar 1) (pVar 3)) pNil)))))) (uSeq (uRet (pLit (.bl false))) uNil) uNil) (uSeq (uIf (qOr (qNot (qE (pCall ep_x_law_is_pair (pCons (pBin (arithP csP2 "__mul__" pMul) (pVar 4) (pVar 5)) (pCons (pBin (arithP csP2 "__mul__" pMul) (pVar 0) (pVar 2)) (pCons (pBin (arithP csP2 "__mul__" pMul) (pVar 1) (pVar 3)) pNil)))))) (qNot (qE (pCall ep_x_law_is_pair (pCons (pUn (unOwnP csP2 "__neg__" pNeg) (pVar 4)) (pCons (pUn (unOwnP csP2 "__neg__" pNeg) (pVar 0)) (pCons (pVar 1) pNil))))))) (uSeq (uRet (pLit (.bl false))) uNil) uNil) (uSeq (uIf (qOr (qE (pBin (neP csP2) (pBin (arithP csP2 "__add__" pAdd) (pUn (unOwnP csP2 "__neg__" pNeg) (pVar 4)) (pVar 4)) (pCall ep_Ratio (pCons (pLit (.int 0)) pNil)))) (qE (pBin (neP csP2) (pBin (arithP csP2 "__sub__" pSub) (pVar 4) (pVar 4)) (pCall ep_Ratio (pCons (pLit (.int 0)) (pCons (pLit (.int 7)) pNil)))))) (uSeq (uRet (pLit (.bl false))) uNil) uNil) (uSeq (uIf (qOr (qE (pBin (neP csP2) (pBin (ownP csP2 "__le__" (cmpP .LtE)) (pVar 4) (pVar 5)) (pBin (ownP csP2 "__le__" (cmpP .LtE)) (pBin (arithP csP2 "__mul__" pMul) (pVar 0) (pVar 3)) (pBin (arithP csP2 "__mul__" pMul) (pVar 2) (pVar 1))))) (qOr (qE (pBin (neP csP2) (pBin (ownP csP2 "__eq__" qEq) (pVar 4) (pVar 5)) (pBin (ownP csP2 "__eq__" qEq) (pBin (arithP csP2 "__mul__" pMul) (pVar 0) (pVar 3)) (pBin (arithP csP2 "__mul__" pMul) (pVar 2) (pVar 1))))) (qNot (qE (pBin (ownP csP2 "__le__" (cmpP .LtE)) (pVar 4) (pVar 4)))))) (uSeq (uRet (pLit (.bl false))) uNil) uNil) (uSeq (uIf (qNot (qAnd (qE (pBin (ownP csP2 "__eq__" qEq) (pCall ep_Ratio (pCons (pBin (arithP csP2 "__mul__" pMul) (pLit (.int 6)) (pVar 0)) (pCons (pBin (arithP csP2 "__mul__" pMul) (pLit (.int 6)) (pVar 1)) pNil))) (pVar 4))) (qE (pBin (ownP csP2 "__eq__" qEq) (pBin (arithP csP2 "__add__" pAdd) (pVar 4) (pVar 5)) (pBin (arithP csP2 "__add__" pAdd) (pVar 5) (pVar 4)))))) (uSeq (uRet (pLit (.bl false))) uNil) uNil) (uSeq (uRet (pAnd (pBin (ownP csP2 "__eq__" qEq) (pBin (arithP csP2 "__mul__" pMul) (pVar 4) (pVar 5)) (pBin (arithP csP2 "__mul__" pMul) (pVar 5) (pVar 4))) (pBin (ownP csP2 "__eq__" qEq) (pCall ep_Ratio (pCons (pVar 0) pNil)) (pCall ep_Ratio (pCons (pVar 0) (pCons (pLit (.int 1)) pNil)))))) uNil))))))))
theorem sb_x_law_ratios_right : SimS [] b_x_law_ratios_right bp_x_law_ratios_right := (ss_seq (ss_par (nis rfl) (sim_cons (sim_call se_Ratio (sim_cons (sim_var (ni rfl)) (sim_cons (sim_var (ni rfl)) sim_nil))) (sim_cons (sim_call se_Ratio (sim_cons (sim_var (ni rfl)) (sim_cons (sim_var (ni rfl)) sim_nil))) sim_nil))) (ss_seq (ss_if (sim_tOr (sim_tNot (sim_tE (sim_call se_x_law_is_pair (sim_cons (sim_var (ni rfl)) (sim_cons (sim_var (ni rfl)) (sim_cons (sim_var (ni rfl)) sim_nil)))))) (sim_tNot (sim_tE (sim_call se_x_law_is_pair (sim_cons (sim_bin (so_arith csok2 "__add__" so_add) (sim_var (ni rfl)) (sim_var (ni rfl))) (sim_cons (sim_bin (so_arith csok2 "__add__" so_add) (sim_bin (so_arith csok2 "__mul__" so_mul) (sim_var (ni rfl)) (sim_var (ni rfl))) (sim_bin (so_arith csok2 "__mul__" so_mul) (sim_var (ni rfl)) (sim_var (ni rfl)))) (sim_cons (sim_bin (so_arith csok2 "__mul__" so_mul) (sim_var (ni rfl)) (sim_var (ni rfl))) sim_nil))))))) (ss_seq (ss_ret (sim_lit fun _ _ => (.bl _))) ss_nil) ss_nil) (ss_seq (ss_if (sim_tNot (sim_tE (sim_call se_x_law_is_pair (sim_cons (sim_bin (so_arith csok2 "__sub__" so_sub) (sim_var (ni rfl)) (sim_var (ni rfl))) (sim_cons (sim_bin (so_arith csok2 "__sub__" so_sub) (sim_bin (so_arith csok2 "__mul__" so_mul) (sim_var (ni rfl)) (sim_var (ni rfl))) (sim_bin (so_arith csok2 "__mul__" so_mul) (sim_var (ni rfl)) (sim_var (ni rfl)))) (sim_cons (sim_bin (so_arith csok2 "__mul__" so_mul) (sim_var (ni rfl)) (sim_var (ni rfl))) sim_nil)))))) (ss_seq (ss_ret (sim_lit fun _ _ => (.bl _))) ss_nil) ss_nil) (ss_seq (ss_if (sim_tOr (sim_tNot (sim_tE (sim_call se_x_law_is_pair (sim_cons (sim_bin (so_arith csok2 "__mul__" so_mul) (sim_var (ni rfl)) (sim_var (ni rfl))) (sim_cons (sim_bin (so_arith csok2 "__mul__" so_mul) (sim_var (ni rfl)) (sim_var (ni rfl))) (sim_cons (sim_bin (so_arith csok2 "__mul__" so_mul) (sim_var (ni rfl)) (sim_var (ni rfl))) sim_nil)))))) (sim_tNot (sim_tE (sim_call se_x_law_is_pair (sim_cons (sim_un (su_own csok2 "__neg__" su_neg) (sim_var (ni rfl))) (sim_cons (sim_un (su_own csok2 "__neg__" su_neg) (sim_var (ni rfl))) (sim_cons (sim_var (ni rfl)) sim_nil))))))) (ss_seq (ss_ret (sim_lit fun _ _ => (.bl _))) ss_nil) ss_nil) (ss_seq (ss_if (sim_tOr (sim_tE (sim_bin (so_neOwn csok2) (sim_bin (so_arith csok2 "__add__" so_add) (sim_un (su_own csok2 "__neg__" su_neg) (sim_var (ni rfl))) (sim_var (ni rfl))) (sim_call se_Ratio (sim_cons (sim_lit fun _ _ => (.int _)) sim_nil)))) (sim_tE (sim_bin (so_neOwn csok2) (sim_bin (so_arith csok2 "__sub__" so_sub) (sim_var (ni rfl)) (sim_var (ni rfl))) (sim_call se_Ratio (sim_cons (sim_lit fun _ _ => (.int _)) (sim_cons (sim_lit fun _ _ => (.int _)) sim_nil)))))) (ss_seq (ss_ret (sim_lit fun _ _ => (.bl _))) ss_nil) ss_nil) (ss_seq (ss_if (sim_tOr (sim_tE (sim_bin (so_neOwn csok2) (sim_bin (so_own csok2 "__le__" (so_cmp .LtE)) (sim_var (ni rfl)) (sim_var (ni rfl))) (sim_bin (so_own csok2 "__le__" (so_cmp .LtE)) (sim_bin (so_arith csok2 "__mul__" so_mul) (sim_var (ni rfl)) (sim_var (ni rfl))) (sim_bin (so_arith csok2 "__mul__" so_mul) (sim_var (ni rfl)) (sim_var (ni rfl)))))) (sim_tOr (sim_tE (sim_bin (so_neOwn csok2) (sim_bin (so_own csok2 "__eq__" so_eq) (sim_var (ni rfl)) (sim_var (ni rfl))) (sim_bin (so_own csok2 "__eq__" so_eq) (sim_bin (so_arith csok2 "__mul__" so_mul) (sim_var (ni rfl)) (sim_var (ni rfl))) (sim_bin (so_arith csok2 "__mul__" so_mul) (sim_var (ni rfl)) (sim_var (ni rfl)))))) (sim_tNot (sim_tE (sim_bin (so_own csok2 "__le__" (so_cmp .LtE)) (sim_var (ni rfl)) (sim_var (ni rfl))))))) (ss_seq (ss_ret (sim_lit fun _ _ => (.bl _))) ss_nil) ss_nil) (ss_seq (ss_if (sim_tNot (sim_tAnd (sim_tE (sim_bin (so_own csok2 "__eq__" so_eq) (sim_call se_Ratio (sim_cons (sim_bin (so_arith csok2 "__mul__" so_mul) (sim_lit fun _ _ => (.int _)) (sim_var (ni rfl))) (sim_cons (sim_bin (so_arith csok2 "__mul__" so_mul) (sim_lit fun _ _ => (.int _)) (sim_var (ni rfl))) sim_nil))) (sim_var (ni rfl)))) (sim_tE (sim_bin (so_own csok2 "__eq__" so_eq) (sim_bin (so_arith csok2 "__add__" so_add) (sim_var (ni rfl)) (sim_var (ni rfl))) (sim_bin (so_arith csok2 "__add__" so_add) (sim_var (ni rfl)) (sim_var (ni rfl))))))) (ss_seq (ss_ret (sim_lit fun _ _ => (.bl _))) ss_nil) ss_nil) (ss_seq (ss_ret (sim_and (sim_bin (so_own csok2 "__eq__" so_eq) (sim_bin (so_arith csok2 "__mul__" so_mul) (sim_var (ni rfl)) (sim_var (ni rfl))) (sim_bin (so_arith csok2 "__mul__" so_mul) (sim_var (ni rfl)) (sim_var (ni rfl)))) (sim_bin (so_own csok2 "__eq__" so_eq) (sim_call se_Ratio (sim_cons (sim_var (ni rfl)) sim_nil)) (sim_call se_Ratio (sim_cons (sim_var (ni rfl)) (sim_cons (sim_lit fun _ _ => (.int _)) sim_nil)))))) ss_nil))))))))
def sp_x_law_ratios_right : Semp := pDef 6 4 bp_x_law_ratios_right
theorem si_x_law_ratios_right : SimF s_x_law_ratios_right sp_x_law_ratios_right := sim_def (own := []) (lo rfl) sb_x_law_ratios_right
abbrev ep_x_law_ratios_right : Semp := sp_x_law_ratios_right
theorem se_x_law_ratios_right : SimF e_x_law_ratios_right ep_x_law_ratios_right := si_x_law_ratios_right
/-! _law_steps_right -/
def bp_x_law_steps_right : MSp := (uSeq (uPar [4, 5] (pCons (pCall ep_Ratio (pCons (pVar 2) (pCons (pVar 3) pNil))) (pCons (pCall ep_Ratio (pCons (pVar 0) (pCons (pVar 1) pNil))) pNil))) (uSeq (uAsg (pCall ep_Shift (pCons (pVar 5) pNil)) (hNm 6)) (uSeq (uIf (qOr (qNot (qE (pCall ep_x_law_is_pair (pCons (pCallI csP2 (pVar 6) (pCons (pVar 4) pNil)) (pCons (pBin (arithP csP2 "__add__" pAdd) (pBin (arithP csP2 "__mul__" pMul) (pVar 0) (pVar 3)) (pBin (arithP csP2 "__mul__" pMul) (pVar 2) (pVar 1))) (pCons (pBin (arithP csP2 "__mul__" pMul) (pVar 1) (pVar 3)) pNil)))))) (qE (pBin (neP csP2) (pUn (unOwnP csP2 "__neg__" pNeg) (pVar 6)) (pCall ep_Shift (pCons (pUn (unOwnP csP2 "__neg__" pNeg) (pVar 5)) pNil))))) (uSeq (uRet (pLit (.bl false))) uNil) uNil) (uSeq (uIf (qOr (qE (pBin (neP csP2) (pCallI csP2 (pUn (unOwnP csP2 "__neg__" pNeg) (pVar 6)) (pCons (pCallI csP2 (pVar 6) (pCons (pVar 4) pNil)) pNil)) (pVar 4))) (qE (pBin (neP csP2) (pAttr csP2 "ratio" (pVar 6)) (pVar 5)))) (uSeq (uRet (pLit (.bl false))) uNil) uNil) (uSeq (uIf (qE (pBin (ownP csP2 "__eq__" qEq) (pVar 0) (pLit (.int 0)))) (uSeq (uRet (pLit (.bl true))) uNil) uNil) (uSeq (uAsg (pCall ep_Scale (pCons (pVar 5) pNil)) (hNm 7)) (uSeq (uIf (qNot (qAnd (qE (pCall ep_x_law_is_pair (pCons (pCallI csP2 (pVar 7) (pCons (pVar 4) pNil)) (pCons (pBin (arithP csP2 "__mul__" pMul) (pVar 0) (pVar 2)) (pCons (pBin (arithP csP2 "__mul__" pMul) (pVar 1) (pVar 3)) pNil))))) (qE (pBin (ownP csP2 "__eq__" qEq) (pCallI csP2 (pUn (unOwnP csP2 "__neg__" pNeg) (pVar 7)) (pCons (pCallI csP2 (pVar 7) (pCons (pVar 4) pNil)) pNil)) (pVar 4))))) (uSeq (uRet (pLit (.bl false))) uNil) uNil) (uSeq (uRet (pAnd (pBin (ownP csP2 "__eq__" qEq) (pUn (unOwnP csP2 "__neg__" pNeg) (pUn (unOwnP csP2 "__neg__" pNeg) (pVar 7))) (pVar 7)) (pBin (ownP csP2 "__eq__" qEq) (pAttr csP2 "ratio" (pVar 7)) (pVar 5)))) uNil))))))))
theorem sb_x_law_steps_right : SimS [] b_x_law_steps_right bp_x_law_steps_right := (ss_seq (ss_par (nis rfl) (sim_cons (sim_call se_Ratio (sim_cons (sim_var (ni rfl)) (sim_cons (sim_var (ni rfl)) sim_nil))) (sim_cons (sim_call se_Ratio (sim_cons (sim_var (ni rfl)) (sim_cons (sim_var (ni rfl)) sim_nil))) sim_nil))) (ss_seq (ss_asg (sim_call se_Shift (sim_cons (sim_var (ni rfl)) sim_nil)) (sg_nm (ni rfl))) (ss_seq (ss_if (sim_tOr (sim_tNot (sim_tE (sim_call se_x_law_is_pair (sim_cons (sim_callI csok2 (sim_var (ni rfl)) (sim_cons (sim_var (ni rfl)) sim_nil)) (sim_cons (sim_bin (so_arith csok2 "__add__" so_add) (sim_bin (so_arith csok2 "__mul__" so_mul) (sim_var (ni rfl)) (sim_var (ni rfl))) (sim_bin (so_arith csok2 "__mul__" so_mul) (sim_var (ni rfl)) (sim_var (ni rfl)))) (sim_cons (sim_bin (so_arith csok2 "__mul__" so_mul) (sim_var (ni rfl)) (sim_var (ni rfl))) sim_nil)))))) (sim_tE (sim_bin (so_neOwn csok2) (sim_un (su_own csok2 "__neg__" su_neg) (sim_var (ni rfl))) (sim_call se_Shift (sim_cons (sim_un (su_own csok2 "__neg__" su_neg) (sim_var (ni rfl))) sim_nil))))) (ss_seq (ss_ret (sim_lit fun _ _ => (.bl _))) ss_nil) ss_nil) (ss_seq (ss_if (sim_tOr (sim_tE (sim_bin (so_neOwn csok2) (sim_callI csok2 (sim_un (su_own csok2 "__neg__" su_neg) (sim_var (ni rfl))) (sim_cons (sim_callI csok2 (sim_var (ni rfl)) (sim_cons (sim_var (ni rfl)) sim_nil)) sim_nil)) (sim_var (ni rfl)))) (sim_tE (sim_bin (so_neOwn csok2) (sim_attr csok2 "ratio" (sim_var (ni rfl))) (sim_var (ni rfl))))) (ss_seq (ss_ret (sim_lit fun _ _ => (.bl _))) ss_nil) ss_nil) (ss_seq (ss_if (sim_tE (sim_bin (so_own csok2 "__eq__" so_eq) (sim_var (ni rfl)) (sim_lit fun _ _ => (.int _)))) (ss_seq (ss_ret (sim_lit fun _ _ => (.bl _))) ss_nil) ss_nil) (ss_seq (ss_asg (sim_call se_Scale (sim_cons (sim_var (ni rfl)) sim_nil)) (sg_nm (ni rfl))) (ss_seq (ss_if (sim_tNot (sim_tAnd (sim_tE (sim_call se_x_law_is_pair (sim_cons (sim_callI csok2 (sim_var (ni rfl)) (sim_cons (sim_var (ni rfl)) sim_nil)) (sim_cons (sim_bin (so_arith csok2 "__mul__" so_mul) (sim_var (ni rfl)) (sim_var (ni rfl))) (sim_cons (sim_bin (so_arith csok2 "__mul__" so_mul) (sim_var (ni rfl)) (sim_var (ni rfl))) sim_nil))))) (sim_tE (sim_bin (so_own csok2 "__eq__" so_eq) (sim_callI csok2 (sim_un (su_own csok2 "__neg__" su_neg) (sim_var (ni rfl))) (sim_cons (sim_callI csok2 (sim_var (ni rfl)) (sim_cons (sim_var (ni rfl)) sim_nil)) sim_nil)) (sim_var (ni rfl)))))) (ss_seq (ss_ret (sim_lit fun _ _ => (.bl _))) ss_nil) ss_nil) (ss_seq (ss_ret (sim_and (sim_bin (so_own csok2 "__eq__" so_eq) (sim_un (su_own csok2 "__neg__" su_neg) (sim_un (su_own csok2 "__neg__" su_neg) (sim_var (ni rfl)))) (sim_var (ni rfl))) (sim_bin (so_own csok2 "__eq__" so_eq) (sim_attr csok2 "ratio" (sim_var (ni rfl))) (sim_var (ni rfl))))) ss_nil))))))))
def sp_x_law_steps_right : Semp := pDef 8 4 bp_x_law_steps_right
theorem si_x_law_steps_right : SimF s_x_law_steps_right sp_x_law_steps_right := sim_def (own := []) (lo rfl) sb_x_law_steps_right
abbrev ep_x_law_steps_right : Semp := sp_x_law_steps_right
theorem se_x_law_steps_right : SimF e_x_law_steps_right ep_x_law_steps_right := si_x_law_steps_right
/-! _law_round_right -/
def bp_x_law_round_right : MSp := (uSeq (uPar [5, 6, 7] (pCons (pCall ep_Round (pCons (pCall ep_Ratio (pCons (pVar 0) (pCons (pVar 1) pNil))) (pCons (pVar 4) pNil))) (pCons (pCall ep_Ratio (pCons (pVar 2) (pCons (pVar 3) pNil))) (pCons (pCall ep_Ratio (pCons (pVar 0) (pCons (pVar 1) pNil))) pNil)))) (uSeq (uAsg (pCall ep_x_law_rounded (pCons (pVar 2) (pCons (pVar 3) (pCons (pTup (pCons (pLit (.str "x")) (pCons (pLit (.str "round")) (pCons (pVar 0) (pCons (pVar 1) (pCons (pVar 4) pNil)))))) pNil)))) (hNm 8)) (uSeq (uAsg (pCallI csP2 (pVar 5) (pCons (pVar 6) pNil)) (hNm 9)) (uSeq (uIf (qOr (qNot (qE (pCall ep_x_law_is_pair (pCons (pVar 9) (pCons (pBin pIx (pVar 8) (pLit (.int 0))) (pCons (pBin pIx (pVar 8) (pLit (.int 1))) pNil)))))) (qE (pBin (neP csP2) (pCallI csP2 (pVar 5) (pCons (pVar 9) pNil)) (pVar 9)))) (uSeq (uRet (pLit (.bl false))) uNil) uNil) (uSeq (uIf (qOr (qE (pBin (neP csP2) (pAttr csP2 "mode" (pVar 5)) (pVar 4))) (qE (pBin (neP csP2) (pAttr csP2 "unit" (pVar 5)) (pVar 7)))) (uSeq (uRet (pLit (.bl false))) uNil) uNil) (uSeq (uAsg (pBin (arithP csP2 "__add__" pAdd) (pVar 7) (pVar 7)) (hNm 10)) (uSeq (uIf (qOr (qE (pBin (neP csP2) (pCallI csP2 (pVar 5) (pCons (pBin (arithP csP2 "__add__" pAdd) (pVar 6) (pVar 10)) pNil)) (pBin (arithP csP2 "__add__" pAdd) (pVar 9) (pVar 10)))) (qE (pBin (neP csP2) (pCallI csP2 (pVar 5) (pCons (pBin (arithP csP2 "__sub__" pSub) (pVar 6) (pVar 10)) pNil)) (pBin (arithP csP2 "__sub__" pSub) (pVar 9) (pVar 10))))) (uSeq (uRet (pLit (.bl false))) uNil) uNil) (uSeq (uIf (qE (pBin (ownP csP2 "__eq__" qEq) (pVar 4) (pLit (.str "down")))) (uSeq (uRet (pAnd (pBin (ownP csP2 "__le__" (cmpP .LtE)) (pVar 9) (pVar 6)) (pNot (pBin (ownP csP2 "__le__" (cmpP .LtE)) (pBin (arithP csP2 "__add__" pAdd) (pVar 9) (pVar 7)) (pVar 6))))) uNil) uNil) (uSeq (uIf (qE (pBin (ownP csP2 "__eq__" qEq) (pVar 4) (pLit (.str "up")))) (uSeq (uRet (pAnd (pBin (ownP csP2 "__le__" (cmpP .LtE)) (pVar 6) (pVar 9)) (pNot (pBin (ownP csP2 "__le__" (cmpP .LtE)) (pVar 6) (pBin (arithP csP2 "__sub__" pSub) (pVar 9) (pVar 7)))))) uNil) uNil) (uSeq (uAsg (pBin (arithP csP2 "__sub__" pSub) (pVar 9) (pVar 6)) (hNm 11)) (uSeq (uAsg (pIf (qE (pBin (ownP csP2 "__le__" (cmpP .LtE)) (pCall ep_Ratio (pCons (pLit (.int 0)) pNil)) (pVar 11))) (pBin (arithP csP2 "__add__" pAdd) (pVar 11) (pVar 11)) (pBin (arithP csP2 "__sub__" pSub) (pUn (unOwnP csP2 "__neg__" pNeg) (pVar 11)) (pVar 11))) (hNm 12)) (uSeq (uRet (pAnd (pBin (ownP csP2 "__le__" (cmpP .LtE)) (pVar 12) (pVar 7)) (pBin (ownP csP2 "__eq__" qEq) (pVar 5) (pCall ep_Round (pCons (pVar 7) (pCons (pVar 4) pNil)))))) uNil))))))))))))
theorem sb_x_law_round_right : SimS [] b_x_law_round_right bp_x_law_round_right := (ss_seq (ss_par (nis rfl) (sim_cons (sim_call se_Round (sim_cons (sim_call se_Ratio (sim_cons (sim_var (ni rfl)) (sim_cons (sim_var (ni rfl)) sim_nil))) (sim_cons (sim_var (ni rfl)) sim_nil))) (sim_cons (sim_call se_Ratio (sim_cons (sim_var (ni rfl)) (sim_cons (sim_var (ni rfl)) sim_nil))) (sim_cons (sim_call se_Ratio (sim_cons (sim_var (ni rfl)) (sim_cons (sim_var (ni rfl)) sim_nil))) sim_nil)))) (ss_seq (ss_asg (sim_call se_x_law_rounded (sim_cons (sim_var (ni rfl)) (sim_cons (sim_var (ni rfl)) (sim_cons (sim_tup (sim_cons (sim_lit fun _ _ => (.str _)) (sim_cons (sim_lit fun _ _ => (.str _)) (sim_cons (sim_var (ni rfl)) (sim_cons (sim_var (ni rfl)) (sim_cons (sim_var (ni rfl)) sim_nil)))))) sim_nil)))) (sg_nm (ni rfl))) (ss_seq (ss_asg (sim_callI csok2 (sim_var (ni rfl)) (sim_cons (sim_var (ni rfl)) sim_nil)) (sg_nm (ni rfl))) (ss_seq (ss_if (sim_tOr (sim_tNot (sim_tE (sim_call se_x_law_is_pair (sim_cons (sim_var (ni rfl)) (sim_cons (sim_bin so_ix (sim_var (ni rfl)) (sim_lit fun _ _ => (.int _))) (sim_cons (sim_bin so_ix (sim_var (ni rfl)) (sim_lit fun _ _ => (.int _))) sim_nil)))))) (sim_tE (sim_bin (so_neOwn csok2) (sim_callI csok2 (sim_var (ni rfl)) (sim_cons (sim_var (ni rfl)) sim_nil)) (sim_var (ni rfl))))) (ss_seq (ss_ret (sim_lit fun _ _ => (.bl _))) ss_nil) ss_nil) (ss_seq (ss_if (sim_tOr (sim_tE (sim_bin (so_neOwn csok2) (sim_attr csok2 "mode" (sim_var (ni rfl))) (sim_var (ni rfl)))) (sim_tE (sim_bin (so_neOwn csok2) (sim_attr csok2 "unit" (sim_var (ni rfl))) (sim_var (ni rfl))))) (ss_seq (ss_ret (sim_lit fun _ _ => (.bl _))) ss_nil) ss_nil) (ss_seq (ss_asg (sim_bin (so_arith csok2 "__add__" so_add) (sim_var (ni rfl)) (sim_var (ni rfl))) (sg_nm (ni rfl))) (ss_seq (ss_if (sim_tOr (sim_tE (sim_bin (so_neOwn csok2) (sim_callI csok2 (sim_var (ni rfl)) (sim_cons (sim_bin (so_arith csok2 "__add__" so_add) (sim_var (ni rfl)) (sim_var (ni rfl))) sim_nil)) (sim_bin (so_arith csok2 "__add__" so_add) (sim_var (ni rfl)) (sim_var (ni rfl))))) (sim_tE (sim_bin (so_neOwn csok2) (sim_callI csok2 (sim_var (ni rfl)) (sim_cons (sim_bin (so_arith csok2 "__sub__" so_sub) (sim_var (ni rfl)) (sim_var (ni rfl))) sim_nil)) (sim_bin (so_arith csok2 "__sub__" so_sub) (sim_var (ni rfl)) (sim_var (ni rfl)))))) (ss_seq (ss_ret (sim_lit fun _ _ => (.bl _))) ss_nil) ss_nil) (ss_seq (ss_if (sim_tE (sim_bin (so_own csok2 "__eq__" so_eq) (sim_var (ni rfl)) (sim_lit fun _ _ => (.str _)))) (ss_seq (ss_ret (sim_and (sim_bin (so_own csok2 "__le__" (so_cmp .LtE)) (sim_var (ni rfl)) (sim_var (ni rfl))) (sim_not (sim_bin (so_own csok2 "__le__" (so_cmp .LtE)) (sim_bin (so_arith csok2 "__add__" so_add) (sim_var (ni rfl)) (sim_var (ni rfl))) (sim_var (ni rfl)))))) ss_nil) ss_nil) (ss_seq (ss_if (sim_tE (sim_bin (so_own csok2 "__eq__" so_eq) (sim_var (ni rfl)) (sim_lit fun _ _ => (.str _)))) (ss_seq (ss_ret (sim_and (sim_bin (so_own csok2 "__le__" (so_cmp .LtE)) (sim_var (ni rfl)) (sim_var (ni rfl))) (sim_not (sim_bin (so_own csok2 "__le__" (so_cmp .LtE)) (sim_var (ni rfl)) (sim_bin (so_arith csok2 "__sub__" so_sub) (sim_var (ni rfl)) (sim_var (ni rfl))))))) ss_nil) ss_nil) (ss_seq (ss_asg (sim_bin (so_arith csok2 "__sub__" so_sub) (sim_var (ni rfl)) (sim_var (ni rfl))) (sg_nm (ni rfl))) (ss_seq (ss_asg (sim_if (sim_tE (sim_bin (so_own csok2 "__le__" (so_cmp .LtE)) (sim_call se_Ratio (sim_cons (sim_lit fun _ _ => (.int _)) sim_nil)) (sim_var (ni rfl)))) (sim_bin (so_arith csok2 "__add__" so_add) (sim_var (ni rfl)) (sim_var (ni rfl))) (sim_bin (so_arith csok2 "__sub__" so_sub) (sim_un (su_own csok2 "__neg__" su_neg) (sim_var (ni rfl))) (sim_var (ni rfl)))) (sg_nm (ni rfl))) (ss_seq (ss_ret (sim_and (sim_bin (so_own csok2 "__le__" (so_cmp .LtE)) (sim_var (ni rfl)) (sim_var (ni rfl))) (sim_bin (so_own csok2 "__eq__" so_eq) (sim_var (ni rfl)) (sim_call se_Round (sim_cons (sim_var (ni rfl)) (sim_cons (sim_var (ni rfl)) sim_nil)))))) ss_nil))))))))))))
def sp_x_law_round_right : Semp := pDef 13 5 bp_x_law_round_right
theorem si_x_law_round_right : SimF s_x_law_round_right sp_x_law_round_right := sim_def (own := []) (lo rfl) sb_x_law_round_right
abbrev ep_x_law_round_right : Semp := sp_x_law_round_right
theorem se_x_law_round_right : SimF e_x_law_round_right ep_x_law_round_right := si_x_law_round_right
/-! _law_all_right -/
def lp_x_law_all_right_0 : MSp := (uSeq (uIf (qNot (qE (pCall ep_x_law_round_right (pCons (pVar 8) (pCons (pVar 5) (pCons (pVar 6) (pCons (pVar 7) (pCons (pVar 9) pNil)))))))) (uSeq (uRet (pLit (.bl false))) uNil) uNil) (uSeq (uIf (qNot (qE (pCall ep_x_law_round_right (pCons (pVar 8) (pCons (pVar 5) (pCons (pBin (arithP csP2 "__mul__" pMul) (pBin (arithP csP2 "__sub__" pSub) (pBin (arithP csP2 "__mul__" pMul) (pLit (.int 2)) (pBin (pMod) (pVar 6) (pLit (.int 40)))) (pLit (.int 39))) (pVar 8)) (pCons (pBin (arithP csP2 "__mul__" pMul) (pLit (.int 2)) (pVar 5)) (pCons (pVar 9) pNil)))))))) (uSeq (uRet (pLit (.bl false))) uNil) uNil) (uSeq (uIf (qNot (qE (pCall ep_x_law_round_right (pCons (pVar 8) (pCons (pVar 5) (pCons (pBin (arithP csP2 "__mul__" pMul) (pBin (arithP csP2 "__sub__" pSub) (pBin (pMod) (pVar 6) (pLit (.int 40))) (pLit (.int 20))) (pVar 8)) (pCons (pVar 5) (pCons (pVar 9) pNil)))))))) (uSeq (uRet (pLit (.bl false))) uNil) uNil) uNil)))
def lp_x_law_all_right_1 : MSp := (uSeq (uPar [2, 3] (pCons (pCall ep_x_law_number (pCons (pVar 0) (pCons (pBin (arithP csP2 "__add__" pAdd) (pLit (.int 20)) (pVar 1)) pNil))) (pCons (pBin pIx (pTup (pCons (pLit (.int 9)) (pCons (pLit (.int 60)) (pCons (pLit (.int 99)) pNil)))) (pBin (pMod) (pVar 1) (pLit (.int 3)))) pNil))) (uSeq (uPar [4, 5] (pCons (pBin (arithP csP2 "__sub__" pSub) (pBin (pMod) (pVar 2) (pBin (arithP csP2 "__add__" pAdd) (pBin (arithP csP2 "__mul__" pMul) (pLit (.int 2)) (pVar 3)) (pLit (.int 1)))) (pVar 3)) (pCons (pBin (arithP csP2 "__add__" pAdd) (pLit (.int 1)) (pBin (pMod) (pBin (pFdiv) (pVar 2) (pLit (.int 300))) (pVar 3))) pNil))) (uSeq (uPar [6, 7] (pCons (pBin (arithP csP2 "__sub__" pSub) (pBin (pMod) (pBin (pFdiv) (pVar 2) (pLit (.int 7))) (pLit (.int 4001))) (pLit (.int 2000))) (pCons (pBin (arithP csP2 "__add__" pAdd) (pLit (.int 1)) (pBin (pMod) (pBin (pFdiv) (pVar 2) (pLit (.int 40000))) (pBin pIx (pTup (pCons (pLit (.int 12)) (pCons (pLit (.int 60)) pNil))) (pBin (pMod) (pVar 1) (pLit (.int 2)))))) pNil))) (uSeq (uIf (qOr (qNot (qE (pCall ep_x_law_ratios_right (pCons (pVar 4) (pCons (pVar 5) (pCons (pVar 6) (pCons (pVar 7) pNil))))))) (qNot (qE (pCall ep_x_law_ratios_right (pCons (pVar 4) (pCons (pVar 5) (pCons (pBin (arithP csP2 "__sub__" pSub) (pBin (arithP csP2 "__add__" pAdd) (pVar 4) (pBin (pMod) (pVar 6) (pLit (.int 3)))) (pLit (.int 1))) (pCons (pVar 5) pNil)))))))) (uSeq (uRet (pLit (.bl false))) uNil) uNil) (uSeq (uIf (qNot (qE (pCall ep_x_law_steps_right (pCons (pVar 4) (pCons (pVar 5) (pCons (pVar 6) (pCons (pVar 7) pNil))))))) (uSeq (uRet (pLit (.bl false))) uNil) uNil) (uSeq (uAsg (pIf (qE (pBin (cmpP .Lt) (pCall fAbs (pCons (pVar 4) pNil)) (pLit (.int 99)))) (pBin (arithP csP2 "__add__" pAdd) (pCall fAbs (pCons (pVar 4) pNil)) (pLit (.int 1))) (pLit (.int 4))) (hNm 8)) (uSeq (uFor (jList (pTup (pCons (pLit (.str "down")) (pCons (pLit (.str "up")) (pCons (pLit (.str "half")) (pCons (pLit (.str "even")) pNil)))))) (hNm 9) lp_x_law_all_right_0) uNil)))))))
def bp_x_law_all_right : MSp := (uSeq (uFor (jRange1 (pLit (.int 8))) (hNm 1) lp_x_law_all_right_1) (uSeq (uRet (pAnd (pBin (ownP csP2 "__eq__" qEq) (pCall ep_Round (pCons (pCall ep_Ratio (pCons (pLit (.int 2)) (pCons (pLit (.int 3)) pNil))) pNil)) (pCall ep_Round (pCons (pCall ep_Ratio (pCons (pLit (.int 4)) (pCons (pLit (.int 6)) pNil))) (pCons (pLit (.str "half")) pNil)))) (pBin (neP csP2) (pCall ep_Round (pCons (pCall ep_Ratio (pCons (pLit (.int 1)) pNil)) (pCons (pLit (.str "up")) pNil))) (pCall ep_Round (pCons (pCall ep_Ratio (pCons (pLit (.int 1)) pNil)) (pCons (pLit (.str "down")) pNil)))))) uNil))
theorem sb_x_law_all_right : SimS [] b_x_law_all_right bp_x_law_all_right := (ss_seq (ss_for (sim_range1 (sim_lit fun _ _ => (.int _))) (sg_nm (ni rfl)) (ss_seq (ss_par (nis rfl) (sim_cons (sim_call se_x_law_number (sim_cons (sim_var (ni rfl)) (sim_cons (sim_bin (so_arith csok2 "__add__" so_add) (sim_lit fun _ _ => (.int _)) (sim_var (ni rfl))) sim_nil))) (sim_cons (sim_bin so_ix (sim_tup (sim_cons (sim_lit fun _ _ => (.int _)) (sim_cons (sim_lit fun _ _ => (.int _)) (sim_cons (sim_lit fun _ _ => (.int _)) sim_nil)))) (sim_bin (so_mod) (sim_var (ni rfl)) (sim_lit fun _ _ => (.int _)))) sim_nil))) (ss_seq (ss_par (nis rfl) (sim_cons (sim_bin (so_arith csok2 "__sub__" so_sub) (sim_bin (so_mod) (sim_var (ni rfl)) (sim_bin (so_arith csok2 "__add__" so_add) (sim_bin (so_arith csok2 "__mul__" so_mul) (sim_lit fun _ _ => (.int _)) (sim_var (ni rfl))) (sim_lit fun _ _ => (.int _)))) (sim_var (ni rfl))) (sim_cons (sim_bin (so_arith csok2 "__add__" so_add) (sim_lit fun _ _ => (.int _)) (sim_bin (so_mod) (sim_bin (so_fdiv) (sim_var (ni rfl)) (sim_lit fun _ _ => (.int _))) (sim_var (ni rfl)))) sim_nil))) (ss_seq (ss_par (nis rfl) (sim_cons (sim_bin (so_arith csok2 "__sub__" so_sub) (sim_bin (so_mod) (sim_bin (so_fdiv) (sim_var (ni rfl)) (sim_lit fun _ _ => (.int _))) (sim_lit fun _ _ => (.int _))) (sim_lit fun _ _ => (.int _))) (sim_cons (sim_bin (so_arith csok2 "__add__" so_add) (sim_lit fun _ _ => (.int _)) (sim_bin (so_mod) (sim_bin (so_fdiv) (sim_var (ni rfl)) (sim_lit fun _ _ => (.int _))) (sim_bin so_ix (sim_tup (sim_cons (sim_lit fun _ _ => (.int _)) (sim_cons (sim_lit fun _ _ => (.int _)) sim_nil))) (sim_bin (so_mod) (sim_var (ni rfl)) (sim_lit fun _ _ => (.int _)))))) sim_nil))) (ss_seq (ss_if (sim_tOr (sim_tNot (sim_tE (sim_call se_x_law_ratios_right (sim_cons (sim_var (ni rfl)) (sim_cons (sim_var (ni rfl)) (sim_cons (sim_var (ni rfl)) (sim_cons (sim_var (ni rfl)) sim_nil))))))) (sim_tNot (sim_tE (sim_call se_x_law_ratios_right (sim_cons (sim_var (ni rfl)) (sim_cons (sim_var (ni rfl)) (sim_cons (sim_bin (so_arith csok2 "__sub__" so_sub) (sim_bin (so_arith csok2 "__add__" so_add) (sim_var (ni rfl)) (sim_bin (so_mod) (sim_var (ni rfl)) (sim_lit fun _ _ => (.int _)))) (sim_lit fun _ _ => (.int _))) (sim_cons (sim_var (ni rfl)) sim_nil)))))))) (ss_seq (ss_ret (sim_lit fun _ _ => (.bl _))) ss_nil) ss_nil) (ss_seq (ss_if (sim_tNot (sim_tE (sim_call se_x_law_steps_right (sim_cons (sim_var (ni rfl)) (sim_cons (sim_var (ni rfl)) (sim_cons (sim_var (ni rfl)) (sim_cons (sim_var (ni rfl)) sim_nil))))))) (ss_seq (ss_ret (sim_lit fun _ _ => (.bl _))) ss_nil) ss_nil) (ss_seq (ss_asg (sim_if (sim_tE (sim_bin (so_cmp .Lt) (sim_call sb_abs (sim_cons (sim_var (ni rfl)) sim_nil)) (sim_lit fun _ _ => (.int _)))) (sim_bin (so_arith csok2 "__add__" so_add) (sim_call sb_abs (sim_cons (sim_var (ni rfl)) sim_nil)) (sim_lit fun _ _ => (.int _))) (sim_lit fun _ _ => (.int _))) (sg_nm (ni rfl))) (ss_seq (ss_for (sim_it (sim_tup (sim_cons (sim_lit fun _ _ => (.str _)) (sim_cons (sim_lit fun _ _ => (.str _)) (sim_cons (sim_lit fun _ _ => (.str _)) (sim_cons (sim_lit fun _ _ => (.str _)) sim_nil)))))) (sg_nm (ni rfl)) (ss_seq (ss_if (sim_tNot (sim_tE (sim_call se_x_law_round_right (sim_cons (sim_var (ni rfl)) (sim_cons (sim_var (ni rfl)) (sim_cons (sim_var (ni rfl)) (sim_cons (sim_var (ni rfl)) (sim_cons (sim_var (ni rfl)) sim_nil)))))))) (ss_seq (ss_ret (sim_lit fun _ _ => (.bl _))) ss_nil) ss_nil) (ss_seq (ss_if (sim_tNot (sim_tE (sim_call se_x_law_round_right (sim_cons (sim_var (ni rfl)) (sim_cons (sim_var (ni rfl)) (sim_cons (sim_bin (so_arith csok2 "__mul__" so_mul) (sim_bin (so_arith csok2 "__sub__" so_sub) (sim_bin (so_arith csok2 "__mul__" so_mul) (sim_lit fun _ _ => (.int _)) (sim_bin (so_mod) (sim_var (ni rfl)) (sim_lit fun _ _ => (.int _)))) (sim_lit fun _ _ => (.int _))) (sim_var (ni rfl))) (sim_cons (sim_bin (so_arith csok2 "__mul__" so_mul) (sim_lit fun _ _ => (.int _)) (sim_var (ni rfl))) (sim_cons (sim_var (ni rfl)) sim_nil)))))))) (ss_seq (ss_ret (sim_lit fun _ _ => (.bl _))) ss_nil) ss_nil) (ss_seq (ss_if (sim_tNot (sim_tE (sim_call se_x_law_round_right (sim_cons (sim_var (ni rfl)) (sim_cons (sim_var (ni rfl)) (sim_cons (sim_bin (so_arith csok2 "__mul__" so_mul) (sim_bin (so_arith csok2 "__sub__" so_sub) (sim_bin (so_mod) (sim_var (ni rfl)) (sim_lit fun _ _ => (.int _))) (sim_lit fun _ _ => (.int _))) (sim_var (ni rfl))) (sim_cons (sim_var (ni rfl)) (sim_cons (sim_var (ni rfl)) sim_nil)))))))) (ss_seq (ss_ret (sim_lit fun _ _ => (.bl _))) ss_nil) ss_nil) ss_nil)))) ss_nil)))))))) (ss_seq (ss_ret (sim_and (sim_bin (so_own csok2 "__eq__" so_eq) (sim_call se_Round (sim_cons (sim_call se_Ratio (sim_cons (sim_lit fun _ _ => (.int _)) (sim_cons (sim_lit fun _ _ => (.int _)) sim_nil))) sim_nil)) (sim_call se_Round (sim_cons (sim_call se_Ratio (sim_cons (sim_lit fun _ _ => (.int _)) (sim_cons (sim_lit fun _ _ => (.int _)) sim_nil))) (sim_cons (sim_lit fun _ _ => (.str _)) sim_nil)))) (sim_bin (so_neOwn csok2) (sim_call se_Round (sim_cons (sim_call se_Ratio (sim_cons (sim_lit fun _ _ => (.int _)) sim_nil)) (sim_cons (sim_lit fun _ _ => (.str _)) sim_nil))) (sim_call se_Round (sim_cons (sim_call se_Ratio (sim_cons (sim_lit fun _ _ => (.int _)) sim_nil)) (sim_cons (sim_lit fun _ _ => (.str _)) sim_nil)))))) ss_nil))
def sp_x_law_all_right : Semp := pDef 10 1 bp_x_law_all_right
theorem si_x_law_all_right : SimF s_x_law_all_right sp_x_law_all_right := sim_def (own := []) (lo rfl) sb_x_law_all_right
abbrev ep_x_law_all_right : Semp := sp_x_law_all_right
theorem se_x_law_all_right : SimF e_x_law_all_right ep_x_law_all_right := si_x_law_all_right
/-! law -/
def bp_law : MSp := (uSeq (uTry0 (uSeq (uRet (pCall ep_x_law_all_right (pCons (pVar 0) pNil))) uNil)) uNil)
theorem sb_law : SimS [] b_law bp_law := (ss_seq (ss_try0 (ss_seq (ss_ret (sim_call se_x_law_all_right (sim_cons (sim_var (ni rfl)) sim_nil))) ss_nil)) ss_nil)
def sp_law : Semp := pDef 1 1 bp_law
theorem si_law : SimF s_law sp_law := sim_def (own := []) (lo rfl) sb_law
abbrev ep_law : Semp := sp_law
theorem se_law : SimF e_law ep_law := si_law
theorem law_of (ns : List Int) (e : sp_law [.rol (ns.map P.int)] = .ok (.bl true)) : ∃ h', s_law [.ref 0] [.rol (ns.map Mi.D.int)] = .ok (.bl true) h' := sim_law si_law ns e
end Lw

/-! Mi, part PX: what operations over values give. -/
namespace Mi
open PySem
section
variable {α β : Type} {δ : Dp} {x y : Int} {cs : List CIP} {nm : Str} {o op : O2p} {a b c : MEp} {ms : MEsp} {t u : MTp} {s s' : MSp} {g : MGp} {gs : MGsp} {it : MIp} {i n k : Nat} {p : P} {f : Semp}
@[simp] theorem rp_bind_ok {a : α} {f : α → RP β} : (RP.ok a).bind f = f a := rfl
@[simp] theorem rp_st_ok {a : α} {f : α → RSp} : (RP.ok a).st δ f = f a := rfl
@[simp] theorem rp_bind_no {f : α → RP β} : (RP.no).bind f = .no := rfl
@[simp] theorem rp_bind_ex {x : XP} {f : α → RP β} : (RP.ex x).bind f = .ex x := rfl
@[simp] theorem rp_st_ex {x : XP} {f : α → RSp} : (RP.ex x).st δ f = .ex x δ := rfl
@[simp] theorem rp_noex {a : α} : (RP.ok a).noex = .ok a := rfl
theorem v_var : pVar i δ = (match δ[i]? with | some (some d) => .ok d | _ => .no) := rfl
@[simp] theorem v_var0 {d : P} {r : Dp} : pVar 0 (some d :: r) = .ok d := rfl
@[simp] theorem v_varS {d : Option P} {r : Dp} : pVar (i + 1) (d :: r) = pVar i r := by simp [v_var]
@[simp] theorem v_var1 {d : Option P} {r : Dp} : pVar 1 (d :: r) = pVar 0 r := rfl
@[simp] theorem v_var2 {d1 d2 : Option P} {r : Dp} : pVar 2 (d1 :: d2 :: r) = pVar 0 r := rfl
@[simp] theorem v_var3 {d1 d2 d3 : Option P} {r : Dp} : pVar 3 (d1 :: d2 :: d3 :: r) = pVar 0 r := rfl
@[simp] theorem v_var4 {d1 d2 d3 d4 : Option P} {r : Dp} : pVar 4 (d1 :: d2 :: d3 :: d4 :: r) = pVar 0 r := rfl
@[simp] theorem v_var5 {d1 d2 d3 d4 d5 : Option P} {r : Dp} : pVar 5 (d1 :: d2 :: d3 :: d4 :: d5 :: r) = pVar 0 r := rfl
@[simp] theorem v_var6 {d1 d2 d3 d4 d5 d6 : Option P} {r : Dp} : pVar 6 (d1 :: d2 :: d3 :: d4 :: d5 :: d6 :: r) = pVar 0 r := rfl
@[simp] theorem v_var7 {d1 d2 d3 d4 d5 d6 d7 : Option P} {r : Dp} : pVar 7 (d1 :: d2 :: d3 :: d4 :: d5 :: d6 :: d7 :: r) = pVar 0 r := rfl
@[simp] theorem v_var8 {d1 d2 d3 d4 d5 d6 d7 d8 : Option P} {r : Dp} : pVar 8 (d1 :: d2 :: d3 :: d4 :: d5 :: d6 :: d7 :: d8 :: r) = pVar 0 r := rfl
@[simp] theorem v_var9 {d1 d2 d3 d4 d5 d6 d7 d8 d9 : Option P} {r : Dp} : pVar 9 (d1 :: d2 :: d3 :: d4 :: d5 :: d6 :: d7 :: d8 :: d9 :: r) = pVar 0 r := rfl
@[simp] theorem v_var10 {d1 d2 d3 d4 d5 d6 d7 d8 d9 d10 : Option P} {r : Dp} : pVar 10 (d1 :: d2 :: d3 :: d4 :: d5 :: d6 :: d7 :: d8 :: d9 :: d10 :: r) = pVar 0 r := rfl
@[simp] theorem v_var11 {d1 d2 d3 d4 d5 d6 d7 d8 d9 d10 d11 : Option P} {r : Dp} : pVar 11 (d1 :: d2 :: d3 :: d4 :: d5 :: d6 :: d7 :: d8 :: d9 :: d10 :: d11 :: r) = pVar 0 r := rfl
@[simp] theorem v_var12 {d1 d2 d3 d4 d5 d6 d7 d8 d9 d10 d11 d12 : Option P} {r : Dp} : pVar 12 (d1 :: d2 :: d3 :: d4 :: d5 :: d6 :: d7 :: d8 :: d9 :: d10 :: d11 :: d12 :: r) = pVar 0 r := rfl
@[simp] theorem v_lit : pLit p δ = .ok p := rfl
@[simp] theorem v_nil : pNil δ = .ok [] := rfl
@[simp] theorem v_cons : pCons a ms δ = (a δ).bind fun d => (ms δ).bind fun ds => .ok (d :: ds) := rfl
@[simp] theorem v_tup : pTup ms δ = (ms δ).bind fun ds => if ds.length ≤ maxLen then .ok (.tup ds) else .no := rfl
@[simp] theorem v_lst : pLst ms δ = (ms δ).bind fun ds => if ds.length ≤ maxLen then .ok (.lst ds) else .no := rfl
@[simp] theorem v_bin : pBin o a b δ = (a δ).bind fun x => (b δ).bind fun y => o x y := rfl
@[simp] theorem v_un {o : P → RP P} : pUn o a δ = (a δ).bind fun x => o x := rfl
@[simp] theorem v_chain : pChain o op a b c δ = (a δ).bind fun x => (b δ).bind fun y => (o x y).bind fun z => match z with
  | .bl true => (c δ).bind fun w => op y w
  | .bl false => .ok (.bl false)
  | _ => .no := rfl
@[simp] theorem v_if : pIf t a b δ = (t δ).bind fun k => if k then a δ else b δ := rfl
@[simp] theorem v_and : pAnd a b δ = (a δ).bind fun x => match x with
  | .bl true => b δ
  | .bl false => .ok (.bl false)
  | _ => .no := rfl
@[simp] theorem v_or : pOr a b δ = (a δ).bind fun x => match x with
  | .bl true => .ok (.bl true)
  | .bl false => b δ
  | _ => .no := rfl
@[simp] theorem v_not : pNot a δ = (a δ).bind fun x => match x with
  | .bl k => .ok (.bl (!k))
  | _ => .no := rfl
@[simp] theorem v_call : pCall f ms δ = (ms δ).bind fun ds => f ds := rfl
@[simp] theorem v_qE : qE a δ = (a δ).bind fun x => match x with
  | .bl k => .ok k
  | _ => .no := rfl
@[simp] theorem v_qAnd : qAnd t u δ = (t δ).bind fun k => if k then u δ else .ok false := rfl
@[simp] theorem v_qOr : qOr t u δ = (t δ).bind fun k => if k then .ok true else u δ := rfl
@[simp] theorem v_qNot : qNot t δ = (t δ).bind fun k => .ok (!k) := rfl
@[simp] theorem v_qTrue : qTrue δ = .ok true := rfl
@[simp] theorem v_attr {fl : Str} : pAttr cs fl a δ = (a δ).bind fun x => attrP cs fl x := rfl
@[simp] theorem v_callI : pCallI cs a ms δ = (a δ).bind fun x => match x with
  | .obj _ _ => (ms δ).bind fun ds => callIP cs x ds
  | _ => .no := rfl
@[simp] theorem v_hNm : hNm i p δ = some (δ.set i (some p)) := rfl
@[simp] theorem v_hNil : hNil [] δ = some δ := rfl
@[simp] theorem v_hCons {ps : List P} : hCons g gs (p :: ps) δ = (g p δ).bind (gs ps) := rfl
@[simp] theorem v_hTp {ps : List P} : hTp gs (.tup ps) δ = gs ps δ := rfl
@[simp] theorem v_uNil : uNil δ = .nx δ := rfl
@[simp] theorem v_uSeq : uSeq s s' δ = (match s δ with | .nx δ1 => s' δ1 | r => r) := rfl
@[simp] theorem v_uExpr : uExpr a δ = (a δ).st δ fun _ => .nx δ := rfl
@[simp] theorem v_uRet : uRet a δ = (a δ).st δ fun d => .rt d := rfl
@[simp] theorem v_uRetN : uRetN δ = .rt .non := rfl
@[simp] theorem v_uAsg : uAsg a g δ = (a δ).st δ fun d => match g d δ with
  | some δ1 => .nx δ1
  | none => .no := rfl
@[simp] theorem v_uPar {is : List Nat} : uPar is ms δ = (ms δ).st δ fun ds => if ds.length = is.length then .nx ((is.zip ds).foldl (fun δ p => δ.set p.1 (some p.2)) δ) else .no := rfl
@[simp] theorem v_uIf : uIf t s s' δ = (t δ).st δ fun k => if k then s δ else s' δ := rfl
@[simp] theorem v_uTry0 : uTry0 s δ = (match s δ with | .ex _ _ => .no | r => r) := rfl
@[simp] theorem v_uFor : uFor it g s δ = (it δ).st δ fun ds => uLoop g s ds δ := rfl
@[simp] theorem v_uLoop0 : uLoop g s [] δ = .nx δ := rfl
@[simp] theorem v_uRaise {c : Nat} : uRaise c ms δ = (ms δ).st δ fun ds => if ds.length ≤ maxLen then .ex ⟨c, []⟩ δ else .no := rfl
theorem v_uLoop {ds : List P} : uLoop g s (p :: ds) δ = (match g p δ with
    | some δ1 => (match s δ1 with
      | .nx δ2 => uLoop g s ds δ2
      | .ct δ2 => uLoop g s ds δ2
      | .bk δ2 => .nx δ2
      | r => r)
    | none => .no) := rfl
@[simp] theorem v_jList : jList a δ = (a δ).bind fun x => match x with
  | .lst ds => .ok ds
  | .rol ds => .ok ds
  | .tup ds => .ok ds
  | _ => .no := rfl
@[simp] theorem v_jRange1 : jRange1 a δ = (a δ).bind fun x => match x with
  | .int j => if -(2 ^ 62) ≤ j ∧ j < 2 ^ 62 then .ok (rangeP 0 j.toNat) else .no
  | _ => .no := rfl
@[simp] theorem v_flat_bl {b : Bool} : pFlat a δ = (match a δ with
  | .ok p => if flatP p then .ok p else .no
  | .ex x => if x.fs.all fun f => flatP f.2 then .ex x else .no
  | .no => .no) := rfl
theorem lay_int' {x : Int} : SeqAt.shaped (.int x) = true := by
  have h1 : (PyData.int x).canLay0 = true := by first | rfl | simp [PyData.canLay0]
  have h2 : (PyData.int x).depth ≤ 64 := by simp [PyData.depth]
  simp [SeqAt.shaped, h1, h2]
theorem lay_str' {x : Str} (hx : PyData.strOk x = true) : SeqAt.shaped (.str x) = true := by
  have h1 : (PyData.str x).canLay0 = true := by simpa [PyData.canLay0] using hx
  have h2 : (PyData.str x).depth ≤ 64 := by simp [PyData.depth]
  simp [SeqAt.shaped, h1, h2]
theorem eqPyP_int : eqPyP (.int x) (.int y) = some (decide (x = y)) := by
  simp [eqPyP, toPyP, lay_int', PyData.eqv]
  rw [Bool.eq_iff_iff]
  simp
theorem eqPyP_str {x y : Str} (hx : PyData.strOk x = true) (hy : PyData.strOk y = true) : eqPyP (.str x) (.str y) = some (decide (x = y)) := by
  simp [eqPyP, toPyP, lay_str' hx, lay_str' hy, PyData.eqv]
  rw [Bool.eq_iff_iff]
  simp
theorem eqPyP_pair {a b c d : Int} : eqPyP (.tup [.int a, .int b]) (.tup [.int c, .int d]) = some (decide (a = c ∧ b = d)) := by
  have lay : ∀ a b : Int, SeqAt.shaped (.tuple [.int a, .int b]) = true := fun a b => by
    simp [SeqAt.shaped, PyData.canLay0, PyData.depth, PyData.canLayAll0, PyData.depthAll]
  simp [eqPyP, toPyP, toPysP, lay, PyData.eqv, PyData.eqvAll]
  rw [Bool.eq_iff_iff]
  simp
@[simp] theorem qEq_int : qEq (.int x) (.int y) = .ok (.bl (decide (x = y))) := by simp [qEq, eqPyP_int]
@[simp] theorem qNe_int : qNe (.int x) (.int y) = .ok (.bl (!decide (x = y))) := by simp [qNe, eqPyP_int]
@[simp] theorem neP_int {y : P} : neP cs (.int x) y = qNe (.int x) y := rfl
@[simp] theorem neP_str {x : Str} {y : P} : neP cs (.str x) y = qNe (.str x) y := rfl
@[simp] theorem neP_tup {x : List P} {y : P} : neP cs (.tup x) y = qNe (.tup x) y := rfl
@[simp] theorem neP_bl {x : Bool} {y : P} : neP cs (.bl x) y = qNe (.bl x) y := rfl
@[simp] theorem arithP_int {y : P} : arithP cs nm o (.int x) y = o (.int x) y := rfl
@[simp] theorem arithP_tup {x : List P} {y : P} : arithP cs nm o (.tup x) y = o (.tup x) y := rfl
@[simp] theorem arithP_lst {x : List P} {y : P} : arithP cs nm o (.lst x) y = o (.lst x) y := rfl
@[simp] theorem arithP_str {x : Str} {y : P} : arithP cs nm o (.str x) y = o (.str x) y := rfl
@[simp] theorem ownP_int {y : P} : ownP cs nm o (.int x) y = o (.int x) y := rfl
@[simp] theorem ownP_bl {x : Bool} {y : P} : ownP cs nm o (.bl x) y = o (.bl x) y := rfl
@[simp] theorem ownP_str {x : Str} {y : P} : ownP cs nm o (.str x) y = o (.str x) y := rfl
@[simp] theorem ownP_tup {x : List P} {y : P} : ownP cs nm o (.tup x) y = o (.tup x) y := rfl
@[simp] theorem ownP_lst {x : List P} {y : P} : ownP cs nm o (.lst x) y = o (.lst x) y := rfl
@[simp] theorem unOwnP_int {u : P → RP P} : unOwnP cs nm u (.int x) = u (.int x) := rfl
@[simp] theorem qEq_pair {a b c d : Int} : qEq (.tup [.int a, .int b]) (.tup [.int c, .int d]) = .ok (.bl (decide (a = c ∧ b = d))) := by simp [qEq, eqPyP_pair]
@[simp] theorem qNe_pair {a b c d : Int} : qNe (.tup [.int a, .int b]) (.tup [.int c, .int d]) = .ok (.bl (!decide (a = c ∧ b = d))) := by simp [qNe, eqPyP_pair]
theorem eqPyP_bl {a b : Bool} : eqPyP (.bl a) (.bl b) = some (a == b) := by cases a <;> cases b <;> decide +kernel
@[simp] theorem qEq_bl {a b : Bool} : qEq (.bl a) (.bl b) = .ok (.bl (a == b)) := by simp [qEq, eqPyP_bl]
@[simp] theorem qNe_bl {a b : Bool} : qNe (.bl a) (.bl b) = .ok (.bl (!(a == b))) := by simp [qNe, eqPyP_bl]
theorem qEq_str {x y : Str} (hx : PyData.strOk x = true) (hy : PyData.strOk y = true) : qEq (.str x) (.str y) = .ok (.bl (decide (x = y))) := by simp [qEq, eqPyP_str hx hy]
@[simp] theorem pAdd_int : pAdd (.int x) (.int y) = .ok (.int (x + y)) := rfl
@[simp] theorem pSub_int : pSub (.int x) (.int y) = .ok (.int (x - y)) := rfl
@[simp] theorem pNeg_int : pNeg (.int x) = .ok (.int (-x)) := rfl
@[simp] theorem cmpP_le : cmpP .LtE (.int x) (.int y) = .ok (.bl (decide (x ≤ y))) := rfl
@[simp] theorem cmpP_lt : cmpP .Lt (.int x) (.int y) = .ok (.bl (decide (x < y))) := rfl
@[simp] theorem cmpP_ge : cmpP .GtE (.int x) (.int y) = .ok (.bl (decide (y ≤ x))) := rfl
@[simp] theorem cmpP_gt : cmpP .Gt (.int x) (.int y) = .ok (.bl (decide (y < x))) := rfl
@[simp] theorem pIx_pair0 {a b : P} : pIx (.tup [a, b]) (.int 0) = .ok a := rfl
@[simp] theorem pIx_pair1 {a b : P} : pIx (.tup [a, b]) (.int 1) = .ok b := rfl
@[simp] theorem fAbs_int : fAbs [.int x] = .ok (.int x.natAbs) := by
  show RP.ok (P.int (if x < 0 then -x else x)) = _
  congr 2
  split <;> omega
/-- a number of at most k bits -/
def Sk (k : Nat) (x : Int) : Prop := x.natAbs < 2 ^ k
/-- a number of ordinary size -/
abbrev Sm (x : Int) : Prop := Sk 4000 x
theorem Sk.mono {k l : Nat} {x : Int} (h : Sk k x) (hl : k ≤ l) : Sk l x := Nat.lt_of_lt_of_le h (Nat.pow_le_pow_right (by decide) hl)
theorem Sk.mul {k l : Nat} {x y : Int} (hx : Sk k x) (hy : Sk l y) : Sk (k + l) (x * y) := by
  unfold Sk at *
  rw [Int.natAbs_mul, Nat.pow_add]
  exact Nat.mul_lt_mul'' hx hy
theorem Sk.add {k : Nat} {x y : Int} (hx : Sk k x) (hy : Sk k y) : Sk (k + 1) (x + y) := by
  unfold Sk at *
  rw [Nat.pow_succ]
  have := Int.natAbs_add_le x y
  omega
theorem Sk.neg {k : Nat} {x : Int} (hx : Sk k x) : Sk k (-x) := by
  unfold Sk at *
  rw [Int.natAbs_neg]
  exact hx
theorem Sk.ediv {k : Nat} {x y : Int} (hx : Sk k x) : Sk k (x / y) := Nat.lt_of_le_of_lt (Int.natAbs_ediv_le_natAbs x y) hx
theorem log_of {n k : Nat} (h : n < 2 ^ k) (hk : 0 < k) : n.log2 < k := by
  by_cases e : n = 0
  · subst e; simpa using hk
  · exact (Nat.log2_lt e).mpr h
theorem pMul_ok (hx : Sm x) (hy : Sm y) : pMul (.int x) (.int y) = .ok (.int (x * y)) := by
  have h1 := log_of (n := x.natAbs) (k := 4000) hx (by decide)
  have h2 := log_of (n := y.natAbs) (k := 4000) hy (by decide)
  show (if x.natAbs.log2 + y.natAbs.log2 < 1000000 then _ else _) = _
  rw [if_pos (by omega)]
theorem pFdiv_ok (hp : 0 < y) (hy : Sm y) : pFdiv (.int x) (.int y) = .ok (.int (x / y)) := by
  have h2 := log_of (n := y.natAbs) (k := 4000) hy (by decide)
  show (if 0 < y ∧ y.natAbs.log2 < 9000 then _ else _) = _
  rw [if_pos ⟨hp, by omega⟩]
theorem pMod_ok (hp : 0 < y) : pMod (.int x) (.int y) = .ok (.int (x % y)) := by
  show (if 0 < y then _ else _) = _
  rw [if_pos hp]
end
end Mi

namespace Lw
open PySem Mi
/-! ### pairs -/
theorem gcd_mod (x y : Int) (hx : 0 ≤ x) (hy : 0 < y) : Int.gcd y (x % y) = Int.gcd x y := by
  rw [Int.gcd_comm x y, Int.gcd_comm y (x % y)]
  simp [Int.gcd_comm, Int.emod_def, Int.gcd_sub_mul_right_right]
theorem common_loop : ∀ (n : Nat) (x y : Int), 0 ≤ x → 0 ≤ y → y.natAbs < n →
    uWh (qE (pBin (neP csP0) (pVar 1) (pLit (.int 0)))) lp_common_0 n [some (.int x), some (.int y)] = .nx [some (.int (Int.gcd x y)), some (.int 0)]
  | 0, x, y, _, _, hn => by omega
  | n + 1, x, y, hx, hy, hn => by
    unfold uWh
    by_cases e : y = 0
    · subst e
      simp [Int.natAbs_of_nonneg hx]
    · have hy' : 0 < y := by omega
      have hm := Int.emod_nonneg x e
      have hl := Int.emod_lt_of_pos x hy'
      have := common_loop n y (x % y) hy hm (by omega)
      rw [gcd_mod x y hx hy'] at this
      simp [e, pMod_ok hy', this, show ∀ δ, lp_common_0 δ = (uSeq (uPar [0, 1] (pCons (pVar 1) (pCons (pBin (pMod) (pVar 0) (pVar 1)) pNil))) uNil) δ from fun _ => rfl]
theorem common_eq (x y : Int) : sp_common [.int x, .int y] = .ok (.int (Int.gcd x y)) := by
  have key := common_loop (([some (.int x.natAbs), some (.int y.natAbs)] : Dp).foldl (fun a d => match d with
    | some (.int i) => a + i.natAbs
    | _ => a) 1000 + 1) x.natAbs y.natAbs (by omega) (by omega) (by simp; omega)
  simp only [sp_common, pDef, bp_common, startP]
  simp [uWhile] at key ⊢
  rw [key]
  simp [Int.gcd]
/-- in lowest terms -/
def low (p : Int × Int) : Int × Int := (p.1 / (Int.gcd p.1 p.2 : Nat), p.2 / (Int.gcd p.1 p.2 : Nat))
abbrev dP (p : Int × Int) : P := .tup [.int p.1, .int p.2]
theorem gcd_sm {a b : Int} (hb : Sm b) (h0 : b ≠ 0) : Sm (Int.gcd a b : Nat) ∧ 0 < ((Int.gcd a b : Nat) : Int) := by
  have h1 : 0 < b.natAbs := by omega
  have hd : Int.gcd a b ≤ b.natAbs := Nat.gcd_le_right a.natAbs h1
  have hp : 0 < Int.gcd a b := Nat.gcd_pos_of_pos_right a.natAbs h1
  exact ⟨Nat.lt_of_le_of_lt (show (Int.gcd a b : Nat) ≤ b.natAbs from hd) hb, by omega⟩
theorem lowest_eq (a b : Int) (hb : Sm b) (h0 : b ≠ 0) : sp_lowest [.tup [.int a, .int b]] = .ok (dP (low (a, b))) := by
  obtain ⟨h1, h2⟩ := gcd_sm (a := a) hb h0
  simp [sp_lowest, pDef, bp_lowest, startP, common_eq, pFdiv_ok h2 h1, maxLen, low]
def mul (p q : Int × Int) : Int × Int := low (p.1 * q.1, p.2 * q.2)
def add (p q : Int × Int) : Int × Int := low (p.1 * q.2 + q.1 * p.2, p.2 * q.2)
def SP (p : Int × Int) : Prop := Sk 900 p.1 ∧ Sk 900 p.2 ∧ 0 < p.2
theorem multiplied_eq (p q : Int × Int) (hp : SP p) (hq : SP q) : sp_multiplied [dP p, dP q] = .ok (dP (mul p q)) := by
  obtain ⟨p1, p2, p3⟩ := hp
  obtain ⟨q1, q2, q3⟩ := hq
  have e1 := lowest_eq (p.1 * q.1) (p.2 * q.2) ((p2.mul q2).mono (by decide)) (by have := Int.mul_pos p3 q3; omega)
  simp [sp_multiplied, pDef, bp_multiplied, startP, maxLen, pMul_ok (p1.mono (by decide) : Sm p.1) (q1.mono (by decide) : Sm q.1), pMul_ok (p2.mono (by decide) : Sm p.2) (q2.mono (by decide) : Sm q.2), e1, mul]
theorem added_eq (p q : Int × Int) (hp : SP p) (hq : SP q) : sp_added [dP p, dP q] = .ok (dP (add p q)) := by
  obtain ⟨p1, p2, p3⟩ := hp
  obtain ⟨q1, q2, q3⟩ := hq
  have e1 := lowest_eq (p.1 * q.2 + q.1 * p.2) (p.2 * q.2) ((p2.mul q2).mono (by decide)) (by have := Int.mul_pos p3 q3; omega)
  simp [sp_added, pDef, bp_added, startP, maxLen, pMul_ok (p1.mono (by decide) : Sm p.1) (q2.mono (by decide) : Sm q.2), pMul_ok (q1.mono (by decide) : Sm q.1) (p2.mono (by decide) : Sm p.2), pMul_ok (p2.mono (by decide) : Sm p.2) (q2.mono (by decide) : Sm q.2), e1, add]
theorem is_integer_eq (i : Int) : sp_is_integer [.int i] = .ok (.bl true) := by
  simp [sp_is_integer, pDef, bp_is_integer, startP, isP, tgP, tgs, tagB, isSubT]
def turn (p : Int × Int) : Int × Int := if 0 < p.1 then (p.2, p.1) else (-p.2, -p.1)
theorem turned_eq (p : Int × Int) : sp_turned [dP p] = .ok (dP (turn p)) := by
  by_cases e : 0 < p.1 <;>
  simp [sp_turned, pDef, bp_turned, startP, maxLen, turn, e]
theorem floor_eq (p : Int × Int) (hp : SP p) : sp_floor_of [dP p] = .ok (.int (p.1 / p.2)) := by
  obtain ⟨p1, p2, p3⟩ := hp
  simp [sp_floor_of, pDef, bp_floor_of, startP, pFdiv_ok p3 (p2.mono (by decide))]
/-! ### Ratios -/
abbrev oR (p : Int × Int) : P := .obj 0 [("pair", dP p)]
theorem tgR {p : Int × Int} : tgP (oR p) = some (.c 0) := rfl
theorem isRatio (p : Int × Int) : isP subs tgs [.c 0] (oR p) = .ok (.bl true) := by
  simp [isP, tgR, tgs, tagB, ids, isSubT]
theorem ratio_new (a b : Int) (hb : 0 < b) (hs : Sm b) : ep_Ratio [.int a, .int b] = .ok (oR (low (a, b))) := by
  have e1 := lowest_eq a b hs (by omega)
  have hb1 : ¬ b < 1 := by omega
  simp [ep_Ratio, mkP, ep_Ratio_init, callIni, sp_Ratio_init, pInit, bp_Ratio_init, startP, is_integer_eq, hb1, maxLen, e1, uFld, csP0, putP]
theorem ratio_new1 (a : Int) : ep_Ratio [.int a] = .ok (oR (low (a, 1))) := by
  have e1 := ratio_new a 1 (by decide) ((show Sk 2 1 from by unfold Sk; decide).mono (by decide))
  simpa [ep_Ratio, mkP, ep_Ratio_init, callIni] using e1
theorem pair0 {p : Int × Int} : attrP csP0 "pair" (oR p) = .ok (dP p) := by
  simp [attrP, csP0]
theorem pair_of_eq {p : Int × Int} : sp_pair_of [oR p] = .ok (dP p) := by
  simp [sp_pair_of, pDef, bp_pair_of, startP, isRatio, pair0]
theorem ratio_of_eq (p : Int × Int) (hb : 0 < p.2) (hs : Sm p.2) : sp_ratio_of [dP p] = .ok (oR (low p)) := by
  simp [sp_ratio_of, pDef, bp_ratio_of, startP, ratio_new p.1 p.2 hb hs]
theorem low_sk {k : Nat} {a b : Int} (ha : Sk k a) (hb : Sk k b) : Sk k (low (a, b)).1 ∧ Sk k (low (a, b)).2 := ⟨ha.ediv, hb.ediv⟩
theorem low_pos {a b : Int} (hb : 0 < b) : 0 < (low (a, b)).2 := by
  have hd : ((Int.gcd a b : Nat) : Int) ∣ b := Int.gcd_dvd_right ..
  have hp : 0 < ((Int.gcd a b : Nat) : Int) := by
    have := Int.gcd_pos_of_ne_zero_right a (show b ≠ 0 by omega)
    omega
  exact Int.ediv_pos_of_pos_of_dvd hb (by omega) hd
/-! ### fractions -/
/-- p is a / b in lowest terms -/
structure Fr (p : Int × Int) (a b : Int) : Prop where
  pos : 0 < p.2
  co : Int.gcd p.1 p.2 = 1
  eq : p.1 * b = a * p.2
theorem low_fr {a b : Int} (hb : 0 < b) : Fr (low (a, b)) a b := by
  have h1 : ((Int.gcd a b : Nat) : Int) ∣ a := Int.gcd_dvd_left ..
  have h2 : ((Int.gcd a b : Nat) : Int) ∣ b := Int.gcd_dvd_right ..
  have hp0 : 0 < Int.gcd a b := Int.gcd_pos_of_ne_zero_right a (by omega)
  have hp : 0 < ((Int.gcd a b : Nat) : Int) := by omega
  refine ⟨Int.ediv_pos_of_pos_of_dvd hb (by omega) h2, Int.gcd_ediv_gcd_ediv_gcd hp0, ?_⟩
  show a / (Int.gcd a b : Nat) * b = a * (b / (Int.gcd a b : Nat))
  rw [← Int.mul_ediv_assoc _ h2, Int.mul_ediv_assoc' _ h1]
theorem dvd_co {a b c : Int} (h : a ∣ b * c) (hc : Int.gcd a b = 1) : a ∣ c := by
  have h' : a.natAbs ∣ b.natAbs * c.natAbs := by rw [← Int.natAbs_mul]; exact Int.natAbs_dvd_natAbs.mpr h
  exact Int.natAbs_dvd_natAbs.mp (Nat.Coprime.dvd_of_dvd_mul_left hc h')
/-- of two, equal values are equal pairs -/
theorem Fr.same {p q : Int × Int} {a b c d : Int} (hp : Fr p a b) (hq : Fr q c d) (hb : 0 < b) (hd : 0 < d) (e : a * d = c * b) : p = q := by
  have h1 : p.1 * q.2 = q.1 * p.2 := by
    have e1 := hp.eq
    have e2 := hq.eq
    have : (p.1 * q.2) * (b * d) = (q.1 * p.2) * (b * d) := by
      calc (p.1 * q.2) * (b * d) = (p.1 * b) * (q.2 * d) := by ac_rfl
        _ = (a * p.2) * (q.2 * d) := by rw [e1]
        _ = (a * d) * (p.2 * q.2) := by ac_rfl
        _ = (c * b) * (p.2 * q.2) := by rw [e]
        _ = (c * q.2) * (p.2 * b) := by ac_rfl
        _ = (q.1 * d) * (p.2 * b) := by rw [e2]
        _ = (q.1 * p.2) * (b * d) := by ac_rfl
    exact Int.eq_of_mul_eq_mul_right (by have := Int.mul_pos hb hd; omega) this
  have d1 : p.2 ∣ q.2 := by
    have : p.2 ∣ p.1 * q.2 := ⟨q.1, by rw [h1]; ac_rfl⟩
    exact dvd_co this (by rw [Int.gcd_comm]; exact hp.co)
  have d2 : q.2 ∣ p.2 := by
    have : q.2 ∣ q.1 * p.2 := ⟨p.1, by rw [← h1]; ac_rfl⟩
    exact dvd_co this (by rw [Int.gcd_comm]; exact hq.co)
  have e2 : p.2 = q.2 := Int.dvd_antisymm (Int.le_of_lt hp.pos) (Int.le_of_lt hq.pos) d1 d2
  have e1 : p.1 = q.1 := by
    rw [← e2] at h1
    exact Int.eq_of_mul_eq_mul_right (by have := hp.pos; omega) h1
  exact Prod.ext e1 e2
theorem Fr.self {p : Int × Int} {a b : Int} (h : Fr p a b) : Fr p p.1 p.2 := ⟨h.pos, h.co, rfl⟩
/-- what is in lowest terms stays -/
theorem low_id {p : Int × Int} (h : Int.gcd p.1 p.2 = 1) : low p = p := by
  unfold low
  rw [h]
  simp
def neg (p : Int × Int) : Int × Int := (-p.1, p.2)
theorem neg_co {p : Int × Int} (h : Int.gcd p.1 p.2 = 1) : Int.gcd (neg p).1 (neg p).2 = 1 := by
  show Int.gcd (-p.1) p.2 = 1
  rw [Int.neg_gcd]; exact h
/-! ### Ratios: the operators (in lowest terms) -/
def Lo (p : Int × Int) : Prop := 0 < p.2 ∧ Int.gcd p.1 p.2 = 1
theorem Fr.lo {p : Int × Int} {a b : Int} (h : Fr p a b) : Lo p := ⟨h.pos, h.co⟩
theorem low_lo {a b : Int} (hb : 0 < b) : Lo (low (a, b)) := (low_fr hb).lo
theorem add_lo {p q : Int × Int} (hp : 0 < p.2) (hq : 0 < q.2) : Lo (add p q) := low_lo (Int.mul_pos hp hq)
theorem mul_lo {p q : Int × Int} (hp : 0 < p.2) (hq : 0 < q.2) : Lo (mul p q) := low_lo (Int.mul_pos hp hq)
theorem neg_lo {p : Int × Int} (h : Lo p) : Lo (neg p) := ⟨h.1, neg_co h.2⟩
theorem R_add {p q : Int × Int} (hp : SP p) (hq : SP q) : sp_Ratio_add [oR p, oR q] = .ok (oR (add p q)) := by
  have e1 := added_eq p q hp hq
  have hl := add_lo hp.2.2 hq.2.2
  have hs : Sm (add p q).2 := ((hp.2.1.mul hq.2.1).ediv).mono (by decide)
  have e2 := ratio_of_eq (add p q) hl.1 hs
  rw [low_id hl.2] at e2
  simp [sp_Ratio_add, pDef, bp_Ratio_add, startP, pair0, pair_of_eq, e1, e2]
theorem R_mul {p q : Int × Int} (hp : SP p) (hq : SP q) : sp_Ratio_mul [oR p, oR q] = .ok (oR (mul p q)) := by
  have e1 := multiplied_eq p q hp hq
  have hl := mul_lo hp.2.2 hq.2.2
  have hs : Sm (mul p q).2 := ((hp.2.1.mul hq.2.1).ediv).mono (by decide)
  have e2 := ratio_of_eq (mul p q) hl.1 hs
  rw [low_id hl.2] at e2
  simp [sp_Ratio_mul, pDef, bp_Ratio_mul, startP, pair0, pair_of_eq, e1, e2]
theorem R_sub {p q : Int × Int} (hp : SP p) (hq : SP q) : sp_Ratio_sub [oR p, oR q] = .ok (oR (add p (neg q))) := by
  have e1 := added_eq p (neg q) hp ⟨hq.1.neg, hq.2⟩
  have hl : Lo (add p (neg q)) := add_lo hp.2.2 hq.2.2
  have hs : Sm (add p (neg q)).2 := ((hp.2.1.mul hq.2.1).ediv).mono (by decide)
  have e2 := ratio_of_eq (add p (neg q)) hl.1 hs
  rw [low_id hl.2] at e2
  generalize add p (neg q) = r at e1 e2 ⊢
  simp only [dP, neg] at e1
  simp [sp_Ratio_sub, pDef, bp_Ratio_sub, startP, maxLen, pair0, pair_of_eq, e1, e2]
theorem R_neg {p : Int × Int} (hp : SP p) (hl : Lo p) : sp_Ratio_neg [oR p] = .ok (oR (neg p)) := by
  have e2 := ratio_of_eq (neg p) hp.2.2 (hp.2.1.mono (by decide))
  rw [low_id (neg_co hl.2)] at e2
  simp only [dP, neg] at e2
  simp [sp_Ratio_neg, pDef, bp_Ratio_neg, startP, maxLen, pair0, e2, neg]
theorem R_le {p q : Int × Int} (hp : SP p) (hq : SP q) : sp_Ratio_le [oR p, oR q] = .ok (.bl (decide (p.1 * q.2 ≤ q.1 * p.2))) := by
  obtain ⟨p1, p2, p3⟩ := hp
  obtain ⟨q1, q2, q3⟩ := hq
  simp [sp_Ratio_le, pDef, bp_Ratio_le, startP, pair0, pair_of_eq, pMul_ok (p1.mono (by decide) : Sm p.1) (q2.mono (by decide) : Sm q.2), pMul_ok (q1.mono (by decide) : Sm q.1) (p2.mono (by decide) : Sm p.2)]
theorem R_eq {p q : Int × Int} : sp_Ratio_eq [oR p, oR q] = .ok (.bl (decide (p = q))) := by
  simp [sp_Ratio_eq, pDef, bp_Ratio_eq, startP, isRatio, pair0, Prod.ext_iff]
theorem R_top {p : Int × Int} : sp_Ratio_top [oR p] = .ok (.int p.1) := by
  simp [sp_Ratio_top, pDef, bp_Ratio_top, startP, pair0]
theorem R_bottom {p : Int × Int} : sp_Ratio_bottom [oR p] = .ok (.int p.2) := by
  simp [sp_Ratio_bottom, pDef, bp_Ratio_bottom, startP, pair0]
/-! ### rounding -/
inductive Md where
  | down | up | half | even
  deriving DecidableEq
def Md.s : Md → Str
  | .down => "down"
  | .up => "up"
  | .half => "half"
  | .even => "even"
theorem Md.ok : ∀ m : Md, PyData.strOk m.s = true
  | .down => by decide +kernel
  | .up => by decide +kernel
  | .half => by decide +kernel
  | .even => by decide +kernel
theorem Md.inj : ∀ m n : Md, decide (m.s = n.s) = decide (m = n)
  | .down, .down => by decide +kernel
  | .down, .up => by decide +kernel
  | .down, .half => by decide +kernel
  | .down, .even => by decide +kernel
  | .up, .down => by decide +kernel
  | .up, .up => by decide +kernel
  | .up, .half => by decide +kernel
  | .up, .even => by decide +kernel
  | .half, .down => by decide +kernel
  | .half, .up => by decide +kernel
  | .half, .half => by decide +kernel
  | .half, .even => by decide +kernel
  | .even, .down => by decide +kernel
  | .even, .up => by decide +kernel
  | .even, .half => by decide +kernel
  | .even, .even => by decide +kernel
theorem md_eq (m n : Md) : qEq (.str m.s) (.str n.s) = .ok (.bl (decide (m = n))) := by
  rw [qEq_str m.ok n.ok, Md.inj]
theorem md_ne (m n : Md) : qNe (.str m.s) (.str n.s) = .ok (.bl (!decide (m = n))) := by
  simp [qNe, eqPyP_str m.ok n.ok, Md.inj]
def rndR (b : Int) (r : Int × Int) (m : Md) : Int :=
  if r.1 = 0 ∨ m = .down then b else if m = .up then b + 1 else if 2 * r.1 - r.2 ≠ 0 then (if 0 < 2 * r.1 - r.2 then b + 1 else b) else if m = .half ∨ b % 2 = 1 then b + 1 else b
def rnd (p : Int × Int) (m : Md) : Int := rndR (p.1 / p.2) (add p (-(p.1 / p.2), 1)) m
theorem sk_one {k : Nat} : Sk (k + 1) 1 := by
  unfold Sk
  show 1 < 2 ^ (k + 1)
  exact Nat.one_lt_two_pow (by omega)
theorem rounded_eq (p : Int × Int) (m : Md) (hp : SP p) : sp_rounded [dP p, .str m.s] = .ok (.int (rnd p m)) := by
  have e1 := floor_eq p hp
  have e2 := added_eq p (-(p.1 / p.2), 1) hp ⟨hp.1.ediv.neg, sk_one, Int.one_pos⟩
  have k1 : qEq (.str m.s) (.str "down") = .ok (.bl (decide (m = .down))) := md_eq m .down
  have k2 : qEq (.str m.s) (.str "up") = .ok (.bl (decide (m = .up))) := md_eq m .up
  have k3 : qEq (.str m.s) (.str "half") = .ok (.bl (decide (m = .half))) := md_eq m .half
  have hr : Sm (add p (-(p.1 / p.2), 1)).1 := by
    have a1 : Sk (900 + 900) (p.1 * 1) := hp.1.mul (sk_one (k := 899))
    have a2 : Sk (900 + 900) (-(p.1 / p.2) * p.2) := hp.1.ediv.neg.mul hp.2.1
    exact ((a1.add a2).ediv).mono (by omega)
  have h2 : Sm 2 := (show Sk 2 2 from by unfold Sk; decide).mono (by decide)
  unfold rnd
  generalize add p (-(p.1 / p.2), 1) = r at e2 hr ⊢
  unfold rndR
  simp only [dP] at e2
  generalize m.s = ms at k1 k2 k3 ⊢
  have e3 := pMul_ok h2 hr
  have hm : ∀ x : Int, pMod (.int x) (.int 2) = .ok (.int (x % 2)) := fun x => pMod_ok (by decide)
  by_cases c1 : r.1 = 0
  · simp [sp_rounded, pDef, bp_rounded, startP, e1, maxLen, e2, c1]
  · by_cases c2 : m = .down
    · simp [sp_rounded, pDef, bp_rounded, startP, e1, maxLen, e2, c1, k1, c2]
    · by_cases c3 : m = .up
      · simp [sp_rounded, pDef, bp_rounded, startP, e1, maxLen, e2, c1, k1, c2, k2, c3]
      · by_cases c4 : 2 * r.1 - r.2 = 0
        · by_cases c5 : m = .half
          · simp [sp_rounded, pDef, bp_rounded, startP, e1, maxLen, e2, c1, k1, c2, k2, c3, e3, c4, k3, c5]
          · by_cases c6 : p.1 / p.2 % 2 = 1 <;>
            simp [sp_rounded, pDef, bp_rounded, startP, e1, maxLen, e2, c1, k1, c2, k2, c3, e3, c4, k3, c5, hm, c6]
        · by_cases c5 : r.2 < 2 * r.1 <;>
          simp [sp_rounded, pDef, bp_rounded, startP, e1, maxLen, e2, c1, k1, c2, k2, c3, e3, c4, c5]
/-! ### sizes -/
def Sq (k : Nat) (p : Int × Int) : Prop := Sk k p.1 ∧ Sk k p.2 ∧ 0 < p.2
theorem Sq.sp {k : Nat} {p : Int × Int} (h : Sq k p) (hk : k ≤ 900) : SP p := ⟨h.1.mono hk, h.2.1.mono hk, h.2.2⟩
theorem Sq.mono {k l : Nat} {p : Int × Int} (h : Sq k p) (hk : k ≤ l) : Sq l p := ⟨h.1.mono hk, h.2.1.mono hk, h.2.2⟩
theorem low_sq {k : Nat} {a b : Int} (ha : Sk k a) (hb : Sk k b) (h0 : 0 < b) : Sq k (low (a, b)) := ⟨(low_sk ha hb).1, (low_sk ha hb).2, low_pos h0⟩
theorem mul_sq {k l : Nat} {p q : Int × Int} (hp : Sq k p) (hq : Sq l q) : Sq (k + l) (mul p q) := low_sq (hp.1.mul hq.1) (hp.2.1.mul hq.2.1) (Int.mul_pos hp.2.2 hq.2.2)
theorem add_sq {k l : Nat} {p q : Int × Int} (hp : Sq k p) (hq : Sq l q) : Sq (k + l + 1) (add p q) := low_sq (((hp.1.mul hq.2.1)).add ((hq.1.mul hp.2.1).mono (by omega))) ((hp.2.1.mul hq.2.1).mono (by omega)) (Int.mul_pos hp.2.2 hq.2.2)
theorem neg_sq {k : Nat} {p : Int × Int} (hp : Sq k p) : Sq k (neg p) := ⟨hp.1.neg, hp.2⟩
/-! ### what a step does -/
theorem str_eq {x y : Str} (hx : PyData.strOk x = true) (hy : PyData.strOk y = true) {b : Bool} (e : decide (x = y) = b) : qEq (.str x) (.str y) = .ok (.bl b) := by
  rw [qEq_str hx hy, e]
@[simp] theorem w11 : qEq (.str "scale") (.str "scale") = .ok (.bl true) := str_eq (by decide +kernel) (by decide +kernel) (by decide +kernel)
@[simp] theorem w21 : qEq (.str "shift") (.str "scale") = .ok (.bl false) := str_eq (by decide +kernel) (by decide +kernel) (by decide +kernel)
@[simp] theorem w22 : qEq (.str "shift") (.str "shift") = .ok (.bl true) := str_eq (by decide +kernel) (by decide +kernel) (by decide +kernel)
@[simp] theorem w31 : qEq (.str "round") (.str "scale") = .ok (.bl false) := str_eq (by decide +kernel) (by decide +kernel) (by decide +kernel)
@[simp] theorem w32 : qEq (.str "round") (.str "shift") = .ok (.bl false) := str_eq (by decide +kernel) (by decide +kernel) (by decide +kernel)
theorem done_scale (p n : Int × Int) (r : P) (hp : SP p) (hn : SP n) : sp_done [.str "scale", dP n, r, dP p] = .ok (dP (mul p n)) := by
  simp [sp_done, pDef, bp_done, startP, multiplied_eq p n hp hn]
theorem done_shift (p n : Int × Int) (r : P) (hp : SP p) (hn : SP n) : sp_done [.str "shift", dP n, r, dP p] = .ok (dP (add p n)) := by
  simp [sp_done, pDef, bp_done, startP, added_eq p n hp hn]
def rd (p n : Int × Int) (m : Md) : Int × Int := mul (rnd (mul p (turn n)) m, 1) n
theorem turn_sq {k : Nat} {n : Int × Int} (hn : Sq k n) (h0 : 0 < n.1) : Sq k (turn n) := by
  unfold turn
  rw [if_pos h0]
  exact ⟨hn.2.1, hn.1, h0⟩
theorem rnd_sk {k : Nat} {p : Int × Int} (m : Md) (hp : Sq (k + 1) p) : Sk (k + 2) (rnd p m) := by
  have h1 : Sk (k + 1) (p.1 / p.2) := hp.1.ediv
  have h2 : Sk (k + 1 + 1) (p.1 / p.2 + 1) := h1.add sk_one
  have h3 : Sk (k + 1 + 1) (p.1 / p.2) := h1.mono (by omega)
  unfold rnd rndR
  split
  · exact h3
  · split
    · exact h2
    · split
      · split
        · exact h2
        · exact h3
      · split
        · exact h2
        · exact h3
theorem done_round {k l : Nat} (p n : Int × Int) (m : Md) (hp : Sq (k + 1) p) (hn : Sq l n) (h0 : 0 < n.1) (hk : k + l + 3 ≤ 900) : sp_done [.str "round", dP n, .str m.s, dP p] = .ok (dP (rd p n m)) := by
  have e1 := turned_eq n
  have q1 := mul_sq hp (turn_sq hn h0)
  have e2 := multiplied_eq p (turn n) (hp.sp (by omega)) ((turn_sq hn h0).sp (by omega))
  have e3 := rounded_eq (mul p (turn n)) m (q1.sp (by omega))
  have q2 : Sk (k + l + 2) (rnd (mul p (turn n)) m) := rnd_sk m (q1.mono (show k + 1 + l ≤ k + l + 1 by omega))
  have e4 := multiplied_eq (rnd (mul p (turn n)) m, 1) n ⟨q2.mono (by omega), sk_one (k := 899), Int.one_pos⟩ (hn.sp (by omega))
  unfold rd
  generalize mul p (turn n) = a at e2 e3 e4 ⊢
  generalize turn n = b at e1 e2
  generalize rnd a m = c at e3 e4 ⊢
  generalize m.s = ms at e3 ⊢
  simp only [dP] at e4
  simp [sp_done, pDef, bp_done, startP, e1, e2, e3, maxLen, e4]
/-! ### steps -/
theorem small_eq {p : Int × Int} (h1 : p.1.natAbs ≤ 99) (h2 : p.2 ≤ 99) : sp_is_small [oR p] = .ok (.bl true) := by
  have h3 : (p.1.natAbs : Int) ≤ 99 := by omega
  simp [sp_is_small, pDef, bp_is_small, startP, isRatio, pair0, vp_MOST, h2, h3]
abbrev oS (c : Nat) (n : Int × Int) (r : P) : P := .obj c [("number", dP n), ("rule", r)]
theorem ne_nr : ¬ ("number" : Str) = "rule" := by decide +kernel
theorem step_init {c : Nat} (n : Int × Int) (r : P) (hc : c = 1 ∨ c = 2 ∨ c = 3 ∨ c = 4) : sp_Step_init (.obj c []) [dP n, r] = .ok (oS c n r) := by
  rcases hc with rfl | rfl | rfl | rfl <;>
  simp [sp_Step_init, pInit, bp_Step_init, startP, uFld, csP0, putP, ne_nr]
/-- a unit, a factor: small parts -/
def Small (p : Int × Int) : Prop := p.1.natAbs ≤ 99 ∧ p.2 ≤ 99
theorem scale_new {p : Int × Int} (hs : Small p) (h0 : p.1 ≠ 0) : ep_Scale [oR p] = .ok (oS 2 p .non) := by
  have e1 := small_eq hs.1 hs.2
  have e3 := step_init p .non (c := 2) (by decide)
  simp [ep_Scale, mkP, sp_Scale_init, pInit, bp_Scale_init, startP, e1, pair0, h0, uSuper, e3]
theorem shift_new {p : Int × Int} (hs : Small p) : ep_Shift [oR p] = .ok (oS 3 p .non) := by
  have e1 := small_eq hs.1 hs.2
  have e3 := step_init p .non (c := 3) (by decide)
  simp [ep_Shift, mkP, sp_Shift_init, pInit, bp_Shift_init, startP, e1, pair0, uSuper, e3]
theorem mode_in : ∀ m : Md, isInP (.str m.s) vp_MODES = some true
  | .down => by decide +kernel
  | .up => by decide +kernel
  | .half => by decide +kernel
  | .even => by decide +kernel
theorem round_new {p : Int × Int} (m : Md) (hs : Small p) (h0 : 0 < p.1) : ep_Round [oR p, .str m.s] = .ok (oS 4 p (.str m.s)) := by
  have e1 := small_eq hs.1 hs.2
  have e3 := step_init p (.str m.s) (c := 4) (by decide)
  have e4 : cmpP .NotIn (.str m.s) vp_MODES = .ok (.bl false) := by simp [cmpP, qNotIn, mode_in m]
  have h1 : ¬ p.1 ≤ 0 := by omega
  generalize m.s = ms at e3 e4 ⊢
  simp [ep_Round, mkP, ep_Round_init, callIni, sp_Round_init, pInit, bp_Round_init, startP, e1, pair0, h1, uSuper, e3, e4, isP, tgP, tgs, tagB, isSubT]
theorem round_new1 {p : Int × Int} (hs : Small p) (h0 : 0 < p.1) : ep_Round [oR p] = .ok (oS 4 p (.str Md.half.s)) := by
  have := round_new .half hs h0
  simpa [ep_Round, mkP, ep_Round_init, callIni, Md.s] using this
end Lw

namespace Lw
open PySem Mi
/-! ### fractions: mathematics -/
theorem pos_l {x y : Int} (h : 0 < x * y) (hy : 0 < y) : 0 < x := by
  have h : 0 * y < x * y := by rw [Int.zero_mul]; exact h
  exact Int.lt_of_mul_lt_mul_right h (Int.le_of_lt hy)
theorem Fr.conv {p : Int × Int} {A B A' B' : Int} (h : Fr p A B) (hB : 0 < B) (e : A * B' = A' * B) : Fr p A' B' := by
  refine ⟨h.pos, h.co, ?_⟩
  have e1 := h.eq
  have : (p.1 * B') * B = (A' * p.2) * B := by grind
  exact Int.eq_of_mul_eq_mul_right (by omega) this
theorem Fr.add {p q : Int × Int} {a b c d : Int} (hp : Fr p a b) (hq : Fr q c d) : Fr (Lw.add p q) (a * d + c * b) (b * d) := by
  have h := low_fr (a := p.1 * q.2 + q.1 * p.2) (b := p.2 * q.2) (Int.mul_pos hp.pos hq.pos)
  have e1 := hp.eq
  have e2 := hq.eq
  exact h.conv (Int.mul_pos hp.pos hq.pos) (by grind)
theorem Fr.mul {p q : Int × Int} {a b c d : Int} (hp : Fr p a b) (hq : Fr q c d) : Fr (Lw.mul p q) (a * c) (b * d) := by
  have h := low_fr (a := p.1 * q.1) (b := p.2 * q.2) (Int.mul_pos hp.pos hq.pos)
  have e1 := hp.eq
  have e2 := hq.eq
  exact h.conv (Int.mul_pos hp.pos hq.pos) (by grind)
theorem Fr.neg {p : Int × Int} {a b : Int} (hp : Fr p a b) : Fr (Lw.neg p) (-a) b := ⟨hp.pos, neg_co hp.co, by
  have e1 := hp.eq
  show -p.1 * b = -a * p.2
  grind⟩
theorem Fr.sub {p q : Int × Int} {a b c d : Int} (hp : Fr p a b) (hq : Fr q c d) : Fr (Lw.add p (Lw.neg q)) (a * d - c * b) (b * d) := by
  have h := hp.add hq.neg
  have e : a * d - c * b = a * d + -c * b := by grind
  rw [e]; exact h
theorem Fr.int (i : Int) : Fr (i, 1) i 1 := ⟨Int.one_pos, by simp, rfl⟩
theorem Fr.turn {p : Int × Int} {a b : Int} (hp : Fr p a b) (h0 : p.1 ≠ 0) (hb : 0 < b) : Fr (Lw.turn p) (if 0 < a then b else -b) (if 0 < a then a else -a) := by
  have e1 := hp.eq
  have hp2 := hp.pos
  have hs : 0 < p.1 ↔ 0 < a := by
    constructor
    · intro h
      have : 0 < a * p.2 := by rw [← e1]; exact Int.mul_pos h hb
      exact pos_l this hp2
    · intro h
      have : 0 < p.1 * b := by rw [e1]; exact Int.mul_pos h hp2
      exact pos_l this hb
  unfold Lw.turn
  by_cases h : 0 < p.1
  · rw [if_pos h, if_pos (hs.mp h), if_pos (hs.mp h)]
    refine ⟨h, by rw [Int.gcd_comm]; exact hp.co, ?_⟩
    show p.2 * a = b * p.1
    grind
  · rw [if_neg h, if_neg (fun z => h (hs.mpr z)), if_neg (fun z => h (hs.mpr z))]
    refine ⟨?_, ?_, ?_⟩
    · show 0 < -p.1; omega
    · show Int.gcd (-p.2) (-p.1) = 1
      rw [Int.neg_gcd, Int.gcd_neg, Int.gcd_comm]; exact hp.co
    · show -p.2 * -a = -b * -p.1
      grind
theorem Fr.le {p q : Int × Int} {a b c d : Int} (hp : Fr p a b) (hq : Fr q c d) (hb : 0 < b) (hd : 0 < d) : (p.1 * q.2 ≤ q.1 * p.2) ↔ (a * d ≤ c * b) := by
  have e1 := hp.eq
  have e2 := hq.eq
  have h1 : 0 < b * d := Int.mul_pos hb hd
  have h2 : 0 < p.2 * q.2 := Int.mul_pos hp.pos hq.pos
  have k1 : (p.1 * q.2) * (b * d) = (a * d) * (p.2 * q.2) := by grind
  have k2 : (q.1 * p.2) * (b * d) = (c * b) * (p.2 * q.2) := by grind
  constructor
  · intro h
    have := Int.mul_le_mul_of_nonneg_right h (Int.le_of_lt h1)
    rw [k1, k2] at this
    exact Int.le_of_mul_le_mul_right this h2
  · intro h
    have := Int.mul_le_mul_of_nonneg_right h (Int.le_of_lt h2)
    rw [← k1, ← k2] at this
    exact Int.le_of_mul_le_mul_right this h1
theorem Fr.eq_iff {p q : Int × Int} {a b c d : Int} (hp : Fr p a b) (hq : Fr q c d) (hb : 0 < b) (hd : 0 < d) : p = q ↔ a * d = c * b := by
  constructor
  · intro e
    subst e
    have e1 := hp.eq
    have e2 := hq.eq
    have : (a * d) * p.2 = (c * b) * p.2 := by grind
    exact Int.eq_of_mul_eq_mul_right (by have := hp.pos; omega) this
  · exact hp.same hq hb hd
theorem Fr.div {p : Int × Int} {a b : Int} (hp : Fr p a b) (hb : 0 < b) : p.1 / p.2 = a / b := by
  have e1 := hp.eq
  have h1 : p.1 * b / (p.2 * b) = p.1 / p.2 := Int.mul_ediv_mul_of_pos_left _ _ hb
  have h2 : p.2 * a / (p.2 * b) = a / b := Int.mul_ediv_mul_of_pos _ _ hp.pos
  rw [← h1, ← h2, e1, Int.mul_comm a]
theorem low_self {p : Int × Int} (h : Lo p) : Fr p p.1 p.2 := ⟨h.1, h.2, rfl⟩
theorem Lo.eq {p q : Int × Int} (hp : Lo p) (hq : Lo q) (e : p.1 * q.2 = q.1 * p.2) : p = q := (low_self hp).same (low_self hq) hp.1 hq.1 e
/-! ### rounding: mathematics -/
/-- the integer to which A / B is rounded -/
def rndZ (A B : Int) : Md → Int
  | .down => A / B
  | .up => -(-A / B)
  | .half => (2 * A + B) / (2 * B)
  | .even => if (2 * A + B) % (2 * B) = 0 ∧ (2 * A + B) / (2 * B) % 2 = 1 then (2 * A + B) / (2 * B) - 1 else (2 * A + B) / (2 * B)
theorem div_of {x y q r : Int} (hy : 0 < y) (e : x = y * q + r) (h0 : 0 ≤ r) (h1 : r < y) : x / y = q ∧ x % y = r := by
  subst e
  constructor
  · rw [Int.add_comm, Int.add_mul_ediv_left _ _ (by omega), Int.ediv_eq_zero_of_lt h0 h1]; omega
  · rw [Int.mul_add_emod_self_left, Int.emod_eq_of_lt h0 h1]
theorem rnd_eq {p : Int × Int} {A B : Int} (hp : Fr p A B) (hB : 0 < B) (m : Md) : rnd p m = rndZ A B m := by
  have hd := hp.div hB
  have hs := hp.add (Fr.int (-(p.1 / p.2)))
  unfold rnd
  rw [hd] at hs ⊢
  generalize add p (-(A / B), 1) = s at hs ⊢
  have e1 := hs.eq
  have hs2 := hs.pos
  have hq := Int.mul_ediv_add_emod A B
  have h0 := Int.emod_nonneg A (show B ≠ 0 by omega)
  have h1 := Int.emod_lt_of_pos A hB
  generalize A / B = q at *
  generalize A % B = r at *
  have e2 : s.1 * B = r * s.2 := by grind
  have z0 : s.1 = 0 ↔ r = 0 := by
    constructor
    · intro h
      rw [h] at e2
      have : r * s.2 = 0 := by omega
      rcases Int.mul_eq_zero.mp this with h | h
      · exact h
      · omega
    · intro h
      rw [h] at e2
      have : s.1 * B = 0 := by omega
      rcases Int.mul_eq_zero.mp this with h | h
      · exact h
      · omega
  have e3 : (2 * s.1 - s.2) * B = (2 * r - B) * s.2 := by grind
  have z1 : 2 * s.1 - s.2 = 0 ↔ 2 * r = B := by
    constructor
    · intro h
      rw [h] at e3
      have : (2 * r - B) * s.2 = 0 := by omega
      rcases Int.mul_eq_zero.mp this with h | h <;> omega
    · intro h
      have : 2 * r - B = 0 := by omega
      rw [this] at e3
      have : (2 * s.1 - s.2) * B = 0 := by omega
      rcases Int.mul_eq_zero.mp this with h | h <;> omega
  have z2 : 0 < 2 * s.1 - s.2 ↔ B < 2 * r := by
    constructor
    · intro h
      have : 0 < (2 * r - B) * s.2 := by rw [← e3]; exact Int.mul_pos h hB
      have := pos_l this hs2
      omega
    · intro h
      have : 0 < (2 * s.1 - s.2) * B := by rw [e3]; exact Int.mul_pos (by omega) hs2
      exact pos_l this hB
  have hup : -A / B = if r = 0 then -q else -q - 1 := by
    split
    · rename_i h
      exact (div_of (r := 0) hB (by grind) (by omega) hB).1
    · exact (div_of (r := B - r) hB (by grind) (by omega) (by omega)).1
  have hhalf : (2 * A + B) / (2 * B) = (if B ≤ 2 * r then q + 1 else q) ∧ ((2 * A + B) % (2 * B) = 0 ↔ 2 * r = B) := by
    by_cases h : B ≤ 2 * r
    · have := div_of (x := 2 * A + B) (y := 2 * B) (q := q + 1) (r := 2 * r - B) (by omega) (by grind) (by omega) (by omega)
      rw [if_pos h, this.1, this.2]
      exact ⟨rfl, by omega⟩
    · have := div_of (x := 2 * A + B) (y := 2 * B) (q := q) (r := 2 * r + B) (by omega) (by grind) (by omega) (by omega)
      rw [if_neg h, this.1, this.2]
      exact ⟨rfl, by omega⟩
  unfold rndR
  cases m with
  | down =>
    show _ = A / B
    rw [if_pos (.inr rfl)]
    exact (div_of hB hq.symm h0 h1).1.symm
  | up =>
    show _ = -(-A / B)
    rw [hup]
    by_cases h : r = 0
    · rw [if_pos (.inl (z0.mpr h)), if_pos h]; omega
    · rw [if_neg (by rintro (z | z); exact h (z0.mp z); cases z), if_pos rfl, if_neg h]; omega
  | half =>
    show _ = (2 * A + B) / (2 * B)
    rw [hhalf.1]
    by_cases h : r = 0
    · rw [if_pos (.inl (z0.mpr h)), if_neg (by omega)]
    · rw [if_neg (by rintro (z | z); exact h (z0.mp z); cases z), if_neg (by intro z; cases z)]
      by_cases h2 : 2 * r = B
      · rw [if_neg (fun z => z (z1.mpr h2)), if_pos (.inl rfl), if_pos (by omega)]
      · rw [if_pos (fun z => h2 (z1.mp z))]
        by_cases h3 : B < 2 * r
        · rw [if_pos (z2.mpr h3), if_pos (by omega)]
        · rw [if_neg (fun z => h3 (z2.mp z)), if_neg (by omega)]
  | even =>
    show _ = if (2 * A + B) % (2 * B) = 0 ∧ (2 * A + B) / (2 * B) % 2 = 1 then (2 * A + B) / (2 * B) - 1 else (2 * A + B) / (2 * B)
    rw [hhalf.1]
    by_cases h : r = 0
    · rw [if_pos (.inl (z0.mpr h)), if_neg (show ¬ B ≤ 2 * r by omega), if_neg (fun z => by have := hhalf.2.mp z.1; omega)]
    · rw [if_neg (by rintro (z | z); exact h (z0.mp z); cases z), if_neg (by intro z; cases z)]
      by_cases h2 : 2 * r = B
      · rw [if_neg (fun z => z (z1.mpr h2)), if_pos (show B ≤ 2 * r by omega)]
        by_cases h4 : q % 2 = 1
        · rw [if_pos (.inr h4), if_neg (fun z => by omega)]
        · rw [if_neg (by rintro (z | z); cases z; exact h4 z), if_pos ⟨hhalf.2.mpr h2, by omega⟩]; omega
      · rw [if_pos (fun z => h2 (z1.mp z)), if_neg (fun z : _ ∧ _ => h2 (hhalf.2.mp z.1))]
        by_cases h3 : B < 2 * r
        · rw [if_pos (z2.mpr h3), if_pos (by omega)]
        · rw [if_neg (fun z => h3 (z2.mp z)), if_neg (by omega)]
theorem rndZ_int (f B : Int) (hB : 0 < B) (m : Md) : rndZ (f * B) B m = f := by
  have h1 : f * B / B = f := Int.mul_ediv_cancel _ (by omega)
  have h2 : -(f * B) / B = -f := by rw [← Int.neg_mul]; exact Int.mul_ediv_cancel _ (by omega)
  have h3 := div_of (x := 2 * (f * B) + B) (y := 2 * B) (q := f) (r := B) (by omega) (by grind) (by omega) (by omega)
  cases m with
  | down => exact h1
  | up => show -(-(f * B) / B) = f; rw [h2]; omega
  | half => exact h3.1
  | even =>
    show (if (2 * (f * B) + B) % (2 * B) = 0 ∧ (2 * (f * B) + B) / (2 * B) % 2 = 1 then (2 * (f * B) + B) / (2 * B) - 1 else (2 * (f * B) + B) / (2 * B)) = f
    rw [h3.1, h3.2, if_neg (by omega)]
/-- two units further -/
theorem rndZ_add (A B k : Int) (hB : 0 < B) (m : Md) : rndZ (A + 2 * k * B) B m = rndZ A B m + 2 * k := by
  have h1 : (A + 2 * k * B) / B = A / B + 2 * k := Int.add_mul_ediv_right _ _ (by omega)
  have h2 : -(A + 2 * k * B) / B = -A / B + -(2 * k) := by
    rw [show -(A + 2 * k * B) = -A + -(2 * k) * B by grind]
    exact Int.add_mul_ediv_right _ _ (by omega)
  have h3 : (2 * (A + 2 * k * B) + B) / (2 * B) = (2 * A + B) / (2 * B) + 2 * k := by
    rw [show 2 * (A + 2 * k * B) + B = (2 * A + B) + 2 * k * (2 * B) by grind]
    exact Int.add_mul_ediv_right _ _ (by omega)
  have h4 : (2 * (A + 2 * k * B) + B) % (2 * B) = (2 * A + B) % (2 * B) := by
    rw [show 2 * (A + 2 * k * B) + B = (2 * A + B) + 2 * k * (2 * B) by grind]
    exact Int.add_mul_emod_self_right _ _ _
  cases m with
  | down => exact h1
  | up => show -(-(A + 2 * k * B) / B) = -(-A / B) + 2 * k; rw [h2]; omega
  | half => exact h3
  | even =>
    show (if (2 * (A + 2 * k * B) + B) % (2 * B) = 0 ∧ (2 * (A + 2 * k * B) + B) / (2 * B) % 2 = 1 then (2 * (A + 2 * k * B) + B) / (2 * B) - 1 else (2 * (A + 2 * k * B) + B) / (2 * B)) = (if (2 * A + B) % (2 * B) = 0 ∧ (2 * A + B) / (2 * B) % 2 = 1 then (2 * A + B) / (2 * B) - 1 else (2 * A + B) / (2 * B)) + 2 * k
    rw [h3, h4]
    have : ((2 * A + B) / (2 * B) + 2 * k) % 2 = (2 * A + B) / (2 * B) % 2 := by omega
    rw [this]
    split <;> omega
end Lw

namespace Lw
open PySem Mi
/-! ### numbers of the script -/
theorem toPysP_ints : ∀ (ns : List Int) (n : Nat), ns.length < n → toPysP n (ns.map P.int) = some (ns.map PyData.int)
  | [], n, _ => by cases n <;> rfl
  | i :: ns, 0, h => by simp at h
  | i :: ns, n + 1, h => by
    show (match toPyP n (P.int i), toPysP n (ns.map P.int) with
      | some p, some ps => some (p :: ps)
      | _, _ => none) = _
    rw [toPysP_ints ns n (by simpa using h)]
    cases n <;> rfl
theorem shaped_ints (ns : List Int) : SeqAt.shaped (.list (ns.map .int)) = true := by
  have h1 : ∀ ns : List Int, PyData.canLayAll0 (ns.map .int) = true := fun ns => by
    induction ns with
    | nil => rfl
    | cons i l ih => simp [PyData.canLayAll0, PyData.canLay0, ih]
  have h2 : ∀ ns : List Int, PyData.depthAll (ns.map .int) ≤ 1 := fun ns => by
    induction ns with
    | nil => simp [PyData.depthAll]
    | cons i l ih => simp [PyData.depthAll, PyData.depth]; omega
  have h3 := h2 ns
  have h4 : (PyData.list (ns.map .int)).depth ≤ 64 := by simp [PyData.depth]; omega
  have h5 : (PyData.list (ns.map .int)).canLay0 = true := by simp [PyData.canLay0, h1]
  simp [SeqAt.shaped, h4, h5]
theorem eq_ints (ns : List Int) (hl : ns.length ≤ 63) : eqPyP (.rol (ns.map P.int)) (.lst []) = some (decide (ns = [])) := by
  have e1 : toPyP deepF (.rol (ns.map P.int)) = some (.list (ns.map .int)) := by
    show (toPysP 99999 (ns.map P.int)).map PyData.list = _
    rw [toPysP_ints ns 99999 (by omega)]; rfl
  have e2 : toPyP deepF (.lst []) = some (.list []) := by rfl
  unfold eqPyP
  rw [e1, e2]
  simp only [shaped_ints ns, show SeqAt.shaped (.list []) = true from shaped_ints []]
  cases ns <;> simp [PyData.eqv, PyData.eqvAll]
theorem ix_ints {q : P} {xs : List Int} (hq : q = .rol (xs.map P.int) ∨ q = .lst (xs.map P.int)) {i : Int} (h0 : 0 ≤ i) (h1 : i < xs.length) : pIx q (.int i) = .ok (.int (xs[i.toNat]'(by omega))) := by
  have e : atD (xs.map P.int) i = some (.int (xs[i.toNat]'(by omega))) := by
    unfold atD ixD
    rw [if_pos h0, if_pos (by simpa using h1)]
    simp
  rcases hq with rfl | rfl
  · show (match atD (xs.map P.int) i with | some d => RP.ok d | none => .no) = _
    rw [e]
  · show (match atD (xs.map P.int) i with | some d => RP.ok d | none => .no) = _
    rw [e]
theorem len_ints {q : P} {xs : List Int} (hq : q = .rol (xs.map P.int) ∨ q = .lst (xs.map P.int)) : fLen [q] = .ok (.int xs.length) := by
  rcases hq with rfl | rfl <;> simp [fLen]
theorem sk_of {k : Nat} {x : Int} (h : x.natAbs < 2 ^ k) : Sk k x := h
theorem sm_lit {x : Int} (h : x.natAbs < 2 ^ 64 := by decide) : Sm x := (sk_of h).mono (by decide)
theorem sm_lt {x : Int} (h0 : 0 ≤ x) (h : x < 2 ^ 64) : Sk 64 x := by unfold Sk; omega
/-- a list of the script, or the list [9] -/
def Scr (q : P) : Prop := ∃ xs : List Int, xs ≠ [] ∧ xs.length ≤ 63 ∧ (q = .rol (xs.map P.int) ∨ q = .lst (xs.map P.int))
theorem law_number_eq (ns : List Int) (hl : ns.length ≤ 63) (i : Int) (h0 : 0 ≤ i) (h1 : i ≤ 1000) : ∃ v, 0 ≤ v ∧ sp_x_law_number [.rol (ns.map P.int), .int i] = .ok (.int v) := by
  have e0 : (pIf (qE (pBin (neP csP2) (pVar 0) (pLst pNil))) (pVar 0) (pLst (pCons (pLit (.int 9)) pNil))) [some (.rol (ns.map P.int)), some (.int i), none, none, none] = .ok (if ns = [] then .lst [.int 9] else .rol (ns.map P.int)) := by
    have : neP csP2 (.rol (ns.map P.int)) (.lst []) = .ok (.bl (!decide (ns = []))) := by
      show qNe _ _ = _
      simp [qNe, eq_ints ns hl]
    by_cases e : ns = []
    · subst e
      simp only [List.map_nil] at this ⊢
      simp [this, maxLen]
    · simp [this, e, maxLen]
  obtain ⟨q, xs, hx, hxl, hq, eq⟩ : ∃ q xs, xs ≠ [] ∧ xs.length ≤ 63 ∧ (q = P.rol (xs.map P.int) ∨ q = P.lst (xs.map P.int)) ∧ (if ns = [] then P.lst [.int 9] else .rol (ns.map P.int)) = q := by
    by_cases e : ns = []
    · exact ⟨_, [9], by simp, by simp, .inr rfl, by simp [e]⟩
    · exact ⟨_, ns, e, hl, .inl rfl, by simp [e]⟩
  rw [eq] at e0
  have lx : 0 < (xs.length : Int) := by
    have := List.length_pos_iff.mpr hx
    omega
  have e1 := len_ints hq
  have m0 := Int.emod_nonneg i (show (xs.length : Int) ≠ 0 by omega)
  have m1 := Int.emod_lt_of_pos i lx
  have e2 := ix_ints hq m0 m1
  generalize xs[(i % xs.length).toNat]'_ = z at e2
  have e3 : pMod (.int i) (.int xs.length) = .ok (.int (i % xs.length)) := pMod_ok lx
  have e4 : pPow (.int 10) (.int 18) = .ok (.int 1000000000000000000) := by rfl
  have e5 : pMod (.int z) (.int 1000000000000000000) = .ok (.int (z % 1000000000000000000)) := pMod_ok (by decide)
  have z0 := Int.emod_nonneg z (show (1000000000000000000 : Int) ≠ 0 by decide)
  have z1 := Int.emod_lt_of_pos z (show (0 : Int) < 1000000000000000000 by decide)
  generalize z % 1000000000000000000 = y at e5 z0 z1
  have hd0 : 0 ≤ i / (xs.length : Int) := Int.ediv_nonneg h0 (by omega)
  have hd1 : i / (xs.length : Int) ≤ 1000 := Int.le_trans (Int.ediv_le_self _ h0) h1
  have e6 : pFdiv (.int i) (.int xs.length) = .ok (.int (i / xs.length)) := pFdiv_ok lx ((sm_lt (by omega) (by omega)).mono (by decide))
  generalize i / (xs.length : Int) = k at e6 hd0 hd1
  have e7 : pMul (.int 13) (.int k) = .ok (.int (13 * k)) := pMul_ok sm_lit ((sm_lt hd0 (by omega)).mono (by decide))
  have e8 : pMul (.int 977) (.int i) = .ok (.int (977 * i)) := pMul_ok sm_lit ((sm_lt h0 (by omega)).mono (by decide))
  have e9 : pMul (.int (y + 13 * k + 977 * i)) (.int 48271) = .ok (.int ((y + 13 * k + 977 * i) * 48271)) := pMul_ok ((sm_lt (by omega) (by omega)).mono (by decide)) sm_lit
  have e10 : pMul (.int 7919) (.int xs.length) = .ok (.int (7919 * xs.length)) := pMul_ok sm_lit ((sm_lt (by omega) (by omega)).mono (by decide))
  generalize hw : (y + 13 * k + 977 * i) * 48271 + 7919 * (xs.length : Int) = w
  have e11 : pMod (.int w) (.int 2147483647) = .ok (.int (w % 2147483647)) := pMod_ok (by decide)
  have w0 := Int.emod_nonneg w (show (2147483647 : Int) ≠ 0 by decide)
  have w1 := Int.emod_lt_of_pos w (show (0 : Int) < 2147483647 by decide)
  generalize w % 2147483647 = m at e11 w0 w1
  have e12 : pMul (.int 31) (.int i) = .ok (.int (31 * i)) := pMul_ok sm_lit ((sm_lt h0 (by omega)).mono (by decide))
  have s1 : Sk 64 m := sm_lt w0 (by omega)
  have s2 : Sk 64 (m + 31 * i + 7) := sm_lt (by omega) (by omega)
  have s3 : Sk 64 (m + 5) := sm_lt (by omega) (by omega)
  have e13 : pMul (.int m) (.int (m + 31 * i + 7)) = .ok (.int (m * (m + 31 * i + 7))) := pMul_ok (s1.mono (by decide)) (s2.mono (by decide))
  have e14 : pMul (.int (m * (m + 31 * i + 7))) (.int (m + 5)) = .ok (.int (m * (m + 31 * i + 7) * (m + 5))) := pMul_ok ((s1.mul s2).mono (by decide)) (s3.mono (by decide))
  have e15 : pFdiv (.int (m * (m + 31 * i + 7) * (m + 5))) (.int 1009) = .ok (.int (m * (m + 31 * i + 7) * (m + 5) / 1009)) := pFdiv_ok (by decide) sm_lit
  refine ⟨m * (m + 31 * i + 7) * (m + 5) / 1009, Int.ediv_nonneg (Int.mul_nonneg (Int.mul_nonneg w0 (by omega)) (by omega)) (by decide), ?_⟩
  simp only [sp_x_law_number, pDef, bp_x_law_number, startP, v_uSeq, v_uAsg]
  simp only [List.map_cons, List.map_nil, List.cons_append, List.nil_append, List.length_cons, List.length_nil, List.replicate, Nat.reduceAdd, Nat.reduceSub, if_true]
  rw [e0]
  simp [e1, e2, e3, e4, e5, e6, e7, e8, e9, e10, hw, e11, e12, e13, e14, e15]
end Lw

namespace Lw
open PySem Mi
/-! ### objects, as the law sees them -/
@[simp] theorem top_ {p : Int × Int} : attrP csP2 "top" (oR p) = .ok (.int p.1) := by
  show (sp_Ratio_top [oR p]).noex = _
  rw [R_top]; rfl
@[simp] theorem bottom_ {p : Int × Int} : attrP csP2 "bottom" (oR p) = .ok (.int p.2) := by
  show (sp_Ratio_bottom [oR p]).noex = _
  rw [R_bottom]; rfl
@[simp] theorem ne_ {p q : Int × Int} : neP csP2 (oR p) (oR q) = .ok (.bl (!decide (p = q))) := by
  show ((sp_Ratio_eq [oR p, oR q]).bind fun r => match r with
        | P.bl k => RP.ok (P.bl (!k))
        | _ => RP.no) = _
  rw [R_eq]; rfl
@[simp] theorem eq_ {p q : Int × Int} : ownP csP2 "__eq__" qEq (oR p) (oR q) = .ok (.bl (decide (p = q))) := by
  show sp_Ratio_eq [oR p, oR q] = _
  rw [R_eq]
theorem le_ {p q : Int × Int} (hp : SP p) (hq : SP q) : ownP csP2 "__le__" (cmpP .LtE) (oR p) (oR q) = .ok (.bl (decide (p.1 * q.2 ≤ q.1 * p.2))) := R_le hp hq
theorem add_ {p q : Int × Int} (hp : SP p) (hq : SP q) : arithP csP2 "__add__" pAdd (oR p) (oR q) = .ok (oR (add p q)) := R_add hp hq
theorem sub_ {p q : Int × Int} (hp : SP p) (hq : SP q) : arithP csP2 "__sub__" pSub (oR p) (oR q) = .ok (oR (add p (neg q))) := R_sub hp hq
theorem mul_ {p q : Int × Int} (hp : SP p) (hq : SP q) : arithP csP2 "__mul__" pMul (oR p) (oR q) = .ok (oR (mul p q)) := R_mul hp hq
theorem neg_ {p : Int × Int} (hp : SP p) (hl : Lo p) : unOwnP csP2 "__neg__" pNeg (oR p) = .ok (oR (neg p)) := R_neg hp hl
/-! ### a ratio is a fraction -/
theorem no_part {p : Int × Int} (hp : Lo p) (k : Int) (hk : 2 ≤ k) : (decide (p.1 % k = 0) && decide (p.2 % k = 0)) = false := by
  rw [Bool.eq_false_iff]
  intro h
  rw [Bool.and_eq_true, decide_eq_true_eq, decide_eq_true_eq] at h
  have h1 : k ∣ p.1 := Int.dvd_of_emod_eq_zero h.1
  have h2 : k ∣ p.2 := Int.dvd_of_emod_eq_zero h.2
  have h3 : k ∣ (Int.gcd p.1 p.2 : Nat) := Int.dvd_coe_gcd h1 h2
  rw [hp.2] at h3
  have := Int.le_of_dvd (by decide) h3
  omega
theorem is_pair {p : Int × Int} {a b : Int} (h : Fr p a b) (s1 : Sk 900 p.1) (s2 : Sk 900 p.2) (sa : Sk 900 a) (sb : Sk 900 b) : sp_x_law_is_pair [oR p, .int a, .int b] = .ok (.bl true) := by
  have e1 : pMul (.int p.1) (.int b) = .ok (.int (p.1 * b)) := pMul_ok (s1.mono (by decide)) (sb.mono (by decide))
  have e2 : pMul (.int a) (.int p.2) = .ok (.int (a * p.2)) := pMul_ok (sa.mono (by decide)) (s2.mono (by decide))
  have e3 := h.eq
  have e4 : ¬ p.2 < 1 := by have := h.pos; omega
  have hl := h.lo
  have turn : ∀ k : Int, 2 ≤ k → turnC (hNm 3) qTrue (pAnd (pBin (ownP csP2 "__eq__" qEq) (pBin (pMod) (pAttr csP2 "top" (pVar 0)) (pVar 3)) (pLit (.int 0))) (pBin (ownP csP2 "__eq__" qEq) (pBin (pMod) (pAttr csP2 "bottom" (pVar 0)) (pVar 3)) (pLit (.int 0)))) (.int k) [some (oR p), some (.int a), some (.int b), none] = .ok [.bl false] := fun k hk => by
    have f1 : pMod (.int p.1) (.int k) = .ok (.int (p.1 % k)) := pMod_ok (by omega)
    have f2 : pMod (.int p.2) (.int k) = .ok (.int (p.2 % k)) := pMod_ok (by omega)
    have f3 := no_part hl k hk
    by_cases c : p.1 % k = 0
    · have c2 : ¬ p.2 % k = 0 := by simpa [c] using f3
      simp [turnC, f1, f2, c, c2]
    · simp [turnC, f1, c]
  have e5 := turn 2 (by decide)
  have e6 := turn 3 (by decide)
  have e7 := turn 5 (by decide)
  have e8 := turn 7 (by decide)
  have e9 := turn 11 (by decide)
  have e10 := turn 13 (by decide)
  simp [sp_x_law_is_pair, pDef, bp_x_law_is_pair, startP, e1, e2, e3, e4, maxLen, pComp, wipeP, allC, e5, e6, e7, e8, e9, e10, fAny, seqP, boolsP]
theorem SP.of {k : Nat} {p : Int × Int} (h : Sq k p) (hk : k ≤ 900 := by decide) : SP p := h.sp hk
theorem law_ratios {a b c d : Int} (ha : Sk 40 a) (hb : Sk 40 b) (hc : Sk 40 c) (hd : Sk 40 d) (b0 : 0 < b) (d0 : 0 < d) : sp_x_law_ratios_right [.int a, .int b, .int c, .int d] = .ok (.bl true) := by
  have f1 := ratio_new a b b0 (hb.mono (by decide))
  have f2 := ratio_new c d d0 (hd.mono (by decide))
  have hx := low_fr (a := a) b0
  have hy := low_fr (a := c) d0
  have qx := low_sq ha hb b0
  have qy := low_sq hc hd d0
  have g6a : low (6 * a, 6 * b) = low (a, b) := (low_fr (a := 6 * a) (b := 6 * b) (by omega)).same hx (by omega) b0 (by grind)
  have f3 := ratio_new (6 * a) (6 * b) (by omega) (((show Sk 4 6 from by unfold Sk; decide).mul hb).mono (by decide))
  rw [g6a] at f3
  generalize low (a, b) = x at *
  generalize low (c, d) = y at *
  have bd : 0 < b * d := Int.mul_pos b0 d0
  have sad := ha.mul hd
  have scb := hc.mul hb
  have sbd := hb.mul hd
  have sac := ha.mul hc
  have m1 : pMul (.int a) (.int d) = .ok (.int (a * d)) := pMul_ok (ha.mono (by decide)) (hd.mono (by decide))
  have m2 : pMul (.int c) (.int b) = .ok (.int (c * b)) := pMul_ok (hc.mono (by decide)) (hb.mono (by decide))
  have m3 : pMul (.int b) (.int d) = .ok (.int (b * d)) := pMul_ok (hb.mono (by decide)) (hd.mono (by decide))
  have m4 : pMul (.int a) (.int c) = .ok (.int (a * c)) := pMul_ok (ha.mono (by decide)) (hc.mono (by decide))
  have m5 : pMul (.int 6) (.int a) = .ok (.int (6 * a)) := pMul_ok sm_lit (ha.mono (by decide))
  have m6 : pMul (.int 6) (.int b) = .ok (.int (6 * b)) := pMul_ok sm_lit (hb.mono (by decide))
  have a1 := add_ (qx.sp (by decide)) (qy.sp (by decide))
  have a2 := add_ (qy.sp (by decide)) (qx.sp (by decide))
  have a3 := sub_ (qx.sp (by decide)) (qy.sp (by decide))
  have a4 := mul_ (qx.sp (by decide)) (qy.sp (by decide))
  have a5 := mul_ (qy.sp (by decide)) (qx.sp (by decide))
  have a6 := neg_ (qx.sp (by decide)) hx.lo
  have a7 := add_ ((neg_sq qx).sp (by decide)) (qx.sp (by decide))
  have a8 := sub_ (qx.sp (by decide)) (qx.sp (by decide))
  have l1 := le_ (qx.sp (by decide)) (qy.sp (by decide))
  have l2 := le_ (qx.sp (by decide)) (qx.sp (by decide))
  have qadd := add_sq qx qy
  have qsub := add_sq qx (neg_sq qy)
  have qmul := mul_sq qx qy
  have p1 := is_pair hx (qx.1.mono (by decide)) (qx.2.1.mono (by decide)) (ha.mono (by decide)) (hb.mono (by decide))
  have p2 := is_pair (hx.add hy) (qadd.1.mono (by decide)) (qadd.2.1.mono (by decide)) ((sad.add scb).mono (by decide)) (sbd.mono (by decide))
  have p3 := is_pair (hx.sub hy) (qsub.1.mono (by decide)) (qsub.2.1.mono (by decide)) (((show Sk 81 (a * d - c * b) from by rw [Int.sub_eq_add_neg]; exact sad.add scb.neg)).mono (by decide)) (sbd.mono (by decide))
  have p4 := is_pair (hx.mul hy) (qmul.1.mono (by decide)) (qmul.2.1.mono (by decide)) (sac.mono (by decide)) (sbd.mono (by decide))
  have p5 := is_pair hx.neg ((neg_sq qx).1.mono (by decide)) ((neg_sq qx).2.1.mono (by decide)) (ha.neg.mono (by decide)) (hb.mono (by decide))
  have r0 := ratio_new1 0
  have r7 := ratio_new 0 7 (by decide) sm_lit
  have ra := ratio_new1 a
  have ra1 := ratio_new a 1 (by decide) sm_lit
  have z1 : add (neg x) x = low (0, 1) := (hx.neg.add hx).same (low_fr (a := 0) (b := 1) (by decide)) (Int.mul_pos b0 b0) (by decide) (by grind)
  have z2 : add x (neg x) = low (0, 7) := (hx.sub hx).same (low_fr (a := 0) (b := 7) (by decide)) (Int.mul_pos b0 b0) (by decide) (by grind)
  have z3 : add x y = add y x := (hx.add hy).same (hy.add hx) bd (Int.mul_pos d0 b0) (by grind)
  have z4 : mul x y = mul y x := (hx.mul hy).same (hy.mul hx) bd (Int.mul_pos d0 b0) (by grind)
  have z5 := hx.le hy b0 d0
  have z6 := hx.eq_iff hy b0 d0
  rw [z3] at a1 p2
  rw [z4] at a4 p4
  rw [z1] at a7
  rw [z2] at a8
  simp [sp_x_law_ratios_right, pDef, bp_x_law_ratios_right, startP, f1, f2, f3, m1, m2, m3, m4, m5, m6, a1, a2, a3, a4, a5, a6, a7, a8, l1, l2, p1, p2, p3, p4, p5, r0, r7, ra, ra1, z5, z6]
end Lw

namespace Lw
open PySem Mi
/-! ### steps as objects -/
theorem Fr.to {p : Int × Int} {a b a' b' : Int} (h : Fr p a b) (e1 : a = a') (e2 : b = b') : Fr p a' b' := by subst e1; subst e2; exact h
theorem Fr.sq {p : Int × Int} {k : Nat} (h : Sq k p) : Sm p.2 ↔ Sm p.2 := Iff.rfl
theorem ratio_of_lo (p : Int × Int) (hl : Lo p) (hs : Sm p.2) : sp_ratio_of [dP p] = .ok (oR p) := by
  rw [ratio_of_eq p hl.1 hs, low_id hl.2]
theorem word2 {n : Int × Int} {r : P} : attrP csP0 "WORD" (oS 2 n r) = .ok (.str "scale") := by rfl
theorem word3 {n : Int × Int} {r : P} : attrP csP0 "WORD" (oS 3 n r) = .ok (.str "shift") := by rfl
theorem word4 {n : Int × Int} {r : P} : attrP csP0 "WORD" (oS 4 n r) = .ok (.str "round") := by rfl
theorem numb {c : Nat} {n : Int × Int} {r : P} (hc : c = 2 ∨ c = 3 ∨ c = 4) : attrP csP0 "number" (oS c n r) = .ok (dP n) := by
  rcases hc with rfl | rfl | rfl <;> rfl
theorem rule_ {c : Nat} {n : Int × Int} {r : P} (hc : c = 2 ∨ c = 3 ∨ c = 4) : attrP csP0 "rule" (oS c n r) = .ok r := by
  rcases hc with rfl | rfl | rfl <;> rfl
theorem call_scale {v n : Int × Int} {k l : Nat} (hv : Sq k v) (hn : Sq l n) (hk : k + l ≤ 900) : sp_Step_call [oS 2 n .non, oR v] = .ok (oR (mul v n)) := by
  have e1 := done_scale v n .non (hv.sp (by omega)) (hn.sp (by omega))
  have e2 := ratio_of_lo (mul v n) (mul_lo hv.2.2 hn.2.2) ((mul_sq hv hn).2.1.mono (by omega))
  simp [sp_Step_call, pDef, bp_Step_call, startP, isRatio, word2, numb, rule_, pair0, e1, e2]
theorem call_shift {v n : Int × Int} {k l : Nat} (hv : Sq k v) (hn : Sq l n) (hk : k + l ≤ 900) : sp_Step_call [oS 3 n .non, oR v] = .ok (oR (add v n)) := by
  have e1 := done_shift v n .non (hv.sp (by omega)) (hn.sp (by omega))
  have e2 := ratio_of_lo (add v n) (add_lo hv.2.2 hn.2.2) ((add_sq hv hn).2.1.mono (by omega))
  simp [sp_Step_call, pDef, bp_Step_call, startP, isRatio, word3, numb, rule_, pair0, e1, e2]
theorem rd_sq {v n : Int × Int} {k l : Nat} (hv : Sq (k + 1) v) (hn : Sq l n) (h0 : 0 < n.1) (m : Md) : Sq (k + l + 2 + l) (rd v n m) := by
  have q1 := mul_sq hv (turn_sq hn h0)
  have q2 : Sk (k + l + 2) (rnd (mul v (turn n)) m) := rnd_sk m (q1.mono (show k + 1 + l ≤ k + l + 1 by omega))
  exact mul_sq (p := (rnd (mul v (turn n)) m, 1)) ⟨q2, (sk_one (k := k + l + 1)), Int.one_pos⟩ hn
theorem call_round {v n : Int × Int} {k l : Nat} (m : Md) (hv : Sq (k + 1) v) (hn : Sq l n) (h0 : 0 < n.1) (hk : k + 2 * l + 3 ≤ 900) : sp_Step_call [oS 4 n (.str m.s), oR v] = .ok (oR (rd v n m)) := by
  have e1 := done_round v n m hv hn h0 (by omega)
  have e2 := ratio_of_lo (rd v n m) (mul_lo Int.one_pos hn.2.2) ((rd_sq hv hn h0 m).2.1.mono (by omega))
  generalize m.s = ms at e1 ⊢
  simp [sp_Step_call, pDef, bp_Step_call, startP, isRatio, word4, numb, rule_, pair0, e1, e2]
theorem scale_neg {n : Int × Int} (hn : Lo n) (hs : Small n) (h0 : n.1 ≠ 0) (ht : Small (turn n)) : sp_Scale_neg [oS 2 n .non] = .ok (oS 2 (turn n) .non) := by
  have e1 := turned_eq n
  have hl : Lo (turn n) := by
    unfold turn
    split
    · rename_i h
      exact ⟨h, by rw [Int.gcd_comm]; exact hn.2⟩
    · exact ⟨by show 0 < -n.1; omega, by show Int.gcd (-n.2) (-n.1) = 1; rw [Int.neg_gcd, Int.gcd_neg, Int.gcd_comm]; exact hn.2⟩
  have ht1 : (turn n).1 ≠ 0 := by
    have := hn.1
    unfold turn
    split
    · show n.2 ≠ 0; omega
    · show -n.2 ≠ 0; omega
  have e2 := ratio_of_lo (turn n) hl ((show Sk 10 (turn n).2 from by unfold Sk; have := ht.2; have := hl.1; omega).mono (by decide))
  have e3 := scale_new ht ht1
  simp [sp_Scale_neg, pDef, bp_Scale_neg, startP, numb, e1, e2, e3]
theorem shift_neg {n : Int × Int} (hn : Lo n) (hs : Small n) : sp_Shift_neg [oS 3 n .non] = .ok (oS 3 (neg n) .non) := by
  have e2 := ratio_of_lo (neg n) (neg_lo hn) ((show Sk 10 n.2 from by unfold Sk; have := hs.2; have := hn.1; omega).mono (by decide))
  have e3 := shift_new (p := neg n) ⟨by show (-n.1).natAbs ≤ 99; have := hs.1; omega, hs.2⟩
  simp only [dP, neg] at e2
  have e4 : ep_Shift [oR (-n.1, n.2)] = .ok (oS 3 (-n.1, n.2) .non) := e3
  simp only [oR] at e2 e4
  simp [sp_Shift_neg, pDef, bp_Shift_neg, startP, numb, maxLen, e2, e4, neg]
theorem scale_ratio {n : Int × Int} (hn : Lo n) (hs : Sm n.2) : sp_Scale_ratio [oS 2 n .non] = .ok (oR n) := by
  have e2 := ratio_of_lo n hn hs
  simp [sp_Scale_ratio, pDef, bp_Scale_ratio, startP, numb, e2]
theorem shift_ratio {n : Int × Int} (hn : Lo n) (hs : Sm n.2) : sp_Shift_ratio [oS 3 n .non] = .ok (oR n) := by
  have e2 := ratio_of_lo n hn hs
  simp [sp_Shift_ratio, pDef, bp_Shift_ratio, startP, numb, e2]
theorem round_unit {n : Int × Int} {r : P} (hn : Lo n) (hs : Sm n.2) : sp_Round_unit [oS 4 n r] = .ok (oR n) := by
  have e2 := ratio_of_lo n hn hs
  simp [sp_Round_unit, pDef, bp_Round_unit, startP, numb, e2]
theorem round_mode {n : Int × Int} {r : P} : sp_Round_mode [oS 4 n r] = .ok r := by
  simp [sp_Round_mode, pDef, bp_Round_mode, startP, rule_]
/-- a rule: of a rounding, or none -/
def rl : Option Md → P
  | none => .non
  | some m => .str m.s
theorem listed2 {n : Int × Int} {r : P} : sp_Step_listed [oS 2 n r] = .ok (.tup [.str "scale", dP n, r]) := by
  simp [sp_Step_listed, pDef, bp_Step_listed, startP, word2, numb, rule_, maxLen]
theorem listed3 {n : Int × Int} {r : P} : sp_Step_listed [oS 3 n r] = .ok (.tup [.str "shift", dP n, r]) := by
  simp [sp_Step_listed, pDef, bp_Step_listed, startP, word3, numb, rule_, maxLen]
theorem listed4 {n : Int × Int} {r : P} : sp_Step_listed [oS 4 n r] = .ok (.tup [.str "round", dP n, r]) := by
  simp [sp_Step_listed, pDef, bp_Step_listed, startP, word4, numb, rule_, maxLen]
theorem eqv_rl (r r' : Option Md) : ∃ d d', (∀ k, toPyP k (rl r) = some d) ∧ (∀ k, toPyP k (rl r') = some d') ∧ d.canLay0 = true ∧ d'.canLay0 = true ∧ d.depth ≤ 1 ∧ d'.depth ≤ 1 ∧ PyData.eqv d d' = decide (r = r') := by
  rcases r with _ | m <;> rcases r' with _ | n
  · exact ⟨.none, .none, fun k => by cases k <;> rfl, fun k => by cases k <;> rfl, rfl, rfl, by decide, by decide, by decide⟩
  · exact ⟨.none, .str n.s, fun k => by cases k <;> rfl, fun k => by cases k <;> rfl, rfl, by simpa [PyData.canLay0] using n.ok, by decide, by simp [PyData.depth], rfl⟩
  · exact ⟨.str m.s, .none, fun k => by cases k <;> rfl, fun k => by cases k <;> rfl, by simpa [PyData.canLay0] using m.ok, rfl, by simp [PyData.depth], by decide, rfl⟩
  · refine ⟨.str m.s, .str n.s, fun k => by cases k <;> rfl, fun k => by cases k <;> rfl, by simpa [PyData.canLay0] using m.ok, by simpa [PyData.canLay0] using n.ok, by simp [PyData.depth], by simp [PyData.depth], ?_⟩
    have := Md.inj m n
    simp [PyData.eqv]
    rw [Bool.eq_iff_iff] at this ⊢
    simpa using this
theorem toPysP_cons {n : Nat} {p : P} {ps : List P} {q : PyData} {qs : List PyData} (h1 : toPyP n p = some q) (h2 : toPysP n ps = some qs) : toPysP (n + 1) (p :: ps) = some (q :: qs) := by
  show (match toPyP n p, toPysP n ps with
    | some p, some ps => some (p :: ps)
    | _, _ => none) = _
  rw [h1, h2]
theorem eqP_listed {w w' : Str} (hw : PyData.strOk w = true) (hw' : PyData.strOk w' = true) (n n' : Int × Int) (r r' : Option Md) : eqPyP (.tup [.str w, dP n, rl r]) (.tup [.str w', dP n', rl r']) = some (decide (w = w' ∧ n = n' ∧ r = r')) := by
  obtain ⟨d, d', e1, e2, l1, l2, t1, t2, e3⟩ := eqv_rl r r'
  have lay : ∀ (w : Str) (n : Int × Int) (d : PyData), PyData.strOk w = true → d.canLay0 = true → d.depth ≤ 1 → SeqAt.shaped (.tuple [.str w, .tuple [.int n.1, .int n.2], d]) = true := fun w n d hw l t => by
    have h4 : (PyData.tuple [.str w, .tuple [.int n.1, .int n.2], d]).depth ≤ 64 := by simp [PyData.depth, PyData.depthAll]; omega
    have h5 : (PyData.tuple [.str w, .tuple [.int n.1, .int n.2], d]).canLay0 = true := by simp [PyData.canLay0, PyData.canLayAll0, hw, l]
    simp [SeqAt.shaped, h4, h5]
  have f : ∀ (w : Str) (n : Int × Int) (r : P) (d : PyData), (∀ k, toPyP k r = some d) → toPyP deepF (.tup [.str w, dP n, r]) = some (.tuple [.str w, .tuple [.int n.1, .int n.2], d]) := fun w n r d e => by
    have a1 : toPysP 99997 [r] = some [d] := toPysP_cons (e _) rfl
    have a2 : toPysP 99998 [dP n, r] = some [.tuple [.int n.1, .int n.2], d] := toPysP_cons rfl a1
    have a3 : toPysP 99999 [.str w, dP n, r] = some [.str w, .tuple [.int n.1, .int n.2], d] := toPysP_cons rfl a2
    show (toPysP 99999 [.str w, dP n, r]).map PyData.tuple = _
    rw [a3]; rfl
  unfold eqPyP
  rw [f w n _ d e1, f w' n' _ d' e2]
  simp [lay _ _ _ hw l1 t1, lay _ _ _ hw' l2 t2, PyData.eqv, PyData.eqvAll, e3]
  rw [Bool.eq_iff_iff]
  simp [Prod.ext_iff]
/-- the word of a class of steps -/
def wd (c : Nat) : Str := if c = 2 then "scale" else if c = 3 then "shift" else "round"
theorem step_eq {c c' : Nat} {n n' : Int × Int} {r r' : Option Md} (hc : c = 2 ∨ c = 3 ∨ c = 4) (hc' : c' = 2 ∨ c' = 3 ∨ c' = 4) : sp_Step_eq [oS c n (rl r), oS c' n' (rl r')] = .ok (.bl (decide (c = c' ∧ n = n' ∧ r = r'))) := by
  have h1 : ∀ {c : Nat} {n : Int × Int} {r : P}, (c = 2 ∨ c = 3 ∨ c = 4) → pMeth csP1 "listed" (pLit (oS c n r)) pNil [] = .ok (.tup [.str (wd c), dP n, r]) := fun {c n r} hc => by
    rcases hc with rfl | rfl | rfl
    · show (sp_Step_listed [oS 2 n r]) = _; rw [listed2]; rfl
    · show (sp_Step_listed [oS 3 n r]) = _; rw [listed3]; rfl
    · show (sp_Step_listed [oS 4 n r]) = _; rw [listed4]; rfl
  have h2 : ∀ {c : Nat}, (c = 2 ∨ c = 3 ∨ c = 4) → PyData.strOk (wd c) = true := fun {c} hc => by
    rcases hc with rfl | rfl | rfl <;> decide +kernel
  have h3 : ∀ {c c' : Nat}, (c = 2 ∨ c = 3 ∨ c = 4) → (c' = 2 ∨ c' = 3 ∨ c' = 4) → (wd c = wd c' ↔ c = c') := fun {c c'} hc hc' => by
    rcases hc with rfl | rfl | rfl <;> rcases hc' with rfl | rfl | rfl <;> decide +kernel
  have h4 : isP subs tgs [.c 1] (oS c' n' (rl r')) = .ok (.bl true) := by rcases hc' with rfl | rfl | rfl <;> rfl
  have e1 : ∀ δ, pMeth csP1 "listed" (pVar 0) pNil (some (oS c n (rl r)) :: δ) = .ok (.tup [.str (wd c), dP n, rl r]) := fun δ => h1 hc
  have e2 : ∀ x δ, pMeth csP1 "listed" (pVar 1) pNil (x :: some (oS c' n' (rl r')) :: δ) = .ok (.tup [.str (wd c'), dP n', rl r']) := fun x δ => h1 hc'
  have e3 := eqP_listed (h2 hc) (h2 hc') n n' r r'
  simp [sp_Step_eq, pDef, bp_Step_eq, startP, h4, e1, e2, qEq, e3, h3 hc hc']
end Lw

namespace Lw
open PySem Mi
theorem ne_step {c c' : Nat} {n n' : Int × Int} {r r' : Option Md} (hc : c = 2 ∨ c = 3 ∨ c = 4) (hc' : c' = 2 ∨ c' = 3 ∨ c' = 4) : neP csP2 (oS c n (rl r)) (oS c' n' (rl r')) = .ok (.bl (!decide (c = c' ∧ n = n' ∧ r = r'))) := by
  have e := step_eq (n := n) (n' := n') (r := r) (r' := r') hc hc'
  have : neP csP2 (oS c n (rl r)) (oS c' n' (rl r')) = ((sp_Step_eq [oS c n (rl r), oS c' n' (rl r')]).bind fun r => match r with
        | P.bl k => RP.ok (P.bl (!k))
        | _ => RP.no) := by rcases hc with rfl | rfl | rfl <;> rcases hc' with rfl | rfl | rfl <;> rfl
  rw [this, e]; rfl
theorem eq_step {c c' : Nat} {n n' : Int × Int} {r r' : Option Md} (hc : c = 2 ∨ c = 3 ∨ c = 4) (hc' : c' = 2 ∨ c' = 3 ∨ c' = 4) : ownP csP2 "__eq__" qEq (oS c n (rl r)) (oS c' n' (rl r')) = .ok (.bl (decide (c = c' ∧ n = n' ∧ r = r'))) := by
  have e := step_eq (n := n) (n' := n') (r := r) (r' := r') hc hc'
  have : ownP csP2 "__eq__" qEq (oS c n (rl r)) (oS c' n' (rl r')) = sp_Step_eq [oS c n (rl r), oS c' n' (rl r')] := by rcases hc with rfl | rfl | rfl <;> rcases hc' with rfl | rfl | rfl <;> rfl
  rw [this, e]
theorem natAbs_div (a : Int) (g : Int) : (a / g).natAbs ≤ a.natAbs := Int.natAbs_ediv_le_natAbs a g
theorem low_small {a b : Int} (ha : a.natAbs ≤ 99) (hb : b ≤ 99) (b0 : 0 < b) : Small (low (a, b)) := by
  have h1 := natAbs_div a (Int.gcd a b : Nat)
  have h2 := natAbs_div b (Int.gcd a b : Nat)
  refine ⟨?_, ?_⟩
  · show (a / (Int.gcd a b : Nat)).natAbs ≤ 99; omega
  · show b / (Int.gcd a b : Nat) ≤ 99; omega
theorem turn_small {p : Int × Int} (h : Small p) (h0 : 0 < p.2) : Small (turn p) := by
  obtain ⟨h1, h2⟩ := h
  unfold turn
  split
  · exact ⟨by show p.2.natAbs ≤ 99; omega, by show p.1 ≤ 99; omega⟩
  · exact ⟨by show (-p.2).natAbs ≤ 99; omega, by show -p.1 ≤ 99; omega⟩
theorem turn_turn {p : Int × Int} (h : 0 < p.2) : turn (turn p) = p := by
  unfold turn
  by_cases h1 : 0 < p.1
  · rw [if_pos h1, if_pos h]
  · rw [if_neg h1, if_neg (by show ¬ 0 < -p.2; omega)]
    show (- -p.1, - -p.2) = p
    rw [Int.neg_neg, Int.neg_neg]
theorem small_sq {p : Int × Int} (h : Small p) (h0 : 0 < p.2) : Sq 7 p := ⟨by unfold Sk; have := h.1; omega, by unfold Sk; have := h.2; omega, h0⟩
theorem law_steps {a b c d : Int} (ha : a.natAbs ≤ 99) (hb : b ≤ 99) (b0 : 0 < b) (hc : Sk 40 c) (hd : Sk 40 d) (d0 : 0 < d) : sp_x_law_steps_right [.int a, .int b, .int c, .int d] = .ok (.bl true) := by
  have sa : Sk 7 a := by unfold Sk; omega
  have sb : Sk 7 b := by unfold Sk; omega
  have f1 := ratio_new a b b0 (sb.mono (by decide))
  have f2 := ratio_new c d d0 (hd.mono (by decide))
  have hx := low_fr (a := a) b0
  have hv := low_fr (a := c) d0
  have sx := low_small ha hb b0
  have qv := low_sq hc hd d0
  generalize low (a, b) = x at *
  generalize low (c, d) = v at *
  have qx := small_sq sx hx.pos
  have sad := sa.mul hd
  have scb := hc.mul sb
  have sbd := sb.mul hd
  have sac := sa.mul hc
  have m1 : pMul (.int a) (.int d) = .ok (.int (a * d)) := pMul_ok (sa.mono (by decide)) (hd.mono (by decide))
  have m2 : pMul (.int c) (.int b) = .ok (.int (c * b)) := pMul_ok (hc.mono (by decide)) (sb.mono (by decide))
  have m3 : pMul (.int b) (.int d) = .ok (.int (b * d)) := pMul_ok (sb.mono (by decide)) (hd.mono (by decide))
  have m4 : pMul (.int a) (.int c) = .ok (.int (a * c)) := pMul_ok (sa.mono (by decide)) (hc.mono (by decide))
  have n1 : ep_Shift [oR x] = .ok (oS 3 x (rl none)) := shift_new sx
  have n2 : ep_Shift [oR (neg x)] = .ok (oS 3 (neg x) (rl none)) := shift_new (p := neg x) ⟨by show (-x.1).natAbs ≤ 99; have := sx.1; omega, sx.2⟩
  have c1 : callIP csP2 (oS 3 x (rl none)) [oR v] = .ok (oR (add v x)) := call_shift qv qx (by decide)
  have c2 : callIP csP2 (oS 3 (neg x) (rl none)) [oR (add v x)] = .ok (oR (add (add v x) (neg x))) := call_shift (add_sq qv qx) (neg_sq qx) (by decide)
  have z1 : add (add v x) (neg x) = v := ((hv.add hx).add hx.neg).same hv (Int.mul_pos (Int.mul_pos d0 b0) b0) d0 (by grind)
  rw [z1] at c2
  have g1 : unOwnP csP2 "__neg__" pNeg (oS 3 x (rl none)) = .ok (oS 3 (neg x) (rl none)) := shift_neg hx.lo sx
  have g2 := neg_ (qx.sp (by decide)) hx.lo
  have t1 : attrP csP2 "ratio" (oS 3 x (rl none)) = .ok (oR x) := by
    show (sp_Shift_ratio [oS 3 x .non]).noex = _
    rw [shift_ratio hx.lo (qx.2.1.mono (by decide))]; rfl
  have k1 := ne_step (c := 3) (c' := 3) (n := neg x) (n' := neg x) (r := none) (r' := none) (by decide) (by decide)
  have p1 := is_pair ((hv.add hx).to (a' := a * d + c * b) (b' := b * d) (by grind) (by grind)) ((add_sq qv qx).1.mono (by decide)) ((add_sq qv qx).2.1.mono (by decide)) (((sad.mono (show 7 + 40 ≤ 50 by decide)).add (scb.mono (show 40 + 7 ≤ 50 by decide))).mono (by decide)) (sbd.mono (by decide))
  by_cases e0 : a = 0
  · simp [sp_x_law_steps_right, pDef, bp_x_law_steps_right, startP, f1, f2, m1, m2, m3, n1, n2, c1, c2, g1, g2, t1, k1, p1, e0] at p1 m1 f1 ⊢
    simp [sp_x_law_steps_right, pDef, bp_x_law_steps_right, startP, f1, f2, m1, m2, m3, n1, n2, c1, c2, g1, g2, t1, k1, p1, e0]
  · have x0 : x.1 ≠ 0 := fun z => by
      have e := hx.eq
      rw [z] at e
      have e : a * x.2 = 0 := by omega
      rcases Int.mul_eq_zero.mp e with h | h
      · exact e0 h
      · have := hx.pos; omega
    have st := turn_small sx hx.pos
    have ht := hx.turn x0 b0
    have qt := small_sq st ht.pos
    have n3 : ep_Scale [oR x] = .ok (oS 2 x (rl none)) := scale_new sx x0
    have c3 : callIP csP2 (oS 2 x (rl none)) [oR v] = .ok (oR (mul v x)) := call_scale qv qx (by decide)
    have c4 : callIP csP2 (oS 2 (turn x) (rl none)) [oR (mul v x)] = .ok (oR (mul (mul v x) (turn x))) := call_scale (mul_sq qv qx) qt (by decide)
    have z2 : mul (mul v x) (turn x) = v := by
      refine ((hv.mul hx).mul ht).same hv (Int.mul_pos (Int.mul_pos d0 b0) ?_) d0 ?_
      · split <;> omega
      · split <;> grind
    rw [z2] at c4
    have g3 : unOwnP csP2 "__neg__" pNeg (oS 2 x (rl none)) = .ok (oS 2 (turn x) (rl none)) := scale_neg hx.lo sx x0 st
    have t0 : (turn x).1 ≠ 0 := by
      have := hx.pos
      unfold turn
      split
      · show x.2 ≠ 0; omega
      · show -x.2 ≠ 0; omega
    have g4 : unOwnP csP2 "__neg__" pNeg (oS 2 (turn x) (rl none)) = .ok (oS 2 x (rl none)) := by
      have := scale_neg ht.lo st t0 (by rw [turn_turn hx.pos]; exact sx)
      rw [turn_turn hx.pos] at this
      exact this
    have t2 : attrP csP2 "ratio" (oS 2 x (rl none)) = .ok (oR x) := by
      show (sp_Scale_ratio [oS 2 x .non]).noex = _
      rw [scale_ratio hx.lo (qx.2.1.mono (by decide))]; rfl
    have k2 := eq_step (c := 2) (c' := 2) (n := x) (n' := x) (r := none) (r' := none) (by decide) (by decide)
    have p2 := is_pair ((hv.mul hx).to (a' := a * c) (b' := b * d) (by grind) (by grind)) ((mul_sq qv qx).1.mono (by decide)) ((mul_sq qv qx).2.1.mono (by decide)) (sac.mono (by decide)) (sbd.mono (by decide))
    simp [sp_x_law_steps_right, pDef, bp_x_law_steps_right, startP, f1, f2, m1, m2, m3, m4, n1, n2, n3, c1, c2, c3, c4, g1, g2, g3, g4, t1, t2, k1, k2, p1, p2, e0]
/-! ### rounding -/
theorem rndZ_scale (A B k : Int) (hB : 0 < B) (hk : 0 < k) (m : Md) : rndZ (A * k) (B * k) m = rndZ A B m := by
  have h := low_fr (a := A) hB
  rw [← rnd_eq h hB m]
  exact (rnd_eq (h.conv hB (by grind)) (Int.mul_pos hB hk) m).symm
theorem rd_fr {v x : Int × Int} {a b c d : Int} (m : Md) (hv : Fr v c d) (hx : Fr x a b) (a0 : 0 < a) (b0 : 0 < b) (d0 : 0 < d) : Fr (rd v x m) (rndZ (c * b) (d * a) m * a) b := by
  have x0 : 0 < x.1 := by
    have e := hx.eq
    have : 0 < x.1 * b := by rw [e]; exact Int.mul_pos a0 hx.pos
    exact pos_l this b0
  have ht := hx.turn (by omega) b0
  rw [if_pos a0, if_pos a0] at ht
  have e := rnd_eq (hv.mul ht) (Int.mul_pos d0 a0) m
  unfold rd
  rw [e]
  exact ((Fr.int _).mul hx).to rfl (by omega)
theorem rndZ_sk {k : Nat} {A B : Int} (hA : Sk k A) (hB : Sk k B) (m : Md) : Sk (k + 3) (rndZ A B m) := by
  have h2 : Sk (k + 2) (2 * A + B) := by
    unfold Sk at *
    have := Nat.pow_succ (n := 2) (m := k)
    have h4 : 2 ^ (k + 2) = 4 * 2 ^ k := by rw [Nat.pow_add]; omega
    rw [h4]
    omega
  cases m with
  | down => exact hA.ediv.mono (by omega)
  | up => exact hA.neg.ediv.neg.mono (by omega)
  | half => exact h2.ediv.mono (by omega)
  | even =>
    show Sk (k + 3) (if _ then _ else _)
    split
    · rw [Int.sub_eq_add_neg]
      exact h2.ediv.add ((show Sk (k + 2) (1 : Int) from sk_one (k := k + 1)).neg)
    · exact h2.ediv.mono (by omega)
theorem law_rounded {a b c d : Int} (ha : Sk 40 a) (hb : Sk 40 b) (hc : Sk 40 c) (hd : Sk 40 d) (a0 : 0 < a) (d0 : 0 < d) (m : Md) : sp_x_law_rounded [.int c, .int d, .tup [.str "x", .str "round", .int a, .int b, .str m.s]] = .ok (dP (rndZ (c * b) (d * a) m * a, b)) := by
  have m1 : pMul (.int c) (.int b) = .ok (.int (c * b)) := pMul_ok (hc.mono (by decide)) (hb.mono (by decide))
  have m2 : pMul (.int d) (.int a) = .ok (.int (d * a)) := pMul_ok (hd.mono (by decide)) (ha.mono (by decide))
  have sA := hc.mul hb
  have sB := hd.mul ha
  have hB : 0 < d * a := Int.mul_pos d0 a0
  have sf := rndZ_sk sA sB m
  have m3 : pMul (.int (rndZ (c * b) (d * a) m)) (.int a) = .ok (.int (rndZ (c * b) (d * a) m * a)) := pMul_ok (sf.mono (by decide)) (ha.mono (by decide))
  have k1 : qEq (.str m.s) (.str "down") = .ok (.bl (decide (m = .down))) := md_eq m .down
  have k2 : qEq (.str m.s) (.str "up") = .ok (.bl (decide (m = .up))) := md_eq m .up
  have k3 : qEq (.str m.s) (.str "even") = .ok (.bl (decide (m = .even))) := md_eq m .even
  generalize c * b = A at *
  generalize d * a = B at *
  have m4 : pMul (.int 2) (.int A) = .ok (.int (2 * A)) := pMul_ok sm_lit (sA.mono (by decide))
  have m5 : pMul (.int 2) (.int B) = .ok (.int (2 * B)) := pMul_ok sm_lit (sB.mono (by decide))
  have d1 := pFdiv_ok (x := A) hB (sB.mono (by decide))
  have d2 := pFdiv_ok (x := -A) hB (sB.mono (by decide))
  have d3 : pFdiv (.int (2 * A + B)) (.int (2 * B)) = .ok (.int ((2 * A + B) / (2 * B))) := pFdiv_ok (by omega) (((show Sk 2 2 from by unfold Sk; decide).mul sB).mono (by decide))
  have d4 : pMod (.int (2 * A + B)) (.int (2 * B)) = .ok (.int ((2 * A + B) % (2 * B))) := pMod_ok (by omega)
  have d5 : ∀ x : Int, pMod (.int x) (.int 2) = .ok (.int (x % 2)) := fun x => pMod_ok (by decide)
  generalize m.s = ms at *
  cases m with
  | down => simp [rndZ] at m3; simp [sp_x_law_rounded, pDef, bp_x_law_rounded, startP, m1, m2, m3, k1, k2, k3, d1, maxLen, rndZ]
  | up => simp [rndZ] at m3; simp [sp_x_law_rounded, pDef, bp_x_law_rounded, startP, m1, m2, m3, k1, k2, k3, d2, maxLen, rndZ]
  | half => simp [rndZ] at m3; simp [sp_x_law_rounded, pDef, bp_x_law_rounded, startP, m1, m2, m3, m4, m5, k1, k2, k3, d3, maxLen, rndZ]
  | even =>
    by_cases c1 : (2 * A + B) % (2 * B) = 0
    · by_cases c2 : (2 * A + B) / (2 * B) % 2 = 1
      · simp [rndZ, c1, c2] at m3; simp [sp_x_law_rounded, pDef, bp_x_law_rounded, startP, m1, m2, m3, m4, m5, k1, k2, k3, d3, d4, d5, maxLen, rndZ, c1, c2]
      · simp [rndZ, c1, c2] at m3; simp [sp_x_law_rounded, pDef, bp_x_law_rounded, startP, m1, m2, m3, m4, m5, k1, k2, k3, d3, d4, d5, maxLen, rndZ, c1, c2]
    · simp [rndZ, c1] at m3; simp [sp_x_law_rounded, pDef, bp_x_law_rounded, startP, m1, m2, m3, m4, m5, k1, k2, k3, d3, d4, d5, maxLen, rndZ, c1]
end Lw

namespace Mi
open PySem
/-- a loop whose body goes on -/
theorem loop_inv {I : Dp → Prop} {g : MGp} {b : MSp} : ∀ {ps : List P}, (∀ p ∈ ps, ∀ δ, I δ → ∃ δ1, g p δ = some δ1 ∧ ∃ δ2, b δ1 = .nx δ2 ∧ I δ2) → ∀ δ, I δ → ∃ δ', uLoop g b ps δ = .nx δ' ∧ I δ'
  | [], _, δ, h => ⟨δ, rfl, h⟩
  | p :: ps, k, δ, h => by
    obtain ⟨δ1, e1, δ2, e2, h2⟩ := k p List.mem_cons_self δ h
    obtain ⟨δ', e3, h3⟩ := loop_inv (ps := ps) (fun q hq => k q (List.mem_cons_of_mem _ hq)) δ2 h2
    refine ⟨δ', ?_, h3⟩
    rw [v_uLoop, e1]
    dsimp only
    rw [e2]
    exact e3
end Mi
namespace Lw
open PySem Mi
theorem rndZ_down {A B : Int} (hB : 0 < B) : rndZ A B .down * B ≤ A ∧ A < (rndZ A B .down + 1) * B := by
  show A / B * B ≤ A ∧ A < (A / B + 1) * B
  have h1 := Int.mul_ediv_add_emod A B
  have h2 := Int.emod_nonneg A (show B ≠ 0 by omega)
  have h3 := Int.emod_lt_of_pos A hB
  have e1 : B * (A / B) = A / B * B := Int.mul_comm _ _
  have e2 : (A / B + 1) * B = A / B * B + B := by grind
  omega
theorem rndZ_up {A B : Int} (hB : 0 < B) : (rndZ A B .up - 1) * B < A ∧ A ≤ rndZ A B .up * B := by
  have h := rndZ_down (A := -A) hB
  have e1 : (-(-A / B) - 1) * B = -((-A / B + 1) * B) := by grind
  have e2 : -(-A / B) * B = -(-A / B * B) := by grind
  have h : -A / B * B ≤ -A ∧ -A < (-A / B + 1) * B := h
  show (-(-A / B) - 1) * B < A ∧ A ≤ -(-A / B) * B
  omega
theorem rndZ_near {A B : Int} (hB : 0 < B) (m : Md) (hm : m = .half ∨ m = .even) : 2 * (rndZ A B m * B - A) ≤ B ∧ -B ≤ 2 * (rndZ A B m * B - A) := by
  have h1 := Int.mul_ediv_add_emod (2 * A + B) (2 * B)
  have h2 := Int.emod_nonneg (2 * A + B) (show 2 * B ≠ 0 by omega)
  have h3 := Int.emod_lt_of_pos (2 * A + B) (show 0 < 2 * B by omega)
  have e1 : 2 * B * ((2 * A + B) / (2 * B)) = 2 * ((2 * A + B) / (2 * B) * B) := by grind
  rcases hm with rfl | rfl
  · show 2 * ((2 * A + B) / (2 * B) * B - A) ≤ B ∧ -B ≤ 2 * ((2 * A + B) / (2 * B) * B - A)
    omega
  · show 2 * ((if (2 * A + B) % (2 * B) = 0 ∧ (2 * A + B) / (2 * B) % 2 = 1 then (2 * A + B) / (2 * B) - 1 else (2 * A + B) / (2 * B)) * B - A) ≤ B ∧ -B ≤ 2 * ((if (2 * A + B) % (2 * B) = 0 ∧ (2 * A + B) / (2 * B) % 2 = 1 then (2 * A + B) / (2 * B) - 1 else (2 * A + B) / (2 * B)) * B - A)
    split
    · rename_i h
      have e2 : ((2 * A + B) / (2 * B) - 1) * B = (2 * A + B) / (2 * B) * B - B := by grind
      omega
    · omega
theorem law_round {a b c d : Int} (m : Md) (a0 : 0 < a) (ha : a ≤ 99) (b0 : 0 < b) (hb : b ≤ 99) (hc : Sk 40 c) (d0 : 0 < d) (hd : Sk 40 d) : sp_x_law_round_right [.int a, .int b, .int c, .int d, .str m.s] = .ok (.bl true) := by
  have sa : Sk 7 a := by unfold Sk; omega
  have sb : Sk 7 b := by unfold Sk; omega
  have f1 := ratio_new a b b0 (sb.mono (by decide))
  have f2 := ratio_new c d d0 (hd.mono (by decide))
  have f3 := ratio_new1 0
  have hx := low_fr (a := a) b0
  have hv := low_fr (a := c) d0
  have sx := low_small (a := a) (b := b) (by omega) hb b0
  have qv := low_sq hc hd d0
  generalize low (a, b) = x at *
  generalize low (c, d) = v at *
  have qx := small_sq sx hx.pos
  have x0 : 0 < x.1 := by
    have e := hx.eq
    have : 0 < x.1 * b := by rw [e]; exact Int.mul_pos a0 hx.pos
    exact pos_l this b0
  have n1 : ep_Round [oR x, .str m.s] = .ok (oS 4 x (.str m.s)) := round_new m sx x0
  have hB : 0 < d * a := Int.mul_pos d0 a0
  have hdb : 0 < d * b := Int.mul_pos d0 b0
  have hbb : 0 < b * b := Int.mul_pos b0 b0
  have hbd : 0 < b * d := Int.mul_pos b0 d0
  have lr := law_rounded (sa.mono (by decide)) (sb.mono (by decide)) hc hd a0 d0 m
  -- the result
  have c1 : callIP csP2 (oS 4 x (.str m.s)) [oR v] = .ok (oR (rd v x m)) := call_round (k := 39) m qv qx x0 (by decide)
  have hr := rd_fr m hv hx a0 b0 d0
  have qr := rd_sq (k := 39) qv qx x0 m
  have c2 : callIP csP2 (oS 4 x (.str m.s)) [oR (rd v x m)] = .ok (oR (rd (rd v x m) x m)) := call_round (k := 54) m qr qx x0 (by decide)
  have hrr := rd_fr m hr hx a0 b0 b0
  have sf := rndZ_sk ((hc.mul sb).mono (show 40 + 7 ≤ 47 by decide)) ((hd.mul sa).mono (show 40 + 7 ≤ 47 by decide)) m
  have z1 : rd (rd v x m) x m = rd v x m := hrr.same hr b0 b0 (by
    have e := rndZ_int (rndZ (c * b) (d * a) m) (b * a) (Int.mul_pos b0 a0) m
    rw [show rndZ (c * b) (d * a) m * a * b = rndZ (c * b) (d * a) m * (b * a) by rw [Int.mul_assoc, Int.mul_comm a b], e, Int.mul_assoc, Int.mul_comm a b])
  rw [z1] at c2
  -- two units
  have htw := (hx.add hx).conv (A' := 2 * a) (B' := b) hbb (by grind)
  have qtw := add_sq qx qx
  have g1 := add_ (qx.sp (by decide)) (qx.sp (by decide))
  generalize add x x = w at *
  have g2 := add_ (qv.sp (by decide)) (qtw.sp (by decide))
  have g3 := sub_ (qv.sp (by decide)) (qtw.sp (by decide))
  have g4 := add_ (qr.sp (by decide)) (qtw.sp (by decide))
  have g5 := sub_ (qr.sp (by decide)) (qtw.sp (by decide))
  have g6 := add_ (qr.sp (by decide)) (qx.sp (by decide))
  have g7 := sub_ (qr.sp (by decide)) (qx.sp (by decide))
  have g8 := sub_ (qr.sp (by decide)) (qv.sp (by decide))
  have c3 : callIP csP2 (oS 4 x (.str m.s)) [oR (add v w)] = .ok (oR (rd (add v w) x m)) := call_round (k := 55) m (add_sq qv qtw) qx x0 (by decide)
  have c4 : callIP csP2 (oS 4 x (.str m.s)) [oR (add v (neg w))] = .ok (oR (rd (add v (neg w)) x m)) := call_round (k := 55) m (add_sq qv (neg_sq qtw)) qx x0 (by decide)
  have z2 : rd (add v w) x m = add (rd v x m) w := (rd_fr m (hv.add htw) hx a0 b0 hdb).same (hr.add htw) b0 hbb (by
    have e := rndZ_add (c * b) (d * a) 1 hB m
    have e2 := rndZ_scale (c * b + 2 * 1 * (d * a)) (d * a) b hB b0 m
    rw [show (c * b + 2 * a * d) * b = (c * b + 2 * 1 * (d * a)) * b by grind, show d * b * a = d * a * b by grind, e2, e]
    grind)
  have z3 : rd (add v (neg w)) x m = add (rd v x m) (neg w) := (rd_fr m (hv.add htw.neg) hx a0 b0 hdb).same (hr.add htw.neg) b0 hbb (by
    have e := rndZ_add (c * b) (d * a) (-1) hB m
    have e2 := rndZ_scale (c * b + 2 * -1 * (d * a)) (d * a) b hB b0 m
    rw [show (c * b + -(2 * a) * d) * b = (c * b + 2 * -1 * (d * a)) * b by grind, show d * b * a = d * a * b by grind, e2, e]
    grind)
  rw [z2] at c3
  rw [z3] at c4
  -- parts of the step
  have t1 : attrP csP2 "mode" (oS 4 x (.str m.s)) = .ok (.str m.s) := by
    show (sp_Round_mode [oS 4 x (.str m.s)]).noex = _
    rw [round_mode]; rfl
  have t2 : attrP csP2 "unit" (oS 4 x (.str m.s)) = .ok (oR x) := by
    show (sp_Round_unit [oS 4 x (.str m.s)]).noex = _
    rw [round_unit hx.lo (qx.2.1.mono (by decide))]; rfl
  have k0 : qNe (.str m.s) (.str m.s) = .ok (.bl false) := by rw [md_ne]; simp
  have k1 : qEq (.str m.s) (.str "down") = .ok (.bl (decide (m = .down))) := md_eq m .down
  have k2 : qEq (.str m.s) (.str "up") = .ok (.bl (decide (m = .up))) := md_eq m .up
  have k3 : ownP csP2 "__eq__" qEq (oS 4 x (.str m.s)) (oS 4 x (.str m.s)) = .ok (.bl true) := by
    have := eq_step (c := 4) (c' := 4) (n := x) (n' := x) (r := some m) (r' := some m) (by decide) (by decide)
    show ownP csP2 "__eq__" qEq (oS 4 x (rl (some m))) (oS 4 x (rl (some m))) = _
    rw [this]
    simp
  have p1 := is_pair hr (qr.1.mono (by decide)) (qr.2.1.mono (by decide)) ((sf.mul sa).mono (by decide)) (sb.mono (by decide))
  -- order
  have l1 := le_ (qr.sp (by decide)) (qv.sp (by decide))
  have l2 := le_ (qv.sp (by decide)) (qr.sp (by decide))
  have l3 := le_ ((add_sq qr qx).sp (by decide)) (qv.sp (by decide))
  have l4 := le_ (qv.sp (by decide)) ((add_sq qr (neg_sq qx)).sp (by decide))
  have i1 := hr.le hv b0 d0
  have i2 := hv.le hr d0 b0
  have i3 := (hr.add hx).le hv hbb d0
  have i4 := hv.le (hr.sub hx) d0 hbb
  have he := hr.sub hv
  have qe := add_sq qr (neg_sq qv)
  have l5 := le_ ((low_sq (k := 1) (a := 0) (b := 1) (by unfold Sk; decide) (by unfold Sk; decide) (by decide)).sp (by decide)) (qe.sp (by decide))
  have i5 := (low_fr (a := 0) (b := 1) (by decide)).le he (by decide) hbd
  have g9 := add_ (qe.sp (by decide)) (qe.sp (by decide))
  have g10 := neg_ (qe.sp (by decide)) he.lo
  have g11 := sub_ ((neg_sq qe).sp (by decide)) (qe.sp (by decide))
  have l6 := le_ ((add_sq qe qe).sp (by decide)) (qx.sp (by decide))
  have l7 := le_ ((add_sq (neg_sq qe) (neg_sq qe)).sp (by decide)) (qx.sp (by decide))
  have i6 := (he.add he).le hx (Int.mul_pos hbd hbd) b0
  have i7 := (he.neg.add he.neg).le hx (Int.mul_pos hbd hbd) b0
  have E1 := rndZ_down (A := c * b) hB
  have E2 := rndZ_up (A := c * b) hB
  have E3 := rndZ_near (A := c * b) hB m
  generalize rd v x m = r at *
  generalize add r (neg v) = e at *
  generalize m.s = ms at *
  by_cases d1 : m = .down
  · subst d1
    generalize rndZ (c * b) (d * a) .down = f at *
    have j1 : r.1 * v.2 ≤ v.1 * r.2 := i1.mpr (by grind)
    have j2 : ¬ ((add r x).1 * v.2 ≤ v.1 * (add r x).2) := fun z => by
      have z := i3.mp z
      have z : ((f + 1) * (d * a)) * b ≤ (c * b) * b := by grind
      have := Int.le_of_mul_le_mul_right z b0
      omega
    simp [sp_x_law_round_right, pDef, bp_x_law_round_right, startP, f1, f2, f3, n1, lr, maxLen, c1, c2, c3, c4, g1, g2, g3, g4, g5, g6, g7, g8, t1, t2, k0, k1, k2, k3, p1, l1, l3, j1, j2]
  · by_cases d2 : m = .up
    · subst d2
      generalize rndZ (c * b) (d * a) .up = f at *
      have j1 : v.1 * r.2 ≤ r.1 * v.2 := i2.mpr (by grind)
      have j2 : ¬ (v.1 * (add r (neg x)).2 ≤ (add r (neg x)).1 * v.2) := fun z => by
        have z := i4.mp z
        have z : (c * b) * b ≤ ((f - 1) * (d * a)) * b := by grind
        have := Int.le_of_mul_le_mul_right z b0
        omega
      simp [sp_x_law_round_right, pDef, bp_x_law_round_right, startP, f1, f2, f3, n1, lr, maxLen, c1, c2, c3, c4, g1, g2, g3, g4, g5, g6, g7, g8, t1, t2, k0, k1, k2, k3, p1, l2, l4, j1, j2]
    · have E3 := E3 (by cases m <;> simp at d1 d2 ⊢)
      generalize rndZ (c * b) (d * a) m = f at *
      generalize low (0, 1) = o at *
      by_cases d3 : o.1 * e.2 ≤ e.1 * o.2
      · have j1 : (add e e).1 * x.2 ≤ x.1 * (add e e).2 := i6.mpr (by
          have z : (2 * (f * (d * a) - c * b)) * (b * (b * d)) ≤ (d * a) * (b * (b * d)) := Int.mul_le_mul_of_nonneg_right E3.1 (Int.le_of_lt (Int.mul_pos b0 hbd))
          grind)
        simp [sp_x_law_round_right, pDef, bp_x_law_round_right, startP, f1, f2, f3, n1, lr, maxLen, c1, c2, c3, c4, g1, g2, g3, g4, g5, g6, g7, g8, g9, g10, g11, t1, t2, k0, k1, k2, k3, p1, d1, d2, l5, l6, d3, j1]
      · have j1 : (add (neg e) (neg e)).1 * x.2 ≤ x.1 * (add (neg e) (neg e)).2 := i7.mpr (by
          have z : (-(d * a)) * (b * (b * d)) ≤ (2 * (f * (d * a) - c * b)) * (b * (b * d)) := Int.mul_le_mul_of_nonneg_right E3.2 (Int.le_of_lt (Int.mul_pos b0 hbd))
          grind)
        simp [sp_x_law_round_right, pDef, bp_x_law_round_right, startP, f1, f2, f3, n1, lr, maxLen, c1, c2, c3, c4, g1, g2, g3, g4, g5, g6, g7, g8, g9, g10, g11, t1, t2, k0, k1, k2, k3, p1, d1, d2, l5, l7, d3, j1]
theorem law_modes {S o1 o2 o3 o4 o9 : Option P} {b c d u : Int} (u0 : 0 < u) (hu : u ≤ 99) (b0 : 0 < b) (hb : b ≤ 99) (hc : -2000 ≤ c ∧ c ≤ 2000) (d0 : 0 < d) (hd : d ≤ 60) : uLoop (hNm 9) lp_x_law_all_right_0 [.str "down", .str "up", .str "half", .str "even"] [S, o1, o2, o3, o4, some (.int b), some (.int c), some (.int d), some (.int u), o9] = .nx [S, o1, o2, o3, o4, some (.int b), some (.int c), some (.int d), some (.int u), some (.str "even")] := by
  have sc : Sk 40 c := by unfold Sk; omega
  have sd : Sk 40 d := by unfold Sk; omega
  have k0 := Int.emod_nonneg c (show (40 : Int) ≠ 0 by decide)
  have k1 := Int.emod_lt_of_pos c (show (0 : Int) < 40 by decide)
  have e1 : pMod (.int c) (.int 40) = .ok (.int (c % 40)) := pMod_ok (by decide)
  generalize c % 40 = k at *
  have su : Sk 7 u := by unfold Sk; omega
  have sb : Sk 7 b := by unfold Sk; omega
  have s1 : Sk 7 (2 * k - 39) := by unfold Sk; omega
  have s2 : Sk 7 (k - 20) := by unfold Sk; omega
  have e2 : pMul (.int 2) (.int k) = .ok (.int (2 * k)) := pMul_ok sm_lit ((show Sk 7 k by unfold Sk; omega).mono (by decide))
  have e3 : pMul (.int (2 * k - 39)) (.int u) = .ok (.int ((2 * k - 39) * u)) := pMul_ok (s1.mono (by decide)) (su.mono (by decide))
  have e4 : pMul (.int (k - 20)) (.int u) = .ok (.int ((k - 20) * u)) := pMul_ok (s2.mono (by decide)) (su.mono (by decide))
  have e5 : pMul (.int 2) (.int b) = .ok (.int (2 * b)) := pMul_ok sm_lit (sb.mono (by decide))
  have r1 := fun m => law_round (a := u) (b := b) (c := c) (d := d) m u0 hu b0 hb sc d0 sd
  have r2 := fun m => law_round (a := u) (b := b) (c := (2 * k - 39) * u) (d := 2 * b) m u0 hu b0 hb ((s1.mul su).mono (by decide)) (by omega) (by unfold Sk; omega)
  have r3 := fun m => law_round (a := u) (b := b) (c := (k - 20) * u) (d := b) m u0 hu b0 hb ((s2.mul su).mono (by decide)) b0 (sb.mono (by decide))
  have r11 := r1 .down
  have r12 := r1 .up
  have r13 := r1 .half
  have r14 := r1 .even
  have r21 := r2 .down
  have r22 := r2 .up
  have r23 := r2 .half
  have r24 := r2 .even
  have r31 := r3 .down
  have r32 := r3 .up
  have r33 := r3 .half
  have r34 := r3 .even
  simp only [Md.s] at *
  simp [v_uLoop, lp_x_law_all_right_0, e1, e2, e3, e4, e5, r11, r12, r13, r14, r21, r22, r23, r24, r31, r32, r33, r34]
theorem law_turn (S : P) (i s t v : Int) (hn : sp_x_law_number [S, .int (20 + i)] = .ok (.int v)) (hs : pIx (.tup [.int 9, .int 60, .int 99]) (.int (i % 3)) = .ok (.int s)) (ht : pIx (.tup [.int 12, .int 60]) (.int (i % 2)) = .ok (.int t)) (s0 : 1 ≤ s) (s1 : s ≤ 99) (t0 : 1 ≤ t) (t1 : t ≤ 60)
    (o2 o3 o4 o5 o6 o7 o8 o9 : Option P) : ∃ u2 u3 u4 u5 u6 u7 u8 u9, lp_x_law_all_right_1 [some S, some (.int i), o2, o3, o4, o5, o6, o7, o8, o9] = .nx [some S, some (.int i), u2, u3, u4, u5, u6, u7, u8, u9] := by
  have e1 : pMod (.int i) (.int 3) = .ok (.int (i % 3)) := pMod_ok (by decide)
  have e2 : pMod (.int i) (.int 2) = .ok (.int (i % 2)) := pMod_ok (by decide)
  generalize i % 3 = i3 at *
  generalize i % 2 = i2 at *
  have ss : Sm s := (show Sk 7 s by unfold Sk; omega).mono (by decide)
  have e3 : pMul (.int 2) (.int s) = .ok (.int (2 * s)) := pMul_ok sm_lit ss
  have e4 : pMod (.int v) (.int (2 * s + 1)) = .ok (.int (v % (2 * s + 1))) := pMod_ok (by omega)
  have a0 := Int.emod_nonneg v (show 2 * s + 1 ≠ 0 by omega)
  have a1 := Int.emod_lt_of_pos v (show 0 < 2 * s + 1 by omega)
  generalize v % (2 * s + 1) = va at *
  have e5 : pFdiv (.int v) (.int 300) = .ok (.int (v / 300)) := pFdiv_ok (by decide) sm_lit
  have e6 : pMod (.int (v / 300)) (.int s) = .ok (.int (v / 300 % s)) := pMod_ok (by omega)
  have b0 := Int.emod_nonneg (v / 300) (show s ≠ 0 by omega)
  have b1 := Int.emod_lt_of_pos (v / 300) (show 0 < s by omega)
  generalize v / 300 % s = vb at *
  have e7 : pFdiv (.int v) (.int 7) = .ok (.int (v / 7)) := pFdiv_ok (by decide) sm_lit
  have e8 : pMod (.int (v / 7)) (.int 4001) = .ok (.int (v / 7 % 4001)) := pMod_ok (by decide)
  have c0 := Int.emod_nonneg (v / 7) (show (4001 : Int) ≠ 0 by decide)
  have c1 := Int.emod_lt_of_pos (v / 7) (show (0 : Int) < 4001 by decide)
  generalize v / 7 % 4001 = vc at *
  have e9 : pFdiv (.int v) (.int 40000) = .ok (.int (v / 40000)) := pFdiv_ok (by decide) sm_lit
  have e10 : pMod (.int (v / 40000)) (.int t) = .ok (.int (v / 40000 % t)) := pMod_ok (by omega)
  have d0 := Int.emod_nonneg (v / 40000) (show t ≠ 0 by omega)
  have d1 := Int.emod_lt_of_pos (v / 40000) (show 0 < t by omega)
  generalize v / 40000 % t = vd at *
  have e11 : pMod (.int (vc - 2000)) (.int 3) = .ok (.int ((vc - 2000) % 3)) := pMod_ok (by decide)
  have k0 := Int.emod_nonneg (vc - 2000) (show (3 : Int) ≠ 0 by decide)
  have k1 := Int.emod_lt_of_pos (vc - 2000) (show (0 : Int) < 3 by decide)
  generalize hk : (vc - 2000) % 3 = k at *
  have r1 := law_ratios (a := va - s) (b := 1 + vb) (c := vc - 2000) (d := 1 + vd) (by unfold Sk; omega) (by unfold Sk; omega) (by unfold Sk; omega) (by unfold Sk; omega) (by omega) (by omega)
  have r2 := law_ratios (a := va - s) (b := 1 + vb) (c := va - s + k - 1) (d := 1 + vb) (by unfold Sk; omega) (by unfold Sk; omega) (by unfold Sk; omega) (by unfold Sk; omega) (by omega) (by omega)
  have r3 := law_steps (a := va - s) (b := 1 + vb) (c := vc - 2000) (d := 1 + vd) (by omega) (by omega) (by omega) (by unfold Sk; omega) (by unfold Sk; omega) (by omega)
  have r4 := fun (u : Int) (u0 : 0 < u) (hu : u ≤ 99) (o1 o2 o3 o4 o9 : Option P) => law_modes (S := some S) (o1 := o1) (o2 := o2) (o3 := o3) (o4 := o4) (o9 := o9) (b := 1 + vb) (c := vc - 2000) (d := 1 + vd) u0 hu (by omega) (by omega) (by omega) (by omega) (by omega)
  by_cases ca : ((va - s).natAbs : Int) < 99
  · have r5 := r4 ((va - s).natAbs + 1) (by omega) (by omega)
    simp [lp_x_law_all_right_1, hn, e1, hs, e2, ht, e3, e4, e5, e6, e7, e8, e9, e10, e11, hk, r1, r2, r3, ca, maxLen, r5]
  · have r5 := r4 4 (by omega) (by omega)
    simp [lp_x_law_all_right_1, hn, e1, hs, e2, ht, e3, e4, e5, e6, e7, e8, e9, e10, e11, hk, r1, r2, r3, ca, maxLen, r5]
theorem law_all (ns : List Int) (hl : ns.length ≤ 63) : sp_x_law_all_right [.rol (ns.map P.int)] = .ok (.bl true) := by
  have key := loop_inv (I := fun δ => ∃ u1 u2 u3 u4 u5 u6 u7 u8 u9, δ = [some (.rol (ns.map P.int)), u1, u2, u3, u4, u5, u6, u7, u8, u9]) (g := hNm 1) (b := lp_x_law_all_right_1) (ps := rangeP 0 8) (fun p hp δ h => by
    obtain ⟨u1, u2, u3, u4, u5, u6, u7, u8, u9, rfl⟩ := h
    have hp : p ∈ [P.int 0, .int 1, .int 2, .int 3, .int 4, .int 5, .int 6, .int 7] := hp
    obtain ⟨i, s, t, rfl, h0, h1, h2, h3, h4, h5, h6, h7⟩ : ∃ i s t : Int, p = .int i ∧ pIx (.tup [.int 9, .int 60, .int 99]) (.int (i % 3)) = .ok (.int s) ∧ pIx (.tup [.int 12, .int 60]) (.int (i % 2)) = .ok (.int t) ∧ 1 ≤ s ∧ s ≤ 99 ∧ 1 ≤ t ∧ t ≤ 60 ∧ 0 ≤ i ∧ i ≤ 7 := by
      simp only [List.mem_cons, List.not_mem_nil, or_false] at hp
      rcases hp with rfl | rfl | rfl | rfl | rfl | rfl | rfl | rfl
      · exact ⟨0, 9, 12, rfl, rfl, rfl, by decide⟩
      · exact ⟨1, 60, 60, rfl, rfl, rfl, by decide⟩
      · exact ⟨2, 99, 12, rfl, rfl, rfl, by decide⟩
      · exact ⟨3, 9, 60, rfl, rfl, rfl, by decide⟩
      · exact ⟨4, 60, 12, rfl, rfl, rfl, by decide⟩
      · exact ⟨5, 99, 60, rfl, rfl, rfl, by decide⟩
      · exact ⟨6, 9, 12, rfl, rfl, rfl, by decide⟩
      · exact ⟨7, 60, 60, rfl, rfl, rfl, by decide⟩
    obtain ⟨v, v0, hn⟩ := law_number_eq ns hl (20 + i) (by omega) (by omega)
    obtain ⟨w2, w3, w4, w5, w6, w7, w8, w9, e⟩ := law_turn (.rol (ns.map P.int)) i s t v hn h0 h1 h2 h3 h4 h5 u2 u3 u4 u5 u6 u7 u8 u9
    exact ⟨_, rfl, _, e, _, _, _, _, _, _, _, _, _, rfl⟩) [some (.rol (ns.map P.int)), none, none, none, none, none, none, none, none, none] ⟨_, _, _, _, _, _, _, _, _, rfl⟩
  obtain ⟨δ', e, u1, u2, u3, u4, u5, u6, u7, u8, u9, rfl⟩ := key
  have f1 := ratio_new 2 3 (by decide) sm_lit
  have f2 := ratio_new 4 6 (by decide) sm_lit
  have f3 := ratio_new1 1
  rw [show low (2, 3) = (2, 3) by decide] at f1
  rw [show low (4, 6) = (2, 3) by decide] at f2
  rw [show low (1, 1) = (1, 1) by decide] at f3
  have g1 : ep_Round [oR (2, 3)] = .ok (oS 4 (2, 3) (rl (some .half))) := round_new1 (by unfold Small; decide) (by decide)
  have g2 : ep_Round [oR (2, 3), .str "half"] = .ok (oS 4 (2, 3) (rl (some .half))) := round_new .half (by unfold Small; decide) (by decide)
  have g3 : ep_Round [oR (1, 1), .str "up"] = .ok (oS 4 (1, 1) (rl (some .up))) := round_new .up (by unfold Small; decide) (by decide)
  have g4 : ep_Round [oR (1, 1), .str "down"] = .ok (oS 4 (1, 1) (rl (some .down))) := round_new .down (by unfold Small; decide) (by decide)
  have g5 := eq_step (c := 4) (c' := 4) (n := (2, 3)) (n' := (2, 3)) (r := some .half) (r' := some .half) (by decide) (by decide)
  have g6 := ne_step (c := 4) (c' := 4) (n := (1, 1)) (n' := (1, 1)) (r := some .up) (r' := some .down) (by decide) (by decide)
  simp [sp_x_law_all_right, pDef, bp_x_law_all_right, startP, e, f1, f2, f3, g1, g2, g3, g4, g5, g6]
theorem lawTrue (ns : List Int) (hl : ns.length ≤ 63) : ∃ h', s_law [.ref 0] [.rol (ns.map Mi.D.int)] = .ok (.bl true) h' := law_of ns (by
  have e := law_all ns hl
  simp [sp_law, pDef, bp_law, startP, e])
end Lw



namespace Lw
open PySem PySem.Spec PyProof.Rows L2 Mi He
theorem fin {w : World} {K : PySem.W.Frag} {mg : Str → Option Value} {h : Heap} {f : Addr} (KX : K.In h) (Gn : h.Ns mainGlobals mg) (hfa : mg "law" = some (.ref f)) (c : SaysM fns extra K) :
    ∃ fd : FuncData, (∀ (s : Shared) (v : Value), BindsTo s fd ⟨[v], []⟩ [("_law_script", v)]) ∧ ∀ base : Heap, K.In base → base.Ns mainGlobals mg → FnOk prog w K mg base CX0 24 f fd ["_law_script"] (fun vs H Q _ => spOf (Tk cn K) K 1 s_law vs H Q fun _ _ _ => False) := by
  have e := c.fd 41 (d := d_law) rfl
  obtain ⟨fd, h1, h2⟩ := FD.law (T := Tk cn K) (g := cg_law) (k := 23) 40 K e.1 e.2 rfl rfl sc_law fun _ _ _ _ _ _ _ us hl => match us, hl with | [_], _ => rfl
  have h0 : HH ⟨prog, w, K, mg, h, 0⟩ := ⟨rfl, c, h, KX, Gn⟩
  have ef : f = d_law.ad K := by
    have z := hfa.symm.trans (h0.glo (fa h0 82 rfl))
    cases z
    rfl
  subst ef
  refine ⟨fd, h1, fun base bK bN => ?_⟩
  have hb : HH ⟨prog, w, K, mg, base, 0⟩ := ⟨rfl, c, base, bK, bN⟩
  have q := h2 prog w mg base (gl_law hb)
  exact Eq.mp (congrArg (fun s => FnOk prog w K mg base CX0 24 (d_law.ad K) fd ["_law_script"] (fun vs H Q _ => spOf (Tk cn K) K 1 s vs H Q fun _ _ _ => False)) c_law) q
end Lw
open PySem PySem.W PySem.Calls PyProof.Rows
theorem PySem.Challenge.cw_backsame_k03_whole_steps_holds : PySem.Challenge.rw_backsame_k03_whole_steps.Holds := by
  w_on; o_law
  refine HandSHeadRun.head_any (r := OpenLaw.row PySem.Challenge.rw_backsame_k03_whole_steps) (q := view (OpenLaw.row PySem.Challenge.rw_backsame_k03_whole_steps).prog [33]) (H := Lw.hk) (ob := Lw.ob) (M := 12000) (loose := Lw.loose) (d := HandSHeadRun.topDef (OpenLaw.row PySem.Challenge.rw_backsame_k03_whole_steps).prog 33) (kwd := []) Lw.ob_eq
    (by kernel_rfl) (fun s => by kernel_rfl) Lw.run (by kernel_rfl) (by kernel_rfl) (by kernel_rfl) (by rfl) (by first | assumption | decide +kernel) (by decide +kernel) ⟨rfl, rfl, rfl, rfl, rfl, by decide +kernel⟩ ?hw ?hc
  case hw => w_witness2
  case hc =>
    refine L2.walk_ofE (l := PySem.Challenge.rw_backsame_k03_whole_steps) (n := 63) (k := 24) (x := "_law_script") (CX := L2.CX0) rfl (by decide) (by kernel_rfl) ⟨rfl, by decide, by decide⟩ ?F (fun _ _ _ _ z => z)
    intro w mg fa h Y G hmg0
    obtain ⟨K, KX, c⟩ := Y
    have hmg : mg ("law" : PySem.Str) = some (.ref fa) := by
      have e : (HandSHeadRun.topDef (OpenLaw.row PySem.Challenge.rw_backsame_k03_whole_steps).prog 33).name = ("law" : PySem.Str) := by kernel_rfl
      rw [← e]
      exact hmg0
    obtain ⟨fd, hb, hF⟩ := Lw.fin (w := w) KX G hmg c
    exact ⟨K, fd, fun vs H Q _ => Mi.spOf (Mi.Tk Lw.cn K) K 1 Lw.s_law vs H Q fun _ _ _ => False, KX, hb, fun H a ns hl hO hS => Mi.law_sp hO hS (Lw.lawTrue ns hl), hF⟩
