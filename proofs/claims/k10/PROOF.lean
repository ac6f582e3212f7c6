import PyProof.Rows.All
import Wide.All
import OpenK.AllK
import Wide.FinOn
import HandS.Base
import HandS.Call
import HandS.List
import HandS.Comp
import HandS.Ends
import HandS.Dict
import HandS.Iter
import HandS.Text
import HandS.Words
import HandS.WordsList
import HandS.Exc
import HandS.ExcOwn
import HandS.Defaults
import HandS.TupLe
import HandS.Wide
import HandS.More
import HandS.HeadHook1
import HandS.WordsExc
import HandS.TryOnly
import HandS.MakeKw
import HandS.IsInst
import HandS.TupAny
import HandS.Style
import HandS.Small
import HandS.EndBits
import HandS.HeadEnd
import KE.KStateDown
import HandS.Head0
import HandS.Head1
import HandS.Head2
import HandS.HeadHook2
import PySem.Challenge.RW_webassize_k10_rows_added_and_divided
set_option Elab.async false
set_option linter.all false
set_option maxRecDepth 100000
set_option maxHeartbeats 0
/-! M0: a plain reading of the programs: values, a heap as a list, what each construct does. -/
namespace MM
open PySem

/-! ### values -/
inductive TN where
  | non | bl | int | str | tup | lst | dct
  deriving DecidableEq
def TN.nm : TN → String
  | .non => "NoneType"
  | .bl => "bool"
  | .int => "int"
  | .str => "str"
  | .tup => "tuple"
  | .lst => "list"
  | .dct => "dict"
inductive MV where
  | non | bl (b : Bool) | int (i : Int) | str (x : Str) | tup (vs : List MV) | ref (p : Nat) | fn (x : Str) | cls (x : Str) | ty (n : TN) | scr (vs : List MV) | ctup (vs : List MV)
inductive MO where
  | lst (vs : List MV) | dct (kvs : List (MV × MV)) | dctT (kvs : List (MV × MV)) | ins (C : Str) (fs : List (Str × MV))
abbrev Mh := List MO
abbrev Fs := List (Str × MV)
abbrev Env := List (Option MV)
inductive R (α : Type) where
  | ok (a : α) (A : Mh)
  | exc (C : Str) (fs : Fs) (A : Mh)
  | bad
def R.bind {α β : Type} (r : R α) (k : α → Mh → R β) : R β := match r with
  | .ok a A => k a A
  | .exc C fs A => .exc C fs A
  | .bad => .bad
/-- a value op: none where it isn't served -/
abbrev OV := Option (MV × Mh)
def R.of (o : OV) : R MV := match o with
  | some (v, A) => .ok v A
  | none => .bad
structure Ctx where
  call : Str → List MV → Mh → R MV
  call1 : Str → List MV → Mh → R MV
  meth : Str → Str → Option Str
abbrev ME := Ctx → Env → Mh → R MV
abbrev MT := Ctx → Env → Mh → R Bool
abbrev MA := Ctx → Env → Mh → R (List MV)
/-! ### expressions -/
def eV (i : Nat) : ME := fun _ ρ A => match ρ[i]? with
  | some (some v) => .ok v A
  | _ => .bad
def eC (v : MV) : ME := fun _ _ A => .ok v A
abbrev B2 := MV → MV → Mh → OV
abbrev B1 := MV → Mh → OV
abbrev BN := List MV → Mh → OV
abbrev B3 := MV → MV → MV → Mh → Option Mh
def eB2 (f : B2) (a b : ME) : ME := fun c ρ A => (a c ρ A).bind fun x A1 => (b c ρ A1).bind fun y A2 => .of (f x y A2)
def eB1 (f : B1) (a : ME) : ME := fun c ρ A => (a c ρ A).bind fun x A1 => .of (f x A1)
def aN : MA := fun _ _ A => .ok [] A
def aC (a : ME) (r : MA) : MA := fun c ρ A => (a c ρ A).bind fun x A1 => (r c ρ A1).bind fun xs A2 => .ok (x :: xs) A2
/-- a built-in called by values -/
def eBN (f : BN) (as : MA) : ME := fun c ρ A => (as c ρ A).bind fun xs A1 => .of (f xs A1)
def eTup (as : MA) : ME := fun c ρ A => (as c ρ A).bind fun xs A1 => if xs.length ≤ 1000 then .ok (.tup xs) A1 else .bad
def eLst (as : MA) : ME := fun c ρ A => (as c ρ A).bind fun xs A1 => if xs.length ≤ 1000 then .ok (.ref A1.length) (A1 ++ [.lst xs]) else .bad
def eIf (t : MT) (a b : ME) : ME := fun c ρ A => (t c ρ A).bind fun k A1 => if k = true then a c ρ A1 else b c ρ A1
def eNot (a : ME) : ME := fun c ρ A => (a c ρ A).bind fun x A1 => match x with
  | .bl k => .ok (.bl (!k)) A1
  | _ => .bad
def eAnd (a b : ME) : ME := fun c ρ A => (a c ρ A).bind fun x A1 => match x with
  | .bl true => b c ρ A1
  | .bl false => .ok (.bl false) A1
  | _ => .bad
def eOr (a b : ME) : ME := fun c ρ A => (a c ρ A).bind fun x A1 => match x with
  | .bl true => .ok (.bl true) A1
  | .bl false => b c ρ A1
  | _ => .bad
/-- x op y op z -/
def eCh (f g : B2) (a b d : ME) : ME := fun c ρ A => (a c ρ A).bind fun x A1 => (b c ρ A1).bind fun y A2 => (R.of (f x y A2)).bind fun k A3 => match k with
  | .bl true => (d c ρ A3).bind fun z A4 => .of (g y z A4)
  | .bl false => .ok (.bl false) A3
  | _ => .bad
/-- f(..) of an own def -/
def eCall (f : Str) (as : MA) (g : List MV → List MV) : ME := fun c ρ A => (as c ρ A).bind fun xs A1 => c.call f (g xs) A1
/-! ### ops by values -/
def seqOf (v : MV) (A : Mh) : Option (List MV) := match v with
  | .tup vs => some vs
  | .ctup vs => some vs
  | .scr vs => some vs
  | .ref p => (match A[p]? with
    | some (.lst vs) => some vs
    | _ => none)
  | _ => none
def newL (vs : List MV) (A : Mh) : OV := if vs.length ≤ 1000000 then some (.ref A.length, A ++ [.lst vs]) else none
def pureV (v : MV) (A : Mh) : OV := some (v, A)
def tupOf : MV → Option (List MV)
  | .tup vs => some vs
  | .ctup vs => some vs
  | _ => none
def vAdd : B2 := fun x y A => match x, y with
  | .int i, .int j => some (.int (i + j), A)
  | .str i, .str j => if i.length + j.length ≤ 1000000 then some (.str (i ++ j), A) else none
  | .ref p, .ref q => (match A[p]?, A[q]? with
    | some (.lst xs), some (.lst ys) => newL (xs ++ ys) A
    | _, _ => none)
  | x, y => (match tupOf x, tupOf y with
    | some xs, some ys => if xs ≠ [] ∧ ys ≠ [] ∧ xs.length + ys.length ≤ 1000000 then some (.tup (xs ++ ys), A) else none
    | _, _ => none)
def vSub : B2 := fun x y A => match x, y with
  | .int i, .int j => some (.int (i - j), A)
  | _, _ => none
def vMul : B2 := fun x y A => match x, y with
  | .int i, .int j => if i.natAbs.log2 + j.natAbs.log2 < 1000000 then some (.int (i * j), A) else none
  | _, _ => none
def vDiv : B2 := fun x y A => match x, y with
  | .int i, .int j => if 0 < j ∧ j.natAbs.log2 < 9000 then some (.int (i / j), A) else none
  | _, _ => none
def vMod : B2 := fun x y A => match x, y with
  | .int i, .int j => if 0 < j then some (.int (i % j), A) else none
  | _, _ => none
noncomputable def vPow : B2 := fun x y A => match x, y with
  | .int i, .int j => @ite _ (0 ≤ j ∧ j ≤ 1000000 ∧ i.natAbs < 2 ^ 64) (Classical.propDecidable _) (some (.int (i ^ j.toNat), A)) none
  | _, _ => none
def vAug : B2 := fun x y A => match x, y with
  | .int i, .int j => some (.int (i + j), A)
  | .str i, .str j => if i.length + j.length ≤ 1000000 then some (.str (i ++ j), A) else none
  | _, _ => none
def vNeg : B1 := fun x A => match x with
  | .int i => some (.int (-i), A)
  | _ => none
def vCmpI (p : Int → Int → Bool) : B2 := fun x y A => match x, y with
  | .int i, .int j => some (.bl (p i j), A)
  | _, _ => none
def vLt : B2 := vCmpI fun i j => decide (i < j)
def vLe : B2 := vCmpI fun i j => decide (i ≤ j)
def vGt : B2 := vCmpI fun i j => decide (j < i)
def vGe : B2 := vCmpI fun i j => decide (j ≤ i)
def vIsN : B2 := fun x y A => match y with
  | .non => some (.bl (match x with
    | .non => true
    | _ => false), A)
  | _ => none
def vNotN : B2 := fun x y A => match y with
  | .non => some (.bl (match x with
    | .non => false
    | _ => true), A)
  | _ => none
/-- == of scalars -/
def sEq : MV → MV → Option Bool
  | .non, .non => some true
  | .non, .int _ => some false
  | .int _, .non => some false
  | .non, .bl _ => some false
  | .bl _, .non => some false
  | .non, .str _ => some false
  | .str _, .non => some false
  | .int i, .int j => some (decide (i = j))
  | .bl i, .bl j => some (decide (i = j))
  | .str i, .str j => some (decide (i = j))
  | .int _, .str _ => some false
  | .str _, .int _ => some false
  | .bl _, .str _ => some false
  | .str _, .bl _ => some false
  | _, _ => none
def vEq : B2 := fun x y A => (sEq x y).map fun b => (.bl b, A)
def vNe : B2 := fun x y A => (sEq x y).map fun b => (.bl (!b), A)
/-- == of flat values, as membership asks it -/
def fEq : MV → MV → Bool
  | .non, .non => true
  | .bl a, .bl b => a == b
  | .bl a, .int b => (if a then 1 else 0) == b
  | .int a, .bl b => a == (if b then 1 else 0)
  | .int a, .int b => a == b
  | .str a, .str b => a == b
  | _, _ => false
def flat : MV → Bool
  | .non => true
  | .bl _ => true
  | .int _ => true
  | .str _ => true
  | _ => false
def isKey : MV → Bool
  | .int _ => true
  | .str _ => true
  | _ => false
/-- a dict's look -/
def dGet (kvs : List (MV × MV)) (k : MV) : Option MV := (kvs.find? fun kv => fEq kv.1 k).map (·.2)
def dPut (kvs : List (MV × MV)) (k v : MV) : List (MV × MV) := if (kvs.any fun kv => fEq kv.1 k) = true then kvs.map (fun kv => if fEq kv.1 k = true then (kv.1, v) else kv) else kvs ++ [(k, v)]
def inB (x y : MV) (A : Mh) : Option Bool := match y with
  | .str z => (match x with
    | .str t => some (!(Builtin.Str.occurrences z t 0 z.length 1).isEmpty)
    | _ => none)
  | y => (match seqOf y A with
    | some ys => if flat x = true ∧ ys.all flat = true then some (ys.any fun z => fEq z x) else none
    | none => none)
def vIn : B2 := fun x y A => (inB x y A).map fun b => (.bl b, A)
def vNotIn : B2 := fun x y A => (inB x y A).map fun b => (.bl (!b), A)
def vIdx : B2 := fun x y A => match y with
  | .int i => (match x with
    | .str z => if z.length ≤ 1000000 then (L2.atI z.cps.toList i).map (fun c => (.str ⟨#[c]⟩, A)) else none
    | x => (match seqOf x A with
      | some xs => (L2.atI xs i).map (·, A)
      | none => none))
  | _ => none
/-- slices -/
def cutM {α : Type} (xs : List α) (lo hi : Option Int) : List α := (xs.drop (HT.sIx xs.length 0 lo)).take (HT.sIx xs.length xs.length hi - HT.sIx xs.length 0 lo)
abbrev MO2 := Ctx → Env → Mh → R (Option Int)
def oN : MO2 := fun _ _ A => .ok none A
def oS (a : ME) : MO2 := fun c ρ A => (a c ρ A).bind fun x A1 => match x with
  | .int i => .ok (some i) A1
  | _ => .bad
def vSl (x : MV) (lo hi : Option Int) (A : Mh) : OV := match x with
  | .str z => if z.length ≤ 1000000 then some (.str ⟨(cutM z.cps.toList lo hi).toArray⟩, A) else none
  | .tup xs => some (.tup (cutM xs lo hi), A)
  | .ctup xs => if HT.sIx xs.length 0 lo = 0 ∧ HT.sIx xs.length xs.length hi = xs.length then none else some (.tup (cutM xs lo hi), A)
  | .scr xs => newL (cutM xs lo hi) A
  | .ref p => (match A[p]? with
    | some (.lst xs) => newL (cutM xs lo hi) A
    | _ => none)
  | _ => none
def eSl (a : ME) (lo hi : MO2) : ME := fun c ρ A => (a c ρ A).bind fun x A1 => (lo c ρ A1).bind fun l A2 => (hi c ρ A2).bind fun h A3 => .of (vSl x l h A3)
/-- built-ins -/
def bLen : BN := fun xs A => match xs with
  | [.str z] => if z.length ≤ 1000000 then some (.int z.length, A) else none
  | [x] => (match seqOf x A with
    | some ys => some (.int ys.length, A)
    | none => none)
  | _ => none
def bList : BN := fun xs A => match xs with
  | [x] => (match seqOf x A with
    | some ys => newL ys A
    | none => none)
  | _ => none
def bTuple : BN := fun xs A => match xs with
  | [.tup ys] => some (.tup ys, A)
  | [.ctup ys] => some (.ctup ys, A)
  | [.ref p] => (match A[p]? with
    | some (.lst ys) => some (.tup ys, A)
    | _ => none)
  | _ => none
def boolsOf : List MV → Option (List Bool)
  | [] => some []
  | .bl b :: r => (boolsOf r).map (b :: ·)
  | _ => none
def intsOf : List MV → Option (List Int)
  | [] => some []
  | .int b :: r => (intsOf r).map (b :: ·)
  | _ => none
def strsOf : List MV → Option (List Str)
  | [] => some []
  | .str b :: r => (strsOf r).map (b :: ·)
  | _ => none
def listAt (x : MV) (A : Mh) : Option (List MV) := match x with
  | .ref p => (match A[p]? with
    | some (.lst ys) => some ys
    | _ => none)
  | _ => none
def bAll : BN := fun xs A => match xs with
  | [x] => ((listAt x A).bind boolsOf).map fun bs => (.bl (bs.all id), A)
  | _ => none
def bAny : BN := fun xs A => match xs with
  | [x] => ((listAt x A).bind boolsOf).map fun bs => (.bl (bs.any id), A)
  | _ => none
def bSum : BN := fun xs A => match xs with
  | [x] => ((listAt x A).bind intsOf).map fun bs => (.int bs.sum, A)
  | _ => none
def bInt : BN := fun xs A => match xs with
  | [.int i] => some (.int i, A)
  | [.str z] => if z.length ≤ 640 then (PySem.intText? z).map (fun n => (.int n, A)) else none
  | _ => none
def bStr : BN := fun xs A => match xs with
  | [.int i] => if i.natAbs.log2 < 1920 then some (.str (toString i), A) else none
  | _ => none
/-- a value's type -/
def tyOf (x : MV) (A : Mh) : Option TN := match x with
  | .non => some .non
  | .bl _ => some .bl
  | .int _ => some .int
  | .str _ => some .str
  | .tup _ => some .tup
  | .ctup _ => some .tup
  | .ref p => (match A[p]? with
    | some (.lst _) => some .lst
    | some (.dct _) => some .dct
    | some (.dctT _) => some .dct
    | _ => none)
  | _ => none
def isOf (t n : TN) : Option Bool := match n with
  | .int => some (decide (t = .int) || decide (t = .bl))
  | .non => none
  | n => some (decide (t = n))
def bIsi : BN := fun xs A => match xs with
  | [x, .ty n] => (match tyOf x A with
    | some t => (isOf t n).map fun b => (.bl b, A)
    | none => none)
  | [x, .tup [.ty n, .ty m]] => (match tyOf x A with
    | some t => (match isOf t n, isOf t m with
      | some a, some b => some (.bl (a || b), A)
      | _, _ => none)
    | none => none)
  | _ => none
/-- a built-in method of the type T: the receiver first -/
def eBM (T : TN) (f : MV → BN) (o : ME) (as : MA) : ME := fun c ρ A => (o c ρ A).bind fun x A1 => if tyOf x A1 = some T then (as c ρ A1).bind fun xs A2 => .of (f x xs A2) else .bad
def mExtend (x : MV) : BN := fun xs A => match x, xs with
  | .ref p, [y] => (match A[p]? with
    | some (.lst ys) => (match listAt y A with
      | some zs => if ys.length + zs.length ≤ 1000000 then some (.non, A.set p (.lst (ys ++ zs))) else none
      | none => none)
    | _ => none)
  | _, _ => none
def mAppend (x : MV) : BN := fun xs A => match x, xs with
  | .ref p, [v] => (match A[p]? with
    | some (.lst ys) => if ys.length < 1000000 then some (.non, A.set p (.lst (ys ++ [v]))) else none
    | _ => none)
  | _, _ => none
def setL : B3 := fun x i v A => match x, i with
  | .ref p, .int k => (match A[p]? with
    | some (.lst ys) => (L2.ixN ys.length k).map fun j => A.set p (.lst (ys.set j v))
    | _ => none)
  | _, _ => none
/-- where a parameter's value comes from: a positional argument, a keyword's, a default -/
inductive Src where
  | pos (i : Nat) | kw (i : Nat) | dfl (i : Nat)
def pick {α : Type} (z : α) (sp : List Src) (xs ks ds : List α) : List α := sp.map fun s => match s with
  | .pos i => xs.getD i z
  | .kw i => ks.getD i z
  | .dfl i => ds.getD i z
/-- f(.., k = ..): n positional ones, m keywords -/
def eCallK (f : Str) (sp : List Src) (ds : List MV) (n m : Nat) (as ks : MA) : ME := fun c ρ A => (as c ρ A).bind fun xs A1 => (ks c ρ A1).bind fun zs A2 => if xs.length = n ∧ zs.length = m then c.call f (pick .non sp xs zs ds) A2 else .bad
/-! ### dicts (keys ints and texts) -/
def dictAt (x : MV) (A : Mh) : Option (Nat × List (MV × MV)) := match x with
  | .ref p => (match A[p]? with
    | some (.dct kvs) => some (p, kvs)
    | _ => none)
  | _ => none
def eDict0 : ME := fun _ _ A => .ok (.ref A.length) (A ++ [.dct []])
/-- x[y]: a dict's, else a sequence's -/
def vIdxD : B2 := fun x y A => match dictAt x A with
  | some (_, kvs) => if isKey y = true then (dGet kvs y).map (·, A) else none
  | none => vIdx x y A
def vInD : B2 := fun x y A => match dictAt y A with
  | some (_, kvs) => if isKey x = true then some (.bl (dGet kvs x).isSome, A) else none
  | none => vIn x y A
def vNotInD : B2 := fun x y A => match dictAt y A with
  | some (_, kvs) => if isKey x = true then some (.bl (!(dGet kvs x).isSome), A) else none
  | none => vNotIn x y A
def eGet2 (o k d : ME) : ME := fun c ρ A => (o c ρ A).bind fun x A1 => if tyOf x A1 = some .dct then (k c ρ A1).bind fun y A2 => (d c ρ A2).bind fun z A3 => (match dictAt x A3 with
  | some (_, kvs) => if isKey y = true then .ok ((dGet kvs y).getD z) A3 else .bad
  | none => .bad) else .bad
def setD : B3 := fun x i v A => match dictAt x A with
  | some (p, kvs) => if isKey i = true ∧ kvs.length < 1000000 then some (A.set p (.dct (dPut kvs i v))) else none
  | none => setL x i v A
def strLe (a b : Str) : Bool := decide (a.cps.toList ≤ b.cps.toList)
def sortS (xs : List Str) : List Str := xs.mergeSort strLe
/-- sorted of texts, of a dict with text keys -/
def bSorted : BN := fun xs A => match xs with
  | [x] => (match dictAt x A with
    | some (_, kvs) => (match strsOf (kvs.map (·.1)) with
      | some ss => if ss.length < 64 then newL ((sortS ss).map .str) A else none
      | none => none)
    | none => (match listAt x A with
      | some ys => (match strsOf ys with
        | some ss => if ss.length < 64 then newL ((sortS ss).map .str) A else none
        | none => none)
      | none => none))
  | _ => none
/-! ### tests -/
def tVal (a : ME) : MT := fun c ρ A => (a c ρ A).bind fun x A1 => match x with
  | .bl k => .ok k A1
  | _ => .bad
def tNot (a : MT) : MT := fun c ρ A => (a c ρ A).bind fun k A1 => .ok (!k) A1
def tAnd (a b : MT) : MT := fun c ρ A => (a c ρ A).bind fun k A1 => if k = true then b c ρ A1 else .ok false A1
def tOr (a b : MT) : MT := fun c ρ A => (a c ρ A).bind fun k A1 => if k = true then .ok true A1 else b c ρ A1
/-! ### statements -/
inductive RS where
  | nx (ρ : Env) (A : Mh) | rt (v : MV) (A : Mh) | bk (ρ : Env) (A : Mh) | ct (ρ : Env) (A : Mh) | exc (C : Str) (fs : Fs) (ρ : Env) (A : Mh) | bad
abbrev MS := Ctx → Env → Mh → RS
def R.bindS {α : Type} (r : R α) (ρ : Env) (k : α → Mh → RS) : RS := match r with
  | .ok a A => k a A
  | .exc C fs A => .exc C fs ρ A
  | .bad => .bad
def RS.bind (r : RS) (k : Env → Mh → RS) : RS := match r with
  | .nx ρ A => k ρ A
  | r => r
abbrev MG := MV → Ctx → Env → Mh → RS
def sNil : MS := fun _ ρ A => .nx ρ A
def sSeq (a b : MS) : MS := fun c ρ A => (a c ρ A).bind fun ρ1 A1 => b c ρ1 A1
def sRet (e : ME) : MS := fun c ρ A => (e c ρ A).bindS ρ fun v A1 => .rt v A1
def sRetN : MS := fun _ _ A => .rt .non A
def sExp (e : ME) : MS := fun c ρ A => (e c ρ A).bindS ρ fun _ A1 => .nx ρ A1
def sIf (t : MT) (a b : MS) : MS := fun c ρ A => (t c ρ A).bindS ρ fun k A1 => if k = true then a c ρ A1 else b c ρ A1
def sCont : MS := fun _ ρ A => .ct ρ A
def sBrk : MS := fun _ ρ A => .bk ρ A
def gV (i : Nat) : MG := fun v _ ρ A => .nx (ρ.set i (some v)) A
def sAsg (e : ME) (g : MG) : MS := fun c ρ A => (e c ρ A).bindS ρ fun v A1 => g v c ρ A1
/-- targets (a, b, ..) of a tuple's items, from the left -/
def gEach : List MG → List MV → Ctx → Env → Mh → RS
  | [], [], _, ρ, A => .nx ρ A
  | g :: gs, v :: vs, c, ρ, A => (g v c ρ A).bind fun ρ1 A1 => gEach gs vs c ρ1 A1
  | _, _, _, _, _ => .bad
def gTup (gs : List MG) : MG := fun v c ρ A => match v with
  | .tup vs => gEach gs vs c ρ A
  | .ctup vs => gEach gs vs c ρ A
  | .ref p => (match A[p]? with
    | some (.lst vs) => gEach gs vs c ρ A
    | _ => .bad)
  | _ => .bad


def gSub (f : B3) (o i : ME) : MG := fun v c ρ A => match o c ρ A with
  | .ok x A1 => (match i c ρ A1 with
    | .ok y A2 => (match f x y v A2 with
      | some A3 => .nx ρ A3
      | none => .bad)
    | _ => .bad)
  | _ => .bad
/-- x op= e -/
def sAug (i : Nat) (f : B2) (e : ME) : MS := fun c ρ A => match ρ[i]? with
  | some (some x) => (e c ρ A).bindS ρ fun y A1 => (R.of (f x y A1)).bindS ρ fun z A2 => .nx (ρ.set i (some z)) A2
  | _ => .bad
/-! ### loops -/
/-- what is walked: the items, and what has to stay as it was -/
structure Walk where
  items : List MV
  still : Mh → Prop
abbrev MI := Ctx → Env → Mh → R Walk
open Classical in
noncomputable def forL (still : Mh → Prop) (turn : MV → Env → Mh → RS) : List MV → Env → Mh → RS
  | [], ρ, A => if still A then .nx ρ A else .bad
  | x :: xs, ρ, A => if still A then (match turn x ρ A with
    | .nx ρ1 A1 => forL still turn xs ρ1 A1
    | .ct ρ1 A1 => forL still turn xs ρ1 A1
    | .bk ρ1 A1 => .nx ρ1 A1
    | r => r) else .bad
noncomputable def sFor (it : MI) (g : MG) (body : MS) : MS := fun c ρ A => (it c ρ A).bindS ρ fun w A1 => forL w.still (fun x ρ1 A2 => (g x c ρ1 A2).bind fun ρ2 A3 => body c ρ2 A3) w.items ρ A1
def iVal (e : ME) : MI := fun c ρ A => (e c ρ A).bind fun v A1 => match v with
  | .tup vs => .ok ⟨vs, fun _ => True⟩ A1
  | .ctup vs => .ok ⟨vs, fun _ => True⟩ A1
  | .str x => .ok ⟨x.cps.toList.map fun k => .str ⟨#[k]⟩, fun _ => True⟩ A1
  | .ref p => (match A1[p]? with
    | some (.lst vs) => .ok ⟨vs, fun A2 => A2[p]? = some (.lst vs)⟩ A1
    | _ => .bad)
  | _ => .bad
def intsV (lo : Int) (n : Nat) : List MV := (List.range n).map fun (k : Nat) => MV.int (lo + (k : Int))
noncomputable def iRange1 (as : MA) : MI := fun c ρ A => (as c ρ A).bind fun xs A1 => match xs with
  | [.int j] => @ite _ (-(2 ^ 62) ≤ j ∧ j < 2 ^ 62) (Classical.propDecidable _) (.ok ⟨intsV 0 j.toNat, fun _ => True⟩ A1) .bad
  | _ => .bad
noncomputable def iRange2 (as : MA) : MI := fun c ρ A => (as c ρ A).bind fun xs A1 => match xs with
  | [.int i, .int j] => @ite _ (-(2 ^ 62) ≤ i ∧ i < 2 ^ 62 ∧ -(2 ^ 62) ≤ j ∧ j < 2 ^ 62) (Classical.propDecidable _) (.ok ⟨intsV i (j - i).toNat, fun _ => True⟩ A1) .bad
  | _ => .bad
/-- enumerate(a list) -/
def numb : Nat → List MV → List MV
  | _, [] => []
  | n, v :: r => .tup [.int (n : Int), v] :: numb (n + 1) r
def iEnum (as : MA) : MI := fun c ρ A => (as c ρ A).bind fun xs A1 => match xs with
  | [.ref p] => (match A1[p]? with
    | some (.lst vs) => .ok ⟨numb 0 vs, fun A2 => A2[p]? = some (.lst vs)⟩ A1
    | _ => .bad)
  | _ => .bad
def zipM : List MV → List MV → List MV
  | v :: r, w :: q => .tup [v, w] :: zipM r q
  | _, _ => []
def iZip (as : MA) : MI := fun c ρ A => (as c ρ A).bind fun xs A2 => match xs with
  | [.ref p, .ref q] => (match A2[p]?, A2[q]? with
    | some (.lst vs), some (.lst ws) => .ok ⟨zipM vs ws, fun A3 => A3[p]? = some (.lst vs) ∧ A3[q]? = some (.lst ws)⟩ A2
    | _, _ => .bad)
  | _ => .bad
def whileL (t : MT) (body : MS) (c : Ctx) : Nat → Env → Mh → RS
  | 0, _, _ => .bad
  | n + 1, ρ, A => (t c ρ A).bindS ρ fun k A1 => if k = true then (match body c ρ A1 with
    | .nx ρ1 A2 => whileL t body c n ρ1 A2
    | .ct ρ1 A2 => whileL t body c n ρ1 A2
    | .bk ρ1 A2 => .nx ρ1 A2
    | r => r) else .nx ρ A1
def fuel : Nat := 2 ^ 64
def sWhile (t : MT) (body : MS) : MS := fun c ρ A => whileL t body c fuel ρ A
/-! ### comprehensions -/
def wipeE (ρ : Env) : List Nat → Env
  | [] => ρ
  | v :: vs => (wipeE ρ vs).set v none
/- the turns: what has been made so far stands at D -/
open Classical in
noncomputable def compL (still : Mh → Prop) (turn : MV → Mh → R (Option MV)) (D : Nat) : List MV → Mh → R MV
  | [], A => if still A then .ok (.ref D) A else .bad
  | x :: xs, A => if still A then (turn x A).bind fun o A1 => match o with
    | none => compL still turn D xs A1
    | some v => (match A1[D]? with
      | some (.lst acc) => if acc.length < 100000 then compL still turn D xs (A1.set D (.lst (acc ++ [v]))) else .bad
      | _ => .bad)
    else .bad
noncomputable def eComp (own : List Nat) (it : MI) (g : MG) (t : MT) (e : ME) : ME := fun c ρ A => (it c ρ A).bind fun w A1 =>
  compL w.still (fun x A2 => match g x c (wipeE ρ own) A2 with
    | .nx ρ2 A3 => (match t c ρ2 A3 with
      | .ok k A4 => if k = true then (match e c ρ2 A4 with
        | .ok v A5 => .ok (some v) A5
        | _ => .bad) else .ok none A4
      | _ => .bad)
    | _ => .bad) A1.length w.items (A1 ++ [.lst []])
def tYes : MT := fun _ _ A => .ok true A
/-! ### defs -/
/-- a def: its number of slots, its body -/
structure MD where
  arity : Nat
  slots : Nat
  body : MS
def runD (d : MD) (c : Ctx) (xs : List MV) (A : Mh) : R MV :=
  if xs.length = d.arity then (match d.body c (xs.map some ++ List.replicate (d.slots - xs.length) none) A with
    | .nx _ A1 => .ok .non A1
    | .rt v A1 => .ok v A1
    | .exc C fs _ A1 => .exc C fs A1
    | _ => .bad) else .bad
structure Prg where
  defs : Str → Option MD
  meth : Str → Str → Option Str
def Prg.call (P : Prg) : Nat → Str → List MV → Mh → R MV
  | 0, _, _, _ => .bad
  | 1, f, xs, A => match P.defs f with
    | some d => runD d ⟨fun _ _ _ => .bad, fun _ _ _ => .bad, P.meth⟩ xs A
    | none => .bad
  | k + 2, f, xs, A => match P.defs f with
    | some d => runD d ⟨P.call (k + 1), P.call k, P.meth⟩ xs A
    | none => .bad
def Prg.ctx (P : Prg) (k : Nat) : Ctx := ⟨P.call k, P.call (k - 1), P.meth⟩
theorem Prg.call_succ (P : Prg) (k : Nat) (f : Str) (xs : List MV) (A : Mh) : P.call (k + 1) f xs A = match P.defs f with
    | some d => runD d (P.ctx k) xs A
    | none => .bad := by
  cases k with
  | zero => rfl
  | succ k => rfl
end MM

/-! M1: the plain reading is kept by the machine (over the layer). -/
namespace MM
open PySem L2 PyProof.Rows
section
variable (K : PySem.W.Frag)
/-- a list that is never changed: a frozen one, or one of the written part -/
def SqF (H : Hp) (a : Addr) (xs : List V) : Prop := (∃ o, H a = some (.frz o (.lst xs))) ∨
    ∃ (o : Obj) (its : Array Value) (n : Nat), K.lookup a = some o ∧ o.cls = .type "list" ∧ o.dict = none ∧ o.data = .seq its n ∧ its.size ≤ sizeLine ∧ Vals xs its.toList
/-- a tuple of the written part -/
def SqC (a : Addr) (xs : List V) : Prop := ∃ (o : Obj) (its : Array Value) (n : Nat), K.lookup a = some o ∧ o.cls = .type "tuple" ∧ o.data = .seq its n ∧ its.size ≤ sizeLine ∧ Vals xs its.toList
abbrev ga (x : Str) : Addr := He.ga K x
mutual
def RV (ι : List Addr) (H : Hp) : MV → V → Prop
  | .non, w => w = .non
  | .bl b, w => w = .bl b
  | .int i, w => w = .int i
  | .str x, w => w = .str x
  | .ref p, w => ∃ a, ι[p]? = some a ∧ w = .ref a
  | .fn x, w => w = .ref (ga K x)
  | .cls x, w => w = .ref (ga K x)
  | .ty n, w => w = .ty n.nm
  | .scr vs, w => ∃ a xs, w = .ref a ∧ SqF K H a xs ∧ RVs ι H vs xs
  | .tup vs, w => ∃ a xs, w = .ref a ∧ H a = some (.tup xs) ∧ RVs ι H vs xs
  | .ctup vs, w => ∃ a xs, w = .ref a ∧ SqC K a xs ∧ RVs ι H vs xs
def RVs (ι : List Addr) (H : Hp) : List MV → List V → Prop
  | [], ws => ws = []
  | v :: vs, ws => ∃ w r, ws = w :: r ∧ RV ι H v w ∧ RVs ι H vs r
end
/-- fields by name -/
def RFs (ι : List Addr) (H : Hp) : List (Str × MV) → List (Str × V) → Prop
  | [], ws => ws = []
  | (f, v) :: vs, ws => ∃ w r, ws = (f, w) :: r ∧ RV K ι H v w ∧ RFs ι H vs r
/-- a dict's pairs -/
def RDk (ι : List Addr) (H : Hp) : List (MV × MV) → List (Key × V) → Prop
  | [], ws => ws = []
  | (f, v) :: vs, ws => ∃ k w r, ws = (k, w) :: r ∧ RV K ι H f (kV k) ∧ RV K ι H v w ∧ RDk ι H vs r
def RDt (ι : List Addr) (H : Hp) : List (MV × MV) → List (List Key × V) → Prop
  | [], ws => ws = []
  | (f, v) :: vs, ws => ∃ fs k w r, f = .tup fs ∧ ws = (k, w) :: r ∧ RVs K ι H fs (k.map kV) ∧ RV K ι H v w ∧ RDt ι H vs r
def RO (ι : List Addr) (H : Hp) (a : Addr) : MO → Prop
  | .lst vs => ∃ xs, H a = some (.lst xs) ∧ RVs K ι H vs xs
  | .dct kvs => ∃ ws, H a = some (.dK ws) ∧ RDk K ι H kvs ws
  | .dctT kvs => ∃ ws, H a = some (.dT ws) ∧ RDt K ι H kvs ws
  | .ins C fs => ∃ dx ws, H a = some (.ins (ga K C) dx ws) ∧ RFs K ι H fs ws
structure RH (ι : List Addr) (A : Mh) (H : Hp) : Prop where
  len : ι.length = A.length
  nd : ι.Nodup
  ob : ∀ (i : Nat) a o, ι[i]? = some a → A[i]? = some o → RO K ι H a o
structure RE (ι : List Addr) (H : Hp) (ρ : Env) (σ : L2.St) : Prop where
  len : ρ.length = σ.length
  at_ : ∀ (i : Nat) v, ρ[i]? = some (some v) → ∃ w, σ[i]? = some (some w) ∧ RV K ι H v w
end
structure TupLe (H H' : Hp) : Prop where
  t : ∀ a xs, H a = some (.tup xs) → H' a = some (.tup xs)
  f : ∀ a o xs, H a = some (.frz o (.lst xs)) → H' a = some (.frz o (.lst xs))
structure Ex (ι : List Addr) (H : Hp) (ι' : List Addr) (H' : Hp) : Prop where
  pre : ι <+: ι'
  tup : TupLe H H'
theorem TupLe.refl (H : Hp) : TupLe H H := ⟨fun _ _ h => h, fun _ _ _ h => h⟩
theorem TupLe.trans {H H1 H2 : Hp} (a : TupLe H H1) (b : TupLe H1 H2) : TupLe H H2 := ⟨fun x xs h => b.t x xs (a.t x xs h), fun x o xs h => b.f x o xs (a.f x o xs h)⟩
theorem TupLe.new {H : Hp} {p : Addr} {o : HO} (h : H p = none) : TupLe H (upd H p o) := ⟨fun a xs r => by rw [upd_ne (ne_of_none r h)]; exact r, fun a z xs r => by rw [upd_ne (ne_of_none r h)]; exact r⟩
theorem TupLe.wr {H : Hp} {p : Addr} {o u : HO} (h : H p = some o) (ht : ∀ xs, o ≠ .tup xs) (hf : ∀ z x, o ≠ .frz z x) : TupLe H (upd H p u) := ⟨fun a xs r => by rw [upd_ne (ne_of r h (Ne.symm (ht xs)))]; exact r, fun a z xs r => by rw [upd_ne (ne_of r h (Ne.symm (hf _ _)))]; exact r⟩
theorem Ex.refl (ι : List Addr) (H : Hp) : Ex ι H ι H := ⟨List.prefix_refl _, .refl _⟩
theorem Ex.trans {ι ι1 ι2 : List Addr} {H H1 H2 : Hp} (a : Ex ι H ι1 H1) (b : Ex ι1 H1 ι2 H2) : Ex ι H ι2 H2 := ⟨a.pre.trans b.pre, a.tup.trans b.tup⟩
theorem pre_get {ι ι' : List Addr} (h : ι <+: ι') {p : Nat} {a : Addr} (e : ι[p]? = some a) : ι'[p]? = some a := by
  obtain ⟨t, rfl⟩ := h
  obtain ⟨hl, _⟩ := List.getElem?_eq_some_iff.mp e
  rw [List.getElem?_append_left hl]; exact e
theorem SqF.mono {K : PySem.W.Frag} {H H' : Hp} {a : Addr} {xs : List V} (t : TupLe H H') (h : SqF K H a xs) : SqF K H' a xs := by
  rcases h with ⟨o, h⟩ | h
  · exact .inl ⟨o, t.f _ _ _ h⟩
  · exact .inr h
theorem SqF.l {K : PySem.W.Frag} {H : Hp} {a : Addr} {xs : List V} (h : SqF K H a xs) : SqL K H a xs := by
  rcases h with ⟨o, h⟩ | h
  · exact .inl (.inr ⟨o, h⟩)
  · exact .inr h
section
variable {K : PySem.W.Frag} {ι ι' : List Addr} {H H' : Hp}
mutual
theorem RV.mono (e : Ex ι H ι' H') : ∀ (v : MV) {w : V}, RV K ι H v w → RV K ι' H' v w
  | .non, _, h => by unfold RV at *; exact h
  | .bl b, _, h => by unfold RV at *; exact h
  | .int i, _, h => by unfold RV at *; exact h
  | .str x, _, h => by unfold RV at *; exact h
  | .ref p, _, h => by
    unfold RV at *
    obtain ⟨a, h1, h2⟩ := h
    exact ⟨a, pre_get e.pre h1, h2⟩
  | .fn x, _, h => by unfold RV at *; exact h
  | .cls x, _, h => by unfold RV at *; exact h
  | .ty n, _, h => by unfold RV at *; exact h
  | .scr vs, _, h => by
    unfold RV at *
    obtain ⟨a, xs, h1, h2, h3⟩ := h
    exact ⟨a, xs, h1, SqF.mono e.tup h2, RVs.mono e vs h3⟩
  | .tup vs, _, h => by
    unfold RV at *
    obtain ⟨a, xs, h1, h2, h3⟩ := h
    exact ⟨a, xs, h1, e.tup.t _ _ h2, RVs.mono e vs h3⟩
  | .ctup vs, _, h => by
    unfold RV at *
    obtain ⟨a, xs, h1, h2, h3⟩ := h
    exact ⟨a, xs, h1, h2, RVs.mono e vs h3⟩
theorem RVs.mono (e : Ex ι H ι' H') : ∀ (vs : List MV) {ws : List V}, RVs K ι H vs ws → RVs K ι' H' vs ws
  | [], _, h => by unfold RVs at *; exact h
  | v :: vs, _, h => by
    unfold RVs at *
    obtain ⟨w, r, h1, h2, h3⟩ := h
    exact ⟨w, r, h1, RV.mono e v h2, RVs.mono e vs h3⟩
end
theorem RFs.mono (e : Ex ι H ι' H') : ∀ (vs : List (Str × MV)) {ws : List (Str × V)}, RFs K ι H vs ws → RFs K ι' H' vs ws
  | [], _, h => h
  | (f, v) :: vs, _, h => by
    obtain ⟨w, r, h1, h2, h3⟩ := h
    exact ⟨w, r, h1, RV.mono e v h2, RFs.mono e vs h3⟩
theorem RDk.mono (e : Ex ι H ι' H') : ∀ (vs : List (MV × MV)) {ws : List (Key × V)}, RDk K ι H vs ws → RDk K ι' H' vs ws
  | [], _, h => h
  | (f, v) :: vs, _, h => by
    obtain ⟨k, w, r, h1, h2, h3, h4⟩ := h
    exact ⟨k, w, r, h1, RV.mono e f h2, RV.mono e v h3, RDk.mono e vs h4⟩
theorem RDt.mono (e : Ex ι H ι' H') : ∀ (vs : List (MV × MV)) {ws : List (List Key × V)}, RDt K ι H vs ws → RDt K ι' H' vs ws
  | [], _, h => h
  | (f, v) :: vs, _, h => by
    obtain ⟨fs, k, w, r, h0, h1, h2, h3, h4⟩ := h
    exact ⟨fs, k, w, r, h0, h1, RVs.mono e fs h2, RV.mono e v h3, RDt.mono e vs h4⟩
theorem RE.mono {ρ : Env} {σ : L2.St} (e : Ex ι H ι' H') (h : RE K ι H ρ σ) : RE K ι' H' ρ σ := ⟨h.len, fun i v q => by
  obtain ⟨w, h1, h2⟩ := h.at_ i v q
  exact ⟨w, h1, RV.mono e v h2⟩⟩
/-- an object's reading at a place that stays -/
theorem RO.mono {a : Addr} {o : MO} (e : Ex ι H ι' H') (hs : ∀ u, H a = some u → H' a = some u) (h : RO K ι H a o) : RO K ι' H' a o := by
  cases o with
  | lst vs => obtain ⟨xs, h1, h2⟩ := h; exact ⟨xs, hs _ h1, RVs.mono e vs h2⟩
  | dct kvs => obtain ⟨ws, h1, h2⟩ := h; exact ⟨ws, hs _ h1, RDk.mono e kvs h2⟩
  | dctT kvs => obtain ⟨ws, h1, h2⟩ := h; exact ⟨ws, hs _ h1, RDt.mono e kvs h2⟩
  | ins C fs => obtain ⟨dx, ws, h1, h2⟩ := h; exact ⟨dx, ws, hs _ h1, RFs.mono e fs h2⟩
theorem RO.there {a : Addr} {o : MO} (h : RO K ι H a o) : ∃ u, H a = some u := by
  cases o with
  | lst vs => obtain ⟨xs, h1, h2⟩ := h; exact ⟨_, h1⟩
  | dct kvs => obtain ⟨ws, h1, h2⟩ := h; exact ⟨_, h1⟩
  | dctT kvs => obtain ⟨ws, h1, h2⟩ := h; exact ⟨_, h1⟩
  | ins C fs => obtain ⟨dx, ws, h1, h2⟩ := h; exact ⟨_, h1⟩
theorem RH.there {A : Mh} {a : Addr} (h : RH K ι A H) (ha : a ∈ ι) : ∃ u, H a = some u := by
  obtain ⟨i, hi⟩ := List.mem_iff_getElem?.mp ha
  have hl : i < A.length := by rw [← h.len]; exact (List.getElem?_eq_some_iff.mp hi).1
  exact (h.ob i a _ hi (List.getElem?_eq_getElem hl)).there
theorem RH.nth {A : Mh} {p : Nat} {o : MO} (h : RH K ι A H) (e : A[p]? = some o) : ∃ a, ι[p]? = some a ∧ RO K ι H a o := by
  have hl : p < ι.length := by rw [h.len]; exact (List.getElem?_eq_some_iff.mp e).1
  exact ⟨ι[p], List.getElem?_eq_getElem hl, h.ob p _ o (List.getElem?_eq_getElem hl) e⟩
/-- a new object of the heap: the reading's new place -/
theorem RH.new {A : Mh} {p : Addr} {o : MO} {u : HO} (h : RH K ι A H) (hp : H p = none) (ho : RO K (ι ++ [p]) (upd H p u) p o) :
    Ex ι H (ι ++ [p]) (upd H p u) ∧ RH K (ι ++ [p]) (A ++ [o]) (upd H p u) ∧ (ι ++ [p])[A.length]? = some p := by
  have ex : Ex ι H (ι ++ [p]) (upd H p u) := ⟨List.prefix_append _ _, .new hp⟩
  have hi : p ∉ ι := fun z => by
    obtain ⟨u', q⟩ := h.there z
    rw [hp] at q; cases q
  refine ⟨ex, ⟨by simp [h.len], ?_, fun i a o' h1 h2 => ?_⟩, by rw [← h.len]; simp⟩
  · rw [List.nodup_append]
    refine ⟨h.nd, by simp, fun a ha b hb => ?_⟩
    have : b = p := by simpa using hb
    subst this
    intro e; subst e; exact hi ha
  · by_cases hl : i < ι.length
    · rw [List.getElem?_append_left hl] at h1
      rw [List.getElem?_append_left (by rw [← h.len]; exact hl)] at h2
      have ne : a ≠ p := fun e => hi (e ▸ List.mem_of_getElem? h1)
      exact (h.ob i a o' h1 h2).mono ex fun u' q => by rw [upd_ne ne]; exact q
    · have hl' : ι.length ≤ i := Nat.le_of_not_lt hl
      rw [List.getElem?_append_right hl'] at h1
      rw [List.getElem?_append_right (by rw [← h.len]; exact hl'), ← h.len] at h2
      cases hj : i - ι.length with
      | zero =>
        rw [hj] at h1 h2
        simp at h1 h2
        subst h1 h2
        exact ho
      | succ j => rw [hj] at h1; simp at h1
/-- an object of the reading changes -/
theorem RH.wr {A : Mh} {i : Nat} {a : Addr} {o : MO} {u u0 : HO} (h : RH K ι A H) (hi : ι[i]? = some a) (h0 : H a = some u0) (ht : ∀ xs, u0 ≠ .tup xs) (hf : ∀ z x, u0 ≠ .frz z x) (ho : RO K ι (upd H a u) a o) :
    Ex ι H ι (upd H a u) ∧ RH K ι (A.set i o) (upd H a u) := by
  have ex : Ex ι H ι (upd H a u) := ⟨List.prefix_refl _, .wr h0 ht hf⟩
  refine ⟨ex, ⟨by simp [h.len], h.nd, fun j b o' h1 h2 => ?_⟩⟩
  by_cases hj : j = i
  · subst hj
    rw [hi] at h1; cases h1
    have hl : j < A.length := by
      have := (List.getElem?_eq_some_iff.mp hi).1
      rw [← h.len]; exact this
    rw [List.getElem?_set_self hl] at h2
    cases h2
    exact ho
  · rw [List.getElem?_set_ne (Ne.symm hj)] at h2
    have ne : b ≠ a := fun e => by
      subst e
      exact hj (nodup_ix' h.nd h1 hi)
    exact (h.ob j b o' h1 h2).mono ex fun u' q => by rw [upd_ne ne]; exact q
where
  nodup_ix' {N : List Addr} (hN : N.Nodup) {i j : Nat} {x : Addr} (a : N[i]? = some x) (b : N[j]? = some x) : i = j := by
    obtain ⟨h1, e1⟩ := List.getElem?_eq_some_iff.mp a
    obtain ⟨h2, e2⟩ := List.getElem?_eq_some_iff.mp b
    exact (List.getElem_inj hN).mp (e1.trans e2.symm)
theorem SqC.t {K : PySem.W.Frag} {H : Hp} {a : Addr} {xs : List V} (h : SqC K a xs) : SqT K H a xs := .inr h
end
end MM

/-! M2: the judgements of the plain reading, and the rules that carry them. -/
namespace MM
open PySem L2 PyProof.Rows
section
variable (K : PySem.W.Frag) (W : WX)
/-- what a result of the plain reading asks of what follows -/
def PoR {α β : Type} (Rel : List Addr → Hp → α → β → Prop) (r : R α) (ι : List Addr) (H : Hp) (σ : L2.St) (Q : β → Hp → Prop) : Prop := match r with
  | .ok v A => ∀ ι' H' w, Ex ι H ι' H' → RH K ι' A H' → Rel ι' H' v w → Q w H'
  | .exc C fs A => ∀ ι' H' d ws, Ex ι H ι' H' → RH K ι' A H' → H' d = some (.xd ws) → RFs K ι' H' fs ws → W (.ref (ga K C)) (some d) σ H'
  | .bad => False
def PoO (o : OV) (ι : List Addr) (H : Hp) (Q : VK) : Prop := match o with
  | some (v, A) => ∀ ι' H' w, Ex ι H ι' H' → RH K ι' A H' → RV K ι' H' v w → Q w H'
  | none => False
def PoS (r : RS) (ι : List Addr) (H : Hp) (D : Ends) : Prop := match r with
  | .nx ρ A => ∀ ι' H' σ', Ex ι H ι' H' → RH K ι' A H' → RE K ι' H' ρ σ' → D.nx σ' H'
  | .rt v A => ∀ ι' H' w, Ex ι H ι' H' → RH K ι' A H' → RV K ι' H' v w → D.rt w H'
  | .bk ρ A => ∀ ι' H' σ', Ex ι H ι' H' → RH K ι' A H' → RE K ι' H' ρ σ' → D.bk σ' H'
  | .ct ρ A => ∀ ι' H' σ', Ex ι H ι' H' → RH K ι' A H' → RE K ι' H' ρ σ' → D.ct σ' H'
  | .exc C fs ρ A => ∀ ι' H' σ' d ws, Ex ι H ι' H' → RH K ι' A H' → RE K ι' H' ρ σ' → H' d = some (.xd ws) → RFs K ι' H' fs ws → W (.ref (ga K C)) (some d) σ' H'
  | .bad => False
def RB (_ : List Addr) (_ : Hp) (a b : Bool) : Prop := a = b
/-- the reading in the layer's own form -/
def tG {α β : Type} (c : Ctx) (Rel : List Addr → Hp → α → β → Prop) (m : Ctx → Env → Mh → R α) : L2.St → Hp → (β → Hp → Prop) → Prop := fun σ H Q =>
  ∃ ι A ρ, RH K ι A H ∧ RE K ι H ρ σ ∧ PoR K W Rel (m c ρ A) ι H σ Q
abbrev tM (c : Ctx) (m : ME) : TE := tG K W c (RV K) m
abbrev tMT (c : Ctx) (m : MT) : TT := tG K W c RB m
abbrev tMA (c : Ctx) (m : MA) : TA := tG K W c (RVs K) m
def tS (c : Ctx) (m : MS) : TS := fun D σ H => ∃ ι A ρ, RH K ι A H ∧ RE K ι H ρ σ ∧ PoS K W (m c ρ A) ι H D
def tg (c : Ctx) (S : L2.St → L2.St → Prop) (m : MG) : TG := fun v σ H Q => ∃ ι A ρ mv, RH K ι A H ∧ RE K ι H ρ σ ∧ RV K ι H mv v ∧ ∃ ρ' A', m mv c ρ A = .nx ρ' A' ∧ ∀ ι' H' σ', Ex ι H ι' H' → RH K ι' A' H' → RE K ι' H' ρ' σ' → S σ σ' → Q σ' H'
def tgs (c : Ctx) (S : L2.St → L2.St → Prop) (ms : List MG) : TGs := fun vs σ H Q => ∃ ι A ρ mvs, RH K ι A H ∧ RE K ι H ρ σ ∧ RVs K ι H mvs vs ∧ ∃ ρ' A', gEach ms mvs c ρ A = .nx ρ' A' ∧ ∀ ι' H' σ', Ex ι H ι' H' → RH K ι' A' H' → RE K ι' H' ρ' σ' → S σ σ' → Q σ' H'
/-- how slots may change -/
structure Slw (S : L2.St → L2.St → Prop) : Prop where
  refl : ∀ σ, S σ σ
  trans : ∀ a b d, S a b → S b d → S a d
abbrev SAny : L2.St → L2.St → Prop := fun _ _ => True
abbrev SW (vs : List Nat) : L2.St → L2.St → Prop := fun σ σ' => wipe σ' vs = wipe σ vs
theorem slAny : Slw SAny := ⟨fun _ => trivial, fun _ _ _ _ _ => trivial⟩
theorem slW (vs : List Nat) : Slw (SW vs) := ⟨fun _ => rfl, fun _ _ _ h g => g.trans h⟩
end
section
variable {K : PySem.W.Frag} {W : WX} {ι ι1 : List Addr} {H H1 : Hp} {σ : L2.St} {α β γ δ : Type} {Rel : List Addr → Hp → α → β → Prop} {Rel2 : List Addr → Hp → γ → δ → Prop}
theorem PoR.mono {r : R α} {Q : β → Hp → Prop} (e : Ex ι H ι1 H1) (h : PoR K W Rel r ι H σ Q) : PoR K W Rel r ι1 H1 σ Q := by
  cases r with
  | ok v A => exact fun ι' H' w e' => h ι' H' w (e.trans e')
  | exc C fs A => exact fun ι' H' d ws e' => h ι' H' d ws (e.trans e')
  | bad => exact h
theorem PoR.imp {r : R α} {Q Q' : β → Hp → Prop} (h : PoR K W Rel r ι H σ Q) (q : ∀ w H, Q w H → Q' w H) : PoR K W Rel r ι H σ Q' := by
  cases r with
  | ok v A => exact fun ι' H' w e' rh rv => q _ _ (h ι' H' w e' rh rv)
  | exc C fs A => exact h
  | bad => exact h
theorem PoO.mono {r : OV} {Q : VK} (e : Ex ι H ι1 H1) (h : PoO K r ι H Q) : PoO K r ι1 H1 Q := by
  cases r with
  | none => exact h
  | some p => exact fun ι' H' w e' => h ι' H' w (e.trans e')
theorem PoO.of {o : OV} {Q : VK} (h : PoR K W (RV K) (R.of o) ι H σ Q) : PoO K o ι H Q := by
  cases o with
  | none => exact h
  | some p => exact h
theorem PoS.mono {r : RS} {D : Ends} (e : Ex ι H ι1 H1) (h : PoS K W r ι H D) : PoS K W r ι1 H1 D := by
  cases r with
  | nx ρ A => exact fun ι' H' w e' => h ι' H' w (e.trans e')
  | rt v A => exact fun ι' H' w e' => h ι' H' w (e.trans e')
  | bk ρ A => exact fun ι' H' w e' => h ι' H' w (e.trans e')
  | ct ρ A => exact fun ι' H' w e' => h ι' H' w (e.trans e')
  | exc C fs ρ A => exact fun ι' H' σ' d ws e' => h ι' H' σ' d ws (e.trans e')
  | bad => exact h
theorem PoR.bind {r : R α} {k : α → Mh → R γ} {Q : δ → Hp → Prop} (h : PoR K W Rel2 (r.bind k) ι H σ Q) :
    PoR K W Rel r ι H σ (fun b H1 => ∃ ι1 A1 a, Ex ι H ι1 H1 ∧ RH K ι1 A1 H1 ∧ Rel ι1 H1 a b ∧ PoR K W Rel2 (k a A1) ι1 H1 σ Q) := by
  cases r with
  | ok v A => exact fun ι' H' w e rh rv => ⟨ι', A, v, e, rh, rv, PoR.mono e h⟩
  | exc C fs A => exact h
  | bad => exact h
theorem PoS.bindS {ρ : Env} {r : R α} {k : α → Mh → RS} {D : Ends} (re : RE K ι H ρ σ) (h : PoS K W (r.bindS ρ k) ι H D) :
    PoR K W Rel r ι H σ (fun b H1 => ∃ ι1 A1 a, Ex ι H ι1 H1 ∧ RH K ι1 A1 H1 ∧ Rel ι1 H1 a b ∧ PoS K W (k a A1) ι1 H1 D) := by
  cases r with
  | ok v A => exact fun ι' H' w e rh rv => ⟨ι', A, v, e, rh, rv, PoS.mono e h⟩
  | exc C fs A => exact fun ι' H' d ws e rh q rf => h ι' H' σ d ws e rh (re.mono e) q rf
  | bad => exact h
theorem PoS.bind {r : RS} {k : Env → Mh → RS} {D : Ends} (h : PoS K W (r.bind k) ι H D) :
    PoS K W r ι H { D with nx := fun σ1 H1 => ∃ ι1 A1 ρ1, RH K ι1 A1 H1 ∧ RE K ι1 H1 ρ1 σ1 ∧ PoS K W (k ρ1 A1) ι1 H1 D } := by
  cases r with
  | nx ρ A => exact fun ι' H' σ' e rh re => ⟨ι', A, ρ, rh, re, PoS.mono e h⟩
  | rt v A => exact h
  | bk ρ A => exact h
  | ct ρ A => exact h
  | exc C fs ρ A => exact h
  | bad => exact h
end
/-! ### weakening in the layer -/
theorem _root_.L2.PE.weak {X : Cx} {e : Expr} {t t' : TE} (h : PE X e t) (w : ∀ σ H Q, t' σ H Q → t σ H Q) : PE X e t' := ⟨fun pins s σ H Q I hw => h.run pins s σ H Q I (w σ H Q hw)⟩
theorem _root_.L2.PT.weak {X : Cx} {e : Expr} {t t' : TT} (h : PT X e t) (w : ∀ σ H Q, t' σ H Q → t σ H Q) : PT X e t' := ⟨fun pins s σ H Q I hw => h.run pins s σ H Q I (w σ H Q hw)⟩
theorem _root_.L2.PW.weak {X : Cx} {e : Expr} {t t' : TT} (h : PW X e t) (w : ∀ σ H Q, t' σ H Q → t σ H Q) : PW X e t' := ⟨fun wh pins s σ H Q I hw => h.run wh pins s σ H Q I (w σ H Q hw)⟩
theorem _root_.L2.PA.weak {X : Cx} {e : List Expr} {t t' : TA} (h : PA X e t) (w : ∀ σ H Q, t' σ H Q → t σ H Q) : PA X e t' := ⟨fun pos pins s σ H Q I hw => h.run pos pins s σ H Q I (w σ H Q hw)⟩
theorem _root_.L2.PS.weak {X : Cx} {e : Stmt} {t t' : TS} (h : PS X e t) (w : ∀ D σ H, t' D σ H → t D σ H) : PS X e t' := ⟨fun pins s σ H D I hw => h.run pins s σ H D I (w D σ H hw)⟩
theorem _root_.L2.PSs.weak {X : Cx} {e : List Stmt} {t t' : TS} (h : PSs X e t) (w : ∀ D σ H, t' D σ H → t D σ H) : PSs X e t' := ⟨fun pins s σ H D I hw => h.run pins s σ H D I (w D σ H hw)⟩
theorem _root_.L2.PG.weak {X : Cx} {e : Expr} {t t' : TG} (h : PG X e t) (w : ∀ v σ H Q, t' v σ H Q → t v σ H Q) : PG X e t' := ⟨fun pins s σ H v u Q I r hw => h.run pins s σ H v u Q I r (w v σ H Q hw)⟩
theorem _root_.L2.PG.or {X : Cx} {e : Expr} {t t' : TG} (h : PG X e t) (h' : PG X e t') : PG X e (fun v σ H Q => t v σ H Q ∨ t' v σ H Q) := ⟨fun pins s σ H v u Q I r hw => hw.elim (h.run pins s σ H v u Q I r) (h'.run pins s σ H v u Q I r)⟩
theorem _root_.L2.PGs.weak {X : Cx} {e : List Expr} {t t' : TGs} (h : PGs X e t) (w : ∀ v σ H Q, t' v σ H Q → t v σ H Q) : PGs X e t' := ⟨fun pins s σ H v u Q I r hw => h.run pins s σ H v u Q I r (w v σ H Q hw)⟩
theorem _root_.L2.PI.weak {X : Cx} {tg e : Expr} {t t' : TI} (h : PI X tg e t) (w : ∀ σ H R, t' σ H R → t σ H R) : PI X tg e t' := ⟨fun pins s σ H R I hw => h.run pins s σ H R I (w σ H R hw)⟩
theorem _root_.L2.PI.or {X : Cx} {tg e : Expr} {t t' : TI} (h : PI X tg e t) (h' : PI X tg e t') : PI X tg e (fun σ H R => t σ H R ∨ t' σ H R) := ⟨fun pins s σ H R I hw => hw.elim (h.run pins s σ H R I) (h'.run pins s σ H R I)⟩
/-! ### expressions -/
section
variable {X : Cx} {W : WX} {c : Ctx} {a b d : Expr} {ma mb md : ME} {pos : Pos}
theorem pm_v {i : Nat} {x : Str} (h : PE X (.Name x pos) (tVar i)) : PE X (.Name x pos) (tM X.K W c (eV i)) := by
  refine h.weak fun σ H Q ⟨ι, A, ρ, rh, re, p⟩ => ?_
  show ∃ v, σ[i]? = some (some v) ∧ Q v H
  unfold eV at p
  cases e : ρ[i]? with
  | none => rw [e] at p; exact p.elim
  | some o =>
    cases o with
    | none => rw [e] at p; exact p.elim
    | some v =>
      rw [e] at p
      obtain ⟨w, h1, h2⟩ := re.at_ i v e
      exact ⟨w, h1, p ι H w (.refl ..) rh h2⟩
theorem pm_c {v : V} {mv : MV} {e : Expr} (h : PE X e (tC v)) (r : ∀ ι H, RV X.K ι H mv v) : PE X e (tM X.K W c (eC mv)) :=
  h.weak fun σ H Q ⟨ι, A, ρ, rh, re, p⟩ => p ι H v (.refl ..) rh (r ι H)
theorem pm_int {i j} : PE X (.Constant (.int i) j pos) (tM X.K W c (eC (.int i))) := pm_c pe_int fun _ _ => by simp [RV]
theorem pm_bl {i j} : PE X (.Constant (.bool i) j pos) (tM X.K W c (eC (.bl i))) := pm_c pe_bl fun _ _ => by simp [RV]
theorem pm_non {j} : PE X (.Constant .none j pos) (tM X.K W c (eC .non)) := pm_c pe_non fun _ _ => by simp [RV]
theorem pm_str {i j} : PE X (.Constant (.str i) j pos) (tM X.K W c (eC (.str i))) := pm_c pe_str fun _ _ => by simp [RV]
/-- a binary op by values -/
def uB2 (K : PySem.W.Frag) (f : B2) : R2 := fun x y H Q => ∃ ι A v u, RH K ι A H ∧ RV K ι H v x ∧ RV K ι H u y ∧ PoO K (f v u A) ι H Q
def uB1 (K : PySem.W.Frag) (f : B1) : V → Hp → VK → Prop := fun x H Q => ∃ ι A v, RH K ι A H ∧ RV K ι H v x ∧ PoO K (f v A) ι H Q
def uBN (K : PySem.W.Frag) (f : BN) : List V → Hp → VK → Prop := fun xs H Q => ∃ ι A vs, RH K ι A H ∧ RVs K ι H vs xs ∧ PoO K (f vs A) ι H Q
def uBM (K : PySem.W.Frag) (f : MV → BN) : V → List V → Hp → VK → Prop := fun x xs H Q => ∃ ι A v vs, RH K ι A H ∧ RV K ι H v x ∧ RVs K ι H vs xs ∧ PoO K (f v vs A) ι H Q
theorem two {f : B2} {σ : L2.St} {H : Hp} {Q : VK} (h : tM X.K W c (eB2 f ma mb) σ H Q) : tOp (uB2 X.K f) (tM X.K W c ma) (tM X.K W c mb) σ H Q := by
  obtain ⟨ι, A, ρ, rh, re, p⟩ := h
  refine ⟨ι, A, ρ, rh, re, (PoR.bind p).imp fun x H1 ⟨ι1, A1, v, ex, rh1, rv, p1⟩ => ?_⟩
  refine ⟨ι1, A1, ρ, rh1, re.mono ex, (PoR.bind p1).imp fun y H2 ⟨ι2, A2, u, ex2, rh2, ru, p2⟩ => ?_⟩
  exact ⟨ι2, A2, v, u, rh2, RV.mono ex2 v rv, ru, PoO.of p2⟩
theorem pm_op {op : Operator} {f : B2} (ho : OpR X (binaryOp op) (uB2 X.K f)) (ha : PE X a (tM X.K W c ma)) (hb : PE X b (tM X.K W c mb)) : PE X (.BinOp a op b pos) (tM X.K W c (eB2 f ma mb)) :=
  (pe_op ho ha hb).weak fun _ _ _ => two
theorem pm_cmp {op : CmpOp} {f : B2} (ho : OpR X (compareOp op) (uB2 X.K f)) (ha : PE X a (tM X.K W c ma)) (hb : PE X b (tM X.K W c mb)) (hm : behindInMarks op b = false) : PE X (.Compare a [op] [b] pos) (tM X.K W c (eB2 f ma mb)) :=
  (pe_cmpR ho ha hb hm).weak fun _ _ _ => two
theorem pm_un {op : UnaryOp} {f : B1} (ho : UnR X (unaryOp op) (uB1 X.K f)) (ha : PE X a (tM X.K W c ma)) : PE X (.UnaryOp op a pos) (tM X.K W c (eB1 f ma)) :=
  (pe_un ho ha).weak fun σ H Q ⟨ι, A, ρ, rh, re, p⟩ => ⟨ι, A, ρ, rh, re, (PoR.bind p).imp fun x H1 ⟨ι1, A1, v, ex, rh1, rv, p1⟩ => ⟨ι1, A1, v, rh1, rv, PoO.of p1⟩⟩
theorem pm_ix {f : B2} (hr : IxR X (uB2 X.K f)) (ha : PE X a (tM X.K W c ma)) (hb : PE X b (tM X.K W c mb)) (hs : PlainIx b) : PE X (.Subscript a b pos) (tM X.K W c (eB2 f ma mb)) :=
  (pe_ix hr ha hb hs).weak fun _ _ _ => two
/-! ### arguments -/
variable {es : List Expr} {mas : MA}
theorem pa_n : PA X [] (tMA X.K W c aN) := pa_nil.weak fun σ H Q ⟨ι, A, ρ, rh, re, p⟩ => p ι H [] (.refl ..) rh rfl
theorem pa_c (ha : PE X a (tM X.K W c ma)) (hr : PA X es (tMA X.K W c mas)) (hs : starEach (a :: es) X.env = (false, eval a X.env) :: starEach es X.env) : PA X (a :: es) (tMA X.K W c (aC ma mas)) := by
  refine (pa_cons ha hr hs).weak fun σ H Q ⟨ι, A, ρ, rh, re, p⟩ => ?_
  refine ⟨ι, A, ρ, rh, re, (PoR.bind p).imp fun x H1 ⟨ι1, A1, v, ex, rh1, rv, p1⟩ => ?_⟩
  refine ⟨ι1, A1, ρ, rh1, re.mono ex, (PoR.bind p1).imp fun xs H2 ⟨ι2, A2, vs, ex2, rh2, rvs, p2⟩ => ?_⟩
  exact p2 ι2 H2 (x :: xs) (.refl ..) rh2 ⟨x, xs, rfl, RV.mono ex2 v rv, rvs⟩
theorem RVs.length {K : PySem.W.Frag} {ι : List Addr} {H : Hp} : ∀ {vs : List MV} {xs : List V}, RVs K ι H vs xs → xs.length = vs.length
  | [], _, h => by unfold RVs at h; subst h; rfl
  | v :: vs, _, h => by
    unfold RVs at h
    obtain ⟨w, r, h1, h2, h3⟩ := h
    subst h1
    simp [RVs.length h3]
theorem pm_tup {x1} (h : PA X es (tMA X.K W c mas)) : PE X (.Tuple es x1 pos) (tM X.K W c (eTup mas)) := by
  refine (pe_tup h).weak fun σ H Q ⟨ι, A, ρ, rh, re, p⟩ => ?_
  refine ⟨ι, A, ρ, rh, re, (PoR.bind p).imp fun xs H1 ⟨ι1, A1, vs, ex, rh1, rvs, p1⟩ => ?_⟩
  by_cases hl : vs.length ≤ 1000
  · rw [if_pos hl] at p1
    refine ⟨by rw [rvs.length]; exact Nat.le_trans hl (by decide), fun q hq => ?_⟩
    have ex2 : Ex ι1 H1 ι1 (upd H1 q (.tup xs)) := ⟨List.prefix_refl _, .new hq⟩
    refine p1 ι1 (upd H1 q (.tup xs)) (.ref q) ex2 ⟨rh1.len, rh1.nd, fun i a' o h1 h2 => (rh1.ob i a' o h1 h2).mono ex2 fun u' e => by rw [upd_ne (ne_of_none e hq)]; exact e⟩ ?_
    unfold RV
    exact ⟨q, xs, rfl, upd_same, RVs.mono ex2 vs rvs⟩
  · rw [if_neg hl] at p1; exact p1.elim
theorem pm_lst (h : PA X es (tMA X.K W c mas)) : PE X (.List es pos) (tM X.K W c (eLst mas)) := by
  refine (pe_lst h).weak fun σ H Q ⟨ι, A, ρ, rh, re, p⟩ => ?_
  refine ⟨ι, A, ρ, rh, re, (PoR.bind p).imp fun xs H1 ⟨ι1, A1, vs, ex, rh1, rvs, p1⟩ => ?_⟩
  by_cases hl : vs.length ≤ 1000
  · rw [if_pos hl] at p1
    refine ⟨by rw [rvs.length]; exact Nat.le_trans hl (by decide), fun q hq => ?_⟩
    have ex2 : Ex ι1 H1 (ι1 ++ [q]) (upd H1 q (.lst xs)) := ⟨List.prefix_append _ _, .new hq⟩
    obtain ⟨_, rh2, hat⟩ := rh1.new (o := .lst vs) (u := .lst xs) hq ⟨xs, upd_same, RVs.mono ex2 vs rvs⟩
    refine p1 _ _ (.ref q) ex2 rh2 ?_
    unfold RV
    exact ⟨q, hat, rfl⟩
  · rw [if_neg hl] at p1; exact p1.elim
/-! ### tests -/
variable {mt mt2 : MT} {rest : List Expr}
theorem pm_if {t : Expr} (ht : PT X t (tMT X.K W c mt)) (ha : PE X a (tM X.K W c ma)) (hb : PE X b (tM X.K W c mb)) : PE X (.IfExp t a b pos) (tM X.K W c (eIf mt ma mb)) := by
  refine (pe_ifExp ht ha hb).weak fun σ H Q ⟨ι, A, ρ, rh, re, p⟩ => ?_
  refine ⟨ι, A, ρ, rh, re, (PoR.bind (Rel := RB) p).imp fun k H1 ⟨ι1, A1, k', ex, rh1, e, p1⟩ => ?_⟩
  cases (show k' = k from e)
  by_cases hk : k = true
  · rw [if_pos hk] at p1 ⊢; exact ⟨ι1, A1, ρ, rh1, re.mono ex, p1⟩
  · rw [if_neg hk] at p1 ⊢; exact ⟨ι1, A1, ρ, rh1, re.mono ex, p1⟩
theorem bl_of {K : PySem.W.Frag} {ι : List Addr} {H : Hp} {k : Bool} {x : V} (h : RV K ι H (.bl k) x) : x = .bl k := by unfold RV at h; exact h
theorem pt_val' (h : PE X a (tM X.K W c ma)) (he : ∀ whole, isTrue a X.env whole = (do let v ← whole; standAt a.pos; holding [v] (truthy v))) : PT X a (tMT X.K W c (tVal ma)) := by
  refine (pt_val h he).weak fun σ H Q ⟨ι, A, ρ, rh, re, p⟩ => ?_
  refine ⟨ι, A, ρ, rh, re, (PoR.bind p).imp fun x H1 ⟨ι1, A1, v, ex, rh1, rv, p1⟩ => ?_⟩
  cases v with
  | bl k => exact ⟨k, bl_of rv, p1 ι1 H1 k (.refl ..) rh1 rfl⟩
  | _ => exact p1.elim
theorem ptm_cmp {op : CmpOp} {f : B2} (ho : OpR X (compareOp op) (uB2 X.K f)) (ha : PE X a (tM X.K W c ma)) (hb : PE X b (tM X.K W c mb)) (hm : behindInMarks op b = false) : PT X (.Compare a [op] [b] pos) (tMT X.K W c (tVal (eB2 f ma mb))) := by
  refine (pt_cmpR ho ha hb hm).weak fun σ H Q h => ?_
  obtain ⟨ι, A, ρ, rh, re, p⟩ := h
  have p' : tM X.K W c (eB2 f ma mb) σ H (fun x H1 => ∃ k, x = .bl k ∧ Q k H1) := ⟨ι, A, ρ, rh, re, (PoR.bind p).imp fun x H1 ⟨ι1, A1, v, ex, rh1, rv, p1⟩ => by
    cases v with
    | bl k => exact ⟨k, bl_of rv, p1 ι1 H1 k (.refl ..) rh1 rfl⟩
    | _ => exact p1.elim⟩
  exact two p'
theorem ptm_not (h : PT X a (tMT X.K W c mt)) : PT X (.UnaryOp .Not a pos) (tMT X.K W c (tNot mt)) := by
  refine (pt_not h).weak fun σ H Q ⟨ι, A, ρ, rh, re, p⟩ => ?_
  refine ⟨ι, A, ρ, rh, re, (PoR.bind (Rel := RB) p).imp fun k H1 ⟨ι1, A1, k', ex, rh1, e, p1⟩ => ?_⟩
  cases (show k' = k from e)
  exact p1 ι1 H1 (!k) (.refl ..) rh1 rfl
theorem pwm_and1 (h : PT X a (tMT X.K W c mt)) : PW X (.BoolOp .And [a] pos) (tMT X.K W c mt) := pw_and1 h
theorem pwm_or1 (h : PT X a (tMT X.K W c mt)) : PW X (.BoolOp .Or [a] pos) (tMT X.K W c mt) := pw_or1 h
theorem pwm_and (ha : PT X a (tMT X.K W c mt)) (hb : PW X (.BoolOp .And (b :: rest) pos) (tMT X.K W c mt2)) : PW X (.BoolOp .And (a :: b :: rest) pos) (tMT X.K W c (MM.tAnd mt mt2)) := by
  refine (pw_and ha hb).weak fun σ H Q ⟨ι, A, ρ, rh, re, p⟩ => ?_
  refine ⟨ι, A, ρ, rh, re, (PoR.bind (Rel := RB) p).imp fun k H1 ⟨ι1, A1, k', ex, rh1, e, p1⟩ => ?_⟩
  cases (show k' = k from e)
  by_cases hk : k = true
  · rw [if_pos hk] at p1 ⊢; exact ⟨ι1, A1, ρ, rh1, re.mono ex, p1⟩
  · rw [if_neg hk] at p1 ⊢; exact p1 ι1 H1 false (.refl ..) rh1 rfl
theorem pwm_or (ha : PT X a (tMT X.K W c mt)) (hb : PW X (.BoolOp .Or (b :: rest) pos) (tMT X.K W c mt2)) : PW X (.BoolOp .Or (a :: b :: rest) pos) (tMT X.K W c (MM.tOr mt mt2)) := by
  refine (pw_or ha hb).weak fun σ H Q ⟨ι, A, ρ, rh, re, p⟩ => ?_
  refine ⟨ι, A, ρ, rh, re, (PoR.bind (Rel := RB) p).imp fun k H1 ⟨ι1, A1, k', ex, rh1, e, p1⟩ => ?_⟩
  cases (show k' = k from e)
  by_cases hk : k = true
  · rw [if_pos hk] at p1 ⊢; exact p1 ι1 H1 true (.refl ..) rh1 rfl
  · rw [if_neg hk] at p1 ⊢; exact ⟨ι1, A1, ρ, rh1, re.mono ex, p1⟩
/-! ### and, or, not as values -/
theorem pm_not (h : PE X a (tM X.K W c ma)) : PE X (.UnaryOp .Not a pos) (tM X.K W c (eNot ma)) := by
  refine (pe_not h).weak fun σ H Q ⟨ι, A, ρ, rh, re, p⟩ => ?_
  refine ⟨ι, A, ρ, rh, re, (PoR.bind p).imp fun x H1 ⟨ι1, A1, v, ex, rh1, rv, p1⟩ => ?_⟩
  cases v with
  | bl k => exact ⟨k, bl_of rv, p1 ι1 H1 _ (.refl ..) rh1 (by simp [RV])⟩
  | _ => exact p1.elim
theorem pm_and1 {op} (h : PE X a (tM X.K W c ma)) : PE X (.BoolOp op [a] pos) (tM X.K W c ma) := pe_one h
theorem pm_and (ha : PE X a (tM X.K W c ma)) (hb : PE X (.BoolOp .And (b :: rest) pos) (tM X.K W c mb)) : PE X (.BoolOp .And (a :: b :: rest) pos) (tM X.K W c (eAnd ma mb)) := by
  refine (pe_and ha hb).weak fun σ H Q ⟨ι, A, ρ, rh, re, p⟩ => ?_
  refine ⟨ι, A, ρ, rh, re, (PoR.bind p).imp fun x H1 ⟨ι1, A1, v, ex, rh1, rv, p1⟩ => ?_⟩
  cases v with
  | bl k =>
    refine ⟨k, bl_of rv, ?_⟩
    cases k with
    | true => exact ⟨ι1, A1, ρ, rh1, re.mono ex, p1⟩
    | false => exact p1 ι1 H1 _ (.refl ..) rh1 (by simp [RV])
  | _ => exact p1.elim
theorem pm_or (ha : PE X a (tM X.K W c ma)) (hb : PE X (.BoolOp .Or (b :: rest) pos) (tM X.K W c mb)) : PE X (.BoolOp .Or (a :: b :: rest) pos) (tM X.K W c (eOr ma mb)) := by
  refine (pe_or ha hb).weak fun σ H Q ⟨ι, A, ρ, rh, re, p⟩ => ?_
  refine ⟨ι, A, ρ, rh, re, (PoR.bind p).imp fun x H1 ⟨ι1, A1, v, ex, rh1, rv, p1⟩ => ?_⟩
  cases v with
  | bl k =>
    refine ⟨k, bl_of rv, ?_⟩
    cases k with
    | false => exact ⟨ι1, A1, ρ, rh1, re.mono ex, p1⟩
    | true => exact p1 ι1 H1 _ (.refl ..) rh1 (by simp [RV])
  | _ => exact p1.elim
end
end MM

/-! M3: statements, targets, loops, comprehensions. -/
namespace MM
open PySem L2 PyProof.Rows
section
variable {X : Cx} {W : WX} {c : Ctx} {a b d e : Expr} {ma mb md me : ME} {pos : Pos} {mt : MT} {s : Stmt} {ss ss2 : List Stmt} {ms ms2 : MS} {g : MG} {S : L2.St → L2.St → Prop}
theorem psm_nil : PSs X [] (tS X.K W c sNil) := pss_nil.weak fun D σ H ⟨ι, A, ρ, rh, re, p⟩ => p ι H σ (.refl ..) rh re
theorem psm_cons (h1 : PS X s (tS X.K W c ms)) (h2 : PSs X ss (tS X.K W c ms2)) : PSs X (s :: ss) (tS X.K W c (sSeq ms ms2)) :=
  (pss_cons h1 h2).weak fun D σ H ⟨ι, A, ρ, rh, re, p⟩ => ⟨ι, A, ρ, rh, re, PoS.bind p⟩
theorem psm_one (h1 : PS X s (tS X.K W c ms)) : PSs X [s] (tS X.K W c ms) := pss_one h1
theorem psm_pass : PS X (.Pass pos) (tS X.K W c sNil) := ps_pass.weak fun D σ H ⟨ι, A, ρ, rh, re, p⟩ => p ι H σ (.refl ..) rh re
theorem psm_cont : PS X (.Continue pos) (tS X.K W c sCont) := ps_continue.weak fun D σ H ⟨ι, A, ρ, rh, re, p⟩ => p ι H σ (.refl ..) rh re
theorem psm_brk : PS X (.Break pos) (tS X.K W c sBrk) := ps_break.weak fun D σ H ⟨ι, A, ρ, rh, re, p⟩ => p ι H σ (.refl ..) rh re
theorem psm_expr (he : PE X e (tM X.K W c me)) (hs : swapsWith e none pos.line X.env = pure false) : PS X (.Expr e pos) (tS X.K W c (sExp me)) :=
  (ps_expr he hs).weak fun D σ H ⟨ι, A, ρ, rh, re, p⟩ => ⟨ι, A, ρ, rh, re, (PoS.bindS (Rel := RV X.K) re p).imp fun x H1 ⟨ι1, A1, v, ex, rh1, rv, p1⟩ => p1 ι1 H1 σ (.refl ..) rh1 (re.mono ex)⟩
theorem psm_ret (he : PE X e (tM X.K W c me)) : PS X (.Return (some e) pos) (tS X.K W c (sRet me)) :=
  (ps_ret he).weak fun D σ H ⟨ι, A, ρ, rh, re, p⟩ => ⟨ι, A, ρ, rh, re, (PoS.bindS (Rel := RV X.K) re p).imp fun x H1 ⟨ι1, A1, v, ex, rh1, rv, p1⟩ => p1 ι1 H1 x (.refl ..) rh1 rv⟩
theorem psm_retN : PS X (.Return none pos) (tS X.K W c sRetN) := ps_retN.weak fun D σ H ⟨ι, A, ρ, rh, re, p⟩ => p ι H .non (.refl ..) rh (by simp [RV])
theorem psm_if (hc : PT X a (tMT X.K W c mt)) (ha : PSs X ss (tS X.K W c ms)) (hb : PSs X ss2 (tS X.K W c ms2)) : PS X (.If a ss ss2 pos) (tS X.K W c (sIf mt ms ms2)) := by
  refine (ps_if hc ha hb).weak fun D σ H ⟨ι, A, ρ, rh, re, p⟩ => ?_
  refine ⟨ι, A, ρ, rh, re, (PoS.bindS (Rel := RB) re p).imp fun k H1 ⟨ι1, A1, k', ex, rh1, e, p1⟩ => ?_⟩
  cases (show k' = k from e)
  by_cases hk : k = true
  · rw [if_pos hk] at p1 ⊢; exact ⟨ι1, A1, ρ, rh1, re.mono ex, p1⟩
  · rw [if_neg hk] at p1 ⊢; exact ⟨ι1, A1, ρ, rh1, re.mono ex, p1⟩
/-! ### targets -/
theorem RE.set {K : PySem.W.Frag} {ι : List Addr} {H : Hp} {ρ : Env} {σ : L2.St} {v : MV} {w : V} (re : RE K ι H ρ σ) (i : Nat) (rv : RV K ι H v w) : RE K ι H (ρ.set i (some v)) (σ.set i (some w)) := by
  refine ⟨by simp [re.len], fun j u h => ?_⟩
  by_cases hj : i = j
  · subst hj
    by_cases hl : i < ρ.length
    · rw [List.getElem?_set_self hl] at h
      cases h
      exact ⟨w, by rw [List.getElem?_set_self (by rw [← re.len]; exact hl)], rv⟩
    · rw [List.getElem?_eq_none (by simpa using hl)] at h; cases h
  · rw [List.getElem?_set_ne hj] at h
    obtain ⟨w', h1, h2⟩ := re.at_ j u h
    exact ⟨w', by rw [List.getElem?_set_ne hj]; exact h1, h2⟩
theorem pgm_v {i : Nat} {x : Str} (h : PG X (.Name x pos) (gName i)) (hS : ∀ σ v, S σ (σ.set i (some v))) : PG X (.Name x pos) (tg X.K c S (gV i)) := by
  refine h.weak fun v σ H Q ⟨ι, A, ρ, mv, rh, re, rv, ρ', A', e, q⟩ => ?_
  unfold gV at e
  cases e
  exact q ι H _ (.refl ..) rh (re.set i rv) (hS _ _)
theorem tgs_nil (hS : Slw S) : PGs X [] (tgs X.K c S []) := by
  refine pgs_nil.weak fun vs σ H Q ⟨ι, A, ρ, mvs, rh, re, rv, ρ', A', e, q⟩ => ?_
  cases mvs with
  | nil =>
    unfold RVs at rv
    unfold gEach at e
    cases e
    exact ⟨rv, q ι H _ (.refl ..) rh re (hS.refl _)⟩
  | cons v r => unfold gEach at e; cases e
theorem tgs_cons {t : Expr} {ts : List Expr} {gs : List MG} (hS : Slw S) (h1 : PG X t (tg X.K c S g)) (h2 : PGs X ts (tgs X.K c S gs)) (hs : (assignEach (t :: ts) X.env).map (·.2) = assign t X.env :: (assignEach ts X.env).map (·.2)) : PGs X (t :: ts) (tgs X.K c S (g :: gs)) := by
  refine (pgs_cons h1 h2 hs).weak fun vs σ H Q ⟨ι, A, ρ, mvs, rh, re, rv, ρ', A', e, q⟩ => ?_
  cases mvs with
  | nil => unfold gEach at e; cases e
  | cons v r =>
    unfold RVs at rv
    obtain ⟨w, r', e1, rv1, rv2⟩ := rv
    subst e1
    unfold gEach at e
    cases hg : g v c ρ A with
    | nx ρ1 A1 =>
      rw [hg] at e
      refine ⟨w, r', rfl, ι, A, ρ, v, rh, re, rv1, ρ1, A1, hg, fun ι' H' σ' ex rh' re' s1 => ?_⟩
      exact ⟨ι', A1, ρ1, r, rh', re', RVs.mono ex r rv2, ρ', A', e, fun ι2 H2 σ2 ex2 rh2 re2 s2 => q ι2 H2 σ2 (ex.trans ex2) rh2 re2 (hS.trans _ _ _ s1 s2)⟩
    | _ => rw [hg] at e; cases e
theorem pgm_tup {ts : List Expr} {k : Nat} {gs : List MG} {n : Nat} (hc : X.calm = true) (h : PGs X ts (tgs X.K c S gs)) (hn : (assignEach ts X.env).length = n) (hl : gs.length = n) (hst : (assignEach ts X.env).findIdx? (·.1) = none) :
    PG X (.Tuple ts k pos) (tg X.K c S (MM.gTup gs)) := by
  have glen : ∀ {gs : List MG} {vs : List MV} {c : Ctx} {ρ : Env} {A : Mh} {ρ' A'}, gEach gs vs c ρ A = .nx ρ' A' → vs.length = gs.length := by
    intro gs
    induction gs with
    | nil => intro vs c ρ A ρ' A' e; cases vs with
      | nil => rfl
      | cons v r => unfold gEach at e; cases e
    | cons g gs ih => intro vs c ρ A ρ' A' e; cases vs with
      | nil => unfold gEach at e; cases e
      | cons v r =>
        unfold gEach at e
        cases hg : g v c ρ A with
        | nx ρ1 A1 => rw [hg] at e; simp [ih (show gEach gs r c ρ1 A1 = .nx ρ' A' from e)]
        | _ => rw [hg] at e; cases e
  refine ((pg_tup (t := tgs X.K c S gs) (n := n) hc h hn hst).or (pg_lst (t := tgs X.K c S gs) (n := n) hc h hn hst)).weak fun v σ H Q ⟨ι, A, ρ, mv, rh, re, rv, ρ', A', e, q⟩ => ?_
  cases mv with
  | tup vs =>
    unfold RV at rv
    obtain ⟨a, xs, e1, sq, rvs⟩ := rv
    have e' : gEach gs vs c ρ A = .nx ρ' A' := e
    exact .inl ⟨a, xs, e1, SqT.of sq, by rw [RVs.length rvs, glen e', hl], ι, A, ρ, vs, rh, re, rvs, ρ', A', e', q⟩
  | ctup vs =>
    unfold RV at rv
    obtain ⟨a, xs, e1, sq, rvs⟩ := rv
    have e' : gEach gs vs c ρ A = .nx ρ' A' := e
    exact .inl ⟨a, xs, e1, sq.t, by rw [RVs.length rvs, glen e', hl], ι, A, ρ, vs, rh, re, rvs, ρ', A', e', q⟩
  | ref p =>
    unfold RV at rv
    obtain ⟨a, h1, e1⟩ := rv
    unfold MM.gTup at e
    dsimp only at e
    cases hp : A[p]? with
    | none => rw [hp] at e; cases e
    | some o =>
      rw [hp] at e
      cases o with
      | lst vs =>
        have e' : gEach gs vs c ρ A = .nx ρ' A' := e
        obtain ⟨xs, h2, rvs⟩ := rh.ob p a _ h1 hp
        exact .inr ⟨a, xs, e1, SqL.of h2, by rw [RVs.length rvs, glen e', hl], ι, A, ρ, vs, rh, re, rvs, ρ', A', e', q⟩
      | _ => cases e
  | _ => cases e
/-- o[i] = v by values -/
def uB3 (K : PySem.W.Frag) (f : B3) : TSet := fun x y z H Q => ∃ ι A v u w, RH K ι A H ∧ RV K ι H v x ∧ RV K ι H u y ∧ RV K ι H w z ∧ ∃ A', f v u w A = some A' ∧ ∀ H', Ex ι H ι H' → RH K ι A' H' → Q H'
theorem pgm_sub {o i : Expr} {f : B3} (ho : PE X o (tM X.K W c ma)) (hi : PE X i (tM X.K W c mb)) (hS : Slw S) (hs : PSet X (uB3 X.K f))
    (ha : ∀ v, assign (.Subscript o i pos) X.env v = (do
      let ov ← holding [v] (eval o X.env)
      let iv ← holding [v, ov] (eval i X.env)
      standAt pos
      holding [v, ov, iv] (setItem ov iv v)
      release [v, ov, iv] [])) : PG X (.Subscript o i pos) (tg X.K c S (MM.gSub f ma mb)) := by
  refine (pg_sub ho hi hs ha).weak fun v σ H Q ⟨ι, A, ρ, mv, rh, re, rv, ρ', A', e, q⟩ => ?_
  unfold MM.gSub at e
  cases h1 : ma c ρ A with
  | ok x A1 =>
    rw [h1] at e
    cases h2 : mb c ρ A1 with
    | ok y A2 =>
      have e2 : (match f x y mv A2 with
        | some A3 => RS.nx ρ A3
        | none => RS.bad) = .nx ρ' A' := by
        have e3 : (match mb c ρ A1 with
          | .ok y A2 => (match f x y mv A2 with
            | some A3 => RS.nx ρ A3
            | none => .bad)
          | _ => .bad) = .nx ρ' A' := e
        rw [h2] at e3
        exact e3
      refine ⟨ι, A, ρ, rh, re, ?_⟩
      rw [h1]
      refine fun ι1 H1 x' ex1 rh1 rx => ⟨ι1, A1, ρ, rh1, re.mono ex1, ?_⟩
      rw [h2]
      refine fun ι2 H2 y' ex2 rh2 ry => ?_
      cases h3 : f x y mv A2 with
      | none => rw [h3] at e2; cases e2
      | some A3 =>
        rw [h3] at e2
        cases e2
        exact ⟨ι2, A2, x, y, mv, rh2, RV.mono ex2 x rx, ry, RV.mono (ex1.trans ex2) mv rv, A', h3, fun H3 ex3 rh3 => q ι2 H3 σ ((ex1.trans ex2).trans ex3) rh3 (re.mono ((ex1.trans ex2).trans ex3)) (hS.refl _)⟩
    | _ =>
      have e3 : (match mb c ρ A1 with
          | .ok y A2 => (match f x y mv A2 with
            | some A3 => RS.nx ρ A3
            | none => .bad)
          | _ => .bad) = .nx ρ' A' := e
      rw [h2] at e3
      cases e3
  | _ => rw [h1] at e; cases e
/-- what a target may do in an assignment: it goes through -/
def gOk (g : MG) : Prop := ∀ v c ρ A, (∃ ρ' A', g v c ρ A = .nx ρ' A') ∨ g v c ρ A = .bad
theorem gOk_v {i : Nat} : gOk (gV i) := fun _ _ _ _ => .inl ⟨_, _, rfl⟩
theorem gOk_sub {f : B3} : gOk (MM.gSub f ma mb) := fun v c ρ A => by
  unfold MM.gSub
  cases ma c ρ A with
  | ok x A1 =>
    dsimp only
    cases mb c ρ A1 with
    | ok y A2 =>
      dsimp only
      cases f x y v A2 with
      | none => exact .inr rfl
      | some A3 => exact .inl ⟨_, _, rfl⟩
    | _ => exact .inr rfl
  | _ => exact .inr rfl
theorem gOk_each : ∀ {gs : List MG} {vs : List MV} {c : Ctx} {ρ : Env} {A : Mh}, (∀ g ∈ gs, gOk g) → (∃ ρ' A', gEach gs vs c ρ A = .nx ρ' A') ∨ gEach gs vs c ρ A = .bad := by
  intro gs
  induction gs with
  | nil => intro vs c ρ A _; cases vs with
    | nil => exact .inl ⟨_, _, rfl⟩
    | cons v r => exact .inr rfl
  | cons g gs ih => intro vs c ρ A hg; cases vs with
    | nil => exact .inr rfl
    | cons v r =>
      rcases hg g (List.mem_cons_self ..) v c ρ A with ⟨ρ1, A1, q⟩ | q
      · unfold gEach
        rw [q]
        exact ih fun g' h => hg g' (List.mem_cons_of_mem _ h)
      · unfold gEach
        rw [q]
        exact .inr rfl
theorem gOk_tup {gs : List MG} (hg : ∀ g ∈ gs, gOk g) : gOk (MM.gTup gs) := fun v c ρ A => by
  unfold MM.gTup
  cases v with
  | tup vs => exact gOk_each hg
  | ctup vs => exact gOk_each hg
  | ref p =>
    dsimp only
    cases A[p]? with
    | none => exact .inr rfl
    | some o => cases o with
      | lst vs => exact gOk_each hg
      | _ => exact .inr rfl
  | _ => exact .inr rfl
theorem psm_asg' {t : Expr} (he : PE X e (tM X.K W c me)) (hg : PG X t (tg X.K c SAny g)) (hk : gOk g) (hs : swapsWithSole [t] e pos.line X.env = pure false) (hw : swappedStores [t] e X.env = pure none)
    (h1 : (assignEach [t] X.env).map (·.2) = [assign t X.env]) : PS X (.Assign [t] e pos) (tS X.K W c (sAsg me g)) := by
  refine (ps_asg he hg hs hw h1).weak fun D σ H ⟨ι, A, ρ, rh, re, p⟩ => ?_
  refine ⟨ι, A, ρ, rh, re, (PoS.bindS (Rel := RV X.K) re p).imp fun x H1 ⟨ι1, A1, v, ex, rh1, rv, p1⟩ => ?_⟩
  rcases hk v c ρ A1 with ⟨ρ', A', q⟩ | q
  · rw [q] at p1
    exact ⟨ι1, A1, ρ, v, rh1, re.mono ex, rv, ρ', A', q, fun ι' H' σ' ex' rh' re' _ => p1 ι' H' σ' ex' rh' re'⟩
  · rw [q] at p1; exact p1.elim
theorem psm_set {i : Nat} {x : Str} {pos' : Pos} (h : ∀ te, PE X e te → PS X (.Assign [.Name x pos'] e pos) (tAsg te (gName i))) (he : PE X e (tM X.K W c me)) : PS X (.Assign [.Name x pos'] e pos) (tS X.K W c (sAsg me (gV i))) := by
  refine (h _ he).weak fun D σ H ⟨ι, A, ρ, rh, re, p⟩ => ?_
  refine ⟨ι, A, ρ, rh, re, (PoS.bindS (Rel := RV X.K) re p).imp fun y H1 ⟨ι1, A1, v, ex, rh1, rv, p1⟩ => ?_⟩
  exact p1 ι1 H1 _ (.refl ..) rh1 ((re.mono ex).set i rv)
theorem psm_aug {i : Nat} {x : Str} {op : Operator} {f : B2} {pos' : Pos} (hN : X.N.Nodup) (hi : X.N[i]? = some x) (hx : Loc X.env.scope x) (he : PE X e (tM X.K W c me)) (ho : PIp X op (uB2 X.K f))
    (hf : X.fn x = true ∨ X.env.scope.names.lookup x = some .local) : PS X (.AugAssign (.Name x pos') op e pos) (tS X.K W c (sAug i f me)) := by
  refine (ps_aug hN hi hx he ho hf).weak fun D σ H ⟨ι, A, ρ, rh, re, p⟩ => ?_
  unfold sAug at p
  cases hv : ρ[i]? with
  | none => rw [hv] at p; exact p.elim
  | some o =>
    cases o with
    | none => rw [hv] at p; exact p.elim
    | some v =>
      rw [hv] at p
      obtain ⟨w, h1, h2⟩ := re.at_ i v hv
      refine ⟨w, h1, ι, A, ρ, rh, re, (PoS.bindS (Rel := RV X.K) re p).imp fun y H1 ⟨ι1, A1, u, ex, rh1, ru, p1⟩ => ?_⟩
      have re1 := re.mono ex
      refine ⟨ι1, A1, v, u, rh1, RV.mono ex v h2, ru, ?_⟩
      have p2 := PoS.bindS (Rel := RV X.K) re1 p1
      refine PoO.of ((PoR.imp p2) fun z H2 ⟨ι2, A2, r, ex2, rh2, rr, p3⟩ => ?_)
      exact p3 ι2 H2 _ (.refl ..) rh2 ((re1.mono ex2).set i rr)
end
end MM

/-! M4: loops, comprehensions. -/
namespace MM
open PySem L2 PyProof.Rows
/-- the layer's walk J yields what the reading's walk says, from (ι, H) on -/
structure WOk (K : PySem.W.Frag) (J : It) (w : Walk) (ι0 : List Addr) (H0 : Hp) : Prop where
  go : ∀ ι A H (i : Nat) v, Ex ι0 H0 ι H → RH K ι A H → w.still A → w.items[i]? = some v → J.go i H ∧ ∀ x H', J.yld i H x H' → Ex ι H ι H' ∧ RH K ι A H' ∧ RV K ι H' v x
  stop : ∀ ι A H, Ex ι0 H0 ι H → RH K ι A H → w.still A → J.stop w.items.length H
section
variable (K : PySem.W.Frag) (W : WX)
/-- what is walked: evaluated, then the walk -/
def tI (c : Ctx) (m : MI) : TI := fun σ H R => ∃ ι A ρ, RH K ι A H ∧ RE K ι H ρ σ ∧ match m c ρ A with
  | .ok w A1 => ∀ ι1 H1 J, Ex ι H ι1 H1 → RH K ι1 A1 H1 → WOk K J w ι1 H1 → R J H1
  | .exc C fs A1 => ∀ ι' H' d ws, Ex ι H ι' H' → RH K ι' A1 H' → H' d = some (.xd ws) → RFs K ι' H' fs ws → W (.ref (ga K C)) (some d) σ H'
  | .bad => False
end
section
variable {X : Cx} {W : WX} {c : Ctx} {e t : Expr} {me : ME} {pos : Pos} {mi : MI} {ss : List Stmt} {ms : MS} {g : MG} {mt : MT}
theorem psm_for {iter tgt : Expr} (hp : PassesOwn (model X.prog X.w) X.A X.env X.xe) (hc : X.calm = true) (hi : PI X tgt iter (tI X.K W c mi)) (hg : PG X tgt (tg X.K c SAny g)) (hk : gOk g) (hb : PSs X ss (tS X.K W c ms))
    (hs : ∀ x, foldedSetIterable iter X.env x = pure x) : PS X (.For tgt iter ss [] pos) (tS X.K W c (sFor mi g ms)) := by
  refine (ps_for hp hc hi hg hb hs).weak fun D σ H ⟨ι, A, ρ, rh, re, p⟩ => ?_
  refine ⟨ι, A, ρ, rh, re, ?_⟩
  unfold sFor at p
  cases hm : mi c ρ A with
  | bad => rw [hm] at p; exact p.elim
  | exc C fs A1 =>
    rw [hm] at p
    exact fun ι' H' d ws ex rh' q rf => p ι' H' σ d ws ex rh' (re.mono ex) q rf
  | ok w A1 =>
    rw [hm] at p
    refine fun ι1 H1 J ex1 rh1 wk => ?_
    have p1 : PoS X.K W (forL w.still (fun x ρ1 A2 => (g x c ρ1 A2).bind fun ρ2 A3 => ms c ρ2 A3) w.items ρ A1) ι1 H1 D := PoS.mono ex1 p
    refine ⟨fun i m σ2 H2 => m = w.items.length - i ∧ i ≤ w.items.length ∧ ∃ ι2 A2 ρ2, Ex ι1 H1 ι2 H2 ∧ RH X.K ι2 A2 H2 ∧ RE X.K ι2 H2 ρ2 σ2 ∧
      PoS X.K W (forL w.still (fun x ρ1 A2 => (g x c ρ1 A2).bind fun ρ2 A3 => ms c ρ2 A3) (w.items.drop i) ρ2 A2) ι2 H2 D,
      ⟨w.items.length, by simp, Nat.zero_le _, ι1, A1, ρ, .refl .., rh1, re.mono ex1, by simpa using p1⟩, ?_⟩
    rintro i m σ2 H2 ⟨rfl, hle, ι2, A2, ρ2, ex2, rh2, re2, q⟩
    by_cases hlt : i < w.items.length
    · have hd : w.items.drop i = w.items[i] :: w.items.drop (i + 1) := List.drop_eq_getElem_cons hlt
      rw [hd] at q
      unfold forL at q
      by_cases hst : w.still A2
      · rw [if_pos hst] at q
        obtain ⟨hgo, hy⟩ := wk.go ι2 A2 H2 i w.items[i] ex2 rh2 hst (List.getElem?_eq_getElem hlt)
        refine .inr ⟨hgo, fun σ3 H3 => ∃ ι3 A3 ρ3, Ex ι1 H1 ι3 H3 ∧ RH X.K ι3 A3 H3 ∧ RE X.K ι3 H3 ρ3 σ3 ∧
          PoS X.K W (forL w.still (fun x ρ1 A2 => (g x c ρ1 A2).bind fun ρ2 A3 => ms c ρ2 A3) (w.items.drop (i + 1)) ρ3 A3) ι3 H3 D, ?_, ?_⟩
        · rintro σ3 H3 ⟨ι3, A3, ρ3, ex3, rh3, re3, q3⟩
          exact ⟨w.items.length - (i + 1), by omega, rfl, hlt, ι3, A3, ρ3, ex3, rh3, re3, q3⟩
        · intro x H' hyx
          obtain ⟨exy, rhy, rvy⟩ := hy x H' hyx
          rcases hk w.items[i] c ρ2 A2 with ⟨ρ', A', hgx⟩ | hgx
          · refine ⟨ι2, A2, ρ2, w.items[i], rhy, re2.mono exy, rvy, ρ', A', hgx, fun ι4 H4 σ4 ex4 rh4 re4 _ => ⟨ι4, A', ρ', rh4, re4, ?_⟩⟩
            simp only [hgx, RS.bind] at q
            have ex04 : Ex ι2 H2 ι4 H4 := exy.trans ex4
            have ex14 : Ex ι1 H1 ι4 H4 := ex2.trans ex04
            cases hb2 : ms c ρ' A' with
            | nx ρ5 A5 => rw [hb2] at q; exact fun ι6 H6 σ6 ex6 rh6 re6 => ⟨ι6, A5, ρ5, ex14.trans ex6, rh6, re6, PoS.mono (ex04.trans ex6) q⟩
            | ct ρ5 A5 => rw [hb2] at q; exact fun ι6 H6 σ6 ex6 rh6 re6 => ⟨ι6, A5, ρ5, ex14.trans ex6, rh6, re6, PoS.mono (ex04.trans ex6) q⟩
            | bk ρ5 A5 => rw [hb2] at q; exact fun ι6 H6 σ6 ex6 rh6 re6 => q ι6 H6 σ6 (ex04.trans ex6) rh6 re6
            | rt v A5 => rw [hb2] at q; exact fun ι6 H6 w6 ex6 rh6 rv6 => q ι6 H6 w6 (ex04.trans ex6) rh6 rv6
            | exc C fs ρ5 A5 => rw [hb2] at q; exact fun ι6 H6 σ6 d ws ex6 rh6 re6 => q ι6 H6 σ6 d ws (ex04.trans ex6) rh6 re6
            | bad => rw [hb2] at q; exact q.elim
          · simp only [hgx, RS.bind] at q
            exact q.elim
      · rw [if_neg hst] at q; exact q.elim
    · have hi' : i = w.items.length := by omega
      subst hi'
      simp only [List.drop_length] at q
      unfold forL at q
      by_cases hst : w.still A2
      · rw [if_pos hst] at q
        exact .inl ⟨wk.stop ι2 A2 H2 ex2 rh2 hst, q ι2 H2 σ2 (.refl ..) rh2 re2⟩
      · rw [if_neg hst] at q; exact q.elim
theorem psm_while (hp : PassesOwn (model X.prog X.w) X.A X.env X.xe) (hc : PT X t (tMT X.K W c mt)) (hb : PSs X ss (tS X.K W c ms)) : PS X (.While t ss [] pos) (tS X.K W c (sWhile mt ms)) := by
  refine (ps_while hp hc hb).weak fun D σ H ⟨ι, A, ρ, rh, re, p⟩ => ?_
  refine ⟨fun n σ1 H1 => ∃ ι1 A1 ρ1, RH X.K ι1 A1 H1 ∧ RE X.K ι1 H1 ρ1 σ1 ∧ PoS X.K W (whileL mt ms c n ρ1 A1) ι1 H1 D, ⟨_, ι, A, ρ, rh, re, p⟩, ?_⟩
  rintro n σ1 H1 ⟨ι1, A1, ρ1, rh1, re1, q⟩
  cases n with
  | zero => exact q.elim
  | succ n =>
    unfold whileL at q
    refine ⟨ι1, A1, ρ1, rh1, re1, (PoS.bindS (Rel := RB) re1 q).imp fun k H2 ⟨ι2, A2, k', ex2, rh2, e2, q2⟩ => ?_⟩
    cases (show k' = k from e2)
    by_cases hk : k = true
    · rw [if_pos hk] at q2 ⊢
      refine ⟨fun σ' H' => ∃ ι1 A1 ρ1, RH X.K ι1 A1 H' ∧ RE X.K ι1 H' ρ1 σ' ∧ PoS X.K W (whileL mt ms c n ρ1 A1) ι1 H' D, fun σ' H' h => ⟨n, Nat.lt_succ_self n, h⟩, ι2, A2, ρ1, rh2, re1.mono ex2, ?_⟩
      cases hb2 : ms c ρ1 A2 with
      | nx ρ5 A5 => rw [hb2] at q2; exact fun ι6 H6 σ6 ex6 rh6 re6 => ⟨ι6, A5, ρ5, rh6, re6, PoS.mono ex6 q2⟩
      | ct ρ5 A5 => rw [hb2] at q2; exact fun ι6 H6 σ6 ex6 rh6 re6 => ⟨ι6, A5, ρ5, rh6, re6, PoS.mono ex6 q2⟩
      | bk ρ5 A5 => rw [hb2] at q2; exact q2
      | rt v A5 => rw [hb2] at q2; exact q2
      | exc C fs ρ5 A5 => rw [hb2] at q2; exact q2
      | bad => rw [hb2] at q2; exact q2.elim
    · rw [if_neg hk] at q2 ⊢
      exact q2 ι2 H2 σ1 (.refl ..) rh2 (re1.mono ex2)
/-! ### what is walked -/
theorem RVs.get {K : PySem.W.Frag} {ι : List Addr} {H : Hp} : ∀ {vs : List MV} {xs : List V} {i : Nat} {v : MV}, RVs K ι H vs xs → vs[i]? = some v → ∃ x, xs[i]? = some x ∧ RV K ι H v x
  | [], _, i, v, _, e => by simp at e
  | u :: vs, _, 0, v, h, e => by
    unfold RVs at h
    obtain ⟨w, r, h1, h2, h3⟩ := h
    subst h1
    simp at e
    subst e
    exact ⟨w, rfl, h2⟩
  | u :: vs, _, i + 1, v, h, e => by
    unfold RVs at h
    obtain ⟨w, r, h1, h2, h3⟩ := h
    subst h1
    obtain ⟨x, q1, q2⟩ := RVs.get (i := i) (v := v) h3 (by simpa using e)
    exact ⟨x, by simpa using q1, q2⟩
/-- the i-th sign -/
theorem its_go {x : Str} {i : Nat} {k : Nat} (h : x.cps.toList[i]? = some k) : i < x.length := by
  have := (List.getElem?_eq_some_iff.mp h).1
  simpa [Str.length] using this
theorem pim_val {tgt iter : Expr} {me : ME} (h : PE X iter (tM X.K W c me)) : PI X tgt iter (tI X.K W c (iVal me)) := by
  refine (((pi_list (tg := tgt) h).or (pi_tup (tg := tgt) h)).or (pi_str (tg := tgt) h)).weak fun σ H R' ⟨ι, A, ρ, rh, re, p⟩ => ?_
  unfold iVal at p
  cases hm : me c ρ A with
  | bad => rw [hm] at p; exact p.elim
  | exc C fs A1 =>
    rw [hm] at p
    refine .inl (.inl ⟨ι, A, ρ, rh, re, ?_⟩)
    rw [hm]
    exact p
  | ok v A1 =>
    rw [hm] at p
    cases v with
    | tup vs =>
      refine .inl (.inr ⟨ι, A, ρ, rh, re, ?_⟩)
      rw [hm]
      refine fun ι1 H1 x ex1 rh1 rv => ?_
      unfold RV at rv
      obtain ⟨a, xs, e1, sq, rvs⟩ := rv
      refine ⟨a, e1, ⟨xs, SqT.of sq⟩, p ι1 H1 _ ex1 rh1 ⟨fun ι2 A2 H2 i v ex2 rh2 _ hv => ?_, fun ι2 A2 H2 ex2 rh2 _ => ?_⟩⟩
      · obtain ⟨x, hx, rx⟩ := RVs.get rvs hv
        have sq2 := SqT.of (K := X.K) (ex2.tup.t _ _ sq)
        refine ⟨⟨xs, x, sq2, hx⟩, fun y H' ⟨e, q⟩ => ?_⟩
        subst e
        have := q xs sq2
        rw [hx] at this; cases this
        exact ⟨.refl .., rh2, RV.mono ex2 v rx⟩
      · exact ⟨xs, SqT.of (ex2.tup.t _ _ sq), by rw [RVs.length rvs]; exact Nat.le_refl _⟩
    | ctup vs =>
      refine .inl (.inr ⟨ι, A, ρ, rh, re, ?_⟩)
      rw [hm]
      refine fun ι1 H1 x ex1 rh1 rv => ?_
      unfold RV at rv
      obtain ⟨a, xs, e1, sq, rvs⟩ := rv
      refine ⟨a, e1, ⟨xs, sq.t⟩, p ι1 H1 _ ex1 rh1 ⟨fun ι2 A2 H2 i v ex2 rh2 _ hv => ?_, fun ι2 A2 H2 ex2 rh2 _ => ?_⟩⟩
      · obtain ⟨x, hx, rx⟩ := RVs.get rvs hv
        have sq2 : SqT X.K H2 a xs := sq.t
        refine ⟨⟨xs, x, sq2, hx⟩, fun y H' ⟨e, q⟩ => ?_⟩
        subst e
        have := q xs sq2
        rw [hx] at this; cases this
        exact ⟨.refl .., rh2, RV.mono ex2 v rx⟩
      · exact ⟨xs, sq.t, by rw [RVs.length rvs]; exact Nat.le_refl _⟩
    | str z =>
      refine .inr ⟨ι, A, ρ, rh, re, ?_⟩
      rw [hm]
      refine fun ι1 H1 x ex1 rh1 rv => ?_
      unfold RV at rv
      refine ⟨z, rv, p ι1 H1 _ ex1 rh1 ⟨fun ι2 A2 H2 i v ex2 rh2 _ hv => ?_, fun ι2 A2 H2 ex2 rh2 _ => ?_⟩⟩
      · have hv2 : (z.cps.toList.map fun k => MV.str ⟨#[k]⟩)[i]? = some v := hv
        rw [List.getElem?_map] at hv2
        cases hk : z.cps.toList[i]? with
        | none => rw [hk] at hv2; cases hv2
        | some k =>
          rw [hk] at hv2
          cases hv2
          have hs : z.cps[i]? = some k := by rw [← Array.getElem?_toList]; exact hk
          refine ⟨(Array.getElem?_eq_some_iff.mp hs).1, fun y H' ⟨e, k', hk', ey⟩ => ?_⟩
          subst e
          rw [hs] at hk'
          cases hk'
          exact ⟨.refl .., rh2, by unfold RV; exact ey⟩
      · show z.cps.size ≤ (z.cps.toList.map fun k => MV.str ⟨#[k]⟩).length
        simp
    | ref q =>
      dsimp only [MM.R.bind] at p
      cases hq : A1[q]? with
      | none => rw [hq] at p; exact p.elim
      | some o =>
        rw [hq] at p
        cases o with
        | lst vs =>
          refine .inl (.inl ⟨ι, A, ρ, rh, re, ?_⟩)
          rw [hm]
          refine fun ι1 H1 x ex1 rh1 rv => ?_
          unfold RV at rv
          obtain ⟨a, h1, e1⟩ := rv
          obtain ⟨xs, hx, rvs⟩ := rh1.ob q a _ h1 hq
          refine ⟨a, e1, ⟨xs, SqL.of hx⟩, p ι1 H1 _ ex1 rh1 ⟨fun ι2 A2 H2 i v ex2 rh2 st hv => ?_, fun ι2 A2 H2 ex2 rh2 st => ?_⟩⟩
          · obtain ⟨xs2, hx2, rvs2⟩ := rh2.ob q a _ (pre_get ex2.pre h1) st
            obtain ⟨x, hx3, rx⟩ := RVs.get rvs2 hv
            refine ⟨⟨xs2, x, SqL.of hx2, hx3⟩, fun y H' ⟨e, q'⟩ => ?_⟩
            subst e
            have := q' xs2 (SqL.of hx2)
            rw [hx3] at this; cases this
            exact ⟨.refl .., rh2, rx⟩
          · obtain ⟨xs2, hx2, rvs2⟩ := rh2.ob q a _ (pre_get ex2.pre h1) st
            exact ⟨xs2, SqL.of hx2, by rw [RVs.length rvs2]; exact Nat.le_refl _⟩
        | _ => exact p.elim
    | _ => exact p.elim
end
end MM

/-! M5: calls of defs, methods, makings; what a def promises. -/
namespace MM
open PySem L2 PyProof.Rows
/-- what a call's result asks -/
def PoC (K : PySem.W.Frag) (r : R MV) (ι : List Addr) (H : Hp) (Q : VK) (E : XK) : Prop := match r with
  | .ok v A => ∀ ι' H' w, Ex ι H ι' H' → RH K ι' A H' → RV K ι' H' v w → Q w H'
  | .exc C fs A => ∀ ι' H' d ws, Ex ι H ι' H' → RH K ι' A H' → H' d = some (.xd ws) → RFs K ι' H' fs ws → E (.ref (ga K C)) (some d) H'
  | .bad => False
/-- the promise of the def f at level k -/
def spM (K : PySem.W.Frag) (P : Prg) (k : Nat) (f : Str) : Sp := fun vs H Q E => ∃ ι A xs, RH K ι A H ∧ RVs K ι H xs vs ∧ PoC K (P.call k f xs A) ι H Q E
theorem PoC.of {K : PySem.W.Frag} {W : WX} {r : R MV} {ι : List Addr} {H : Hp} {σ : L2.St} {Q : VK} (h : PoR K W (RV K) r ι H σ Q) : PoC K r ι H Q (WE W σ) := by
  cases r with
  | ok v A => exact h
  | exc C fs A => exact h
  | bad => exact h
section
variable {X : Cx} {k n : Nat} {f C : Addr} {fd : FuncData} {ps ks : List Str} {sp : Sp} {E : L2.St → XK} {x m : Str} {p pos apos : Pos} {e o : Expr} {es : List Expr} {ta : TE} {t tk : TA} {kws : List Keyword} {g : List Value → List Value → List Value} {gV : List V → List V → List V}
theorem pe_call0S (F : FnOk X.prog X.w X.K X.mg X.base (L2.CX X.prog X.w) k f fd ps sp) (hr : Room k X.A) (hg : Gl X x) (hm : X.mg x = some (.ref f)) (hk : PySem.W.keepIn X.K (.ref f) = true) (hb : Binds X.K fd ps []) (hx : ∀ σ, PassesAt (L2.CX X.prog X.w) X σ (E σ))
    (hdb : (x == ("__debug__" : Str)) = false) : PE X (.Call (.Name x p) [] [] pos) (tCallS sp E L2.tNil) := by
  refine ⟨fun pins s σ H Q I h => ?_⟩
  refine wpAny_Call_Name_kw (ld_glob I hg hm ?_ hdb)
  exact PySem.W.callWith_K0 I.kIn hk (run_fnS (us := []) F hr hb (hx σ) I .nil h)
def tMethS (C : Addr) (m : Str) (sp : Sp) (E : L2.St → XK) (ta : TE) (t : TA) : TE := fun σ H Q => ta σ H fun x H1 => ∃ a dx fs, x = .ref a ∧ H1 a = some (.ins C dx fs) ∧ fs.lookup m = none ∧
  t σ H1 fun vs H2 => sp (x :: vs) H2 Q (E σ)
theorem pe_methSS {pl : Sem Bool} (he : PE X o ta) (c : Cls X.K C) (hm : Meth X.K C m f) (F : FnOk X.prog X.w X.K X.mg X.base (L2.CX X.prog X.w) k f fd ps sp) (hr : Room k X.A) (hb : Binds X.K fd ps []) (hx : ∀ σ, PassesAt (L2.CX X.prog X.w) X σ (E σ)) (ha : PA X (e :: es) t)
    (hst : starEach (e :: es) X.env = (false, eval e X.env) :: starEach es X.env) (hpl : (backTo pos (starEach es X.env)).any (·.1) = false)
    (ht : eval (.Call (.Attribute o m apos) (e :: es) [] pos) X.env = (do
      let ov ← eval o X.env
      standAt apos.atName
      let (f, first) ← holding [ov] (getMethod ov m pl)
      callWith pos f first (backTo pos (starEach (e :: es) X.env)) (backToKw pos (keywordEach [] X.env)))) :
    PE X (.Call (.Attribute o m apos) (e :: es) [] pos) (tMethS C m sp E ta t) := by
  refine ⟨fun pins s σ H Q I h => ?_⟩
  refine PySem.W.methodCall_KW (pl := pl) (thn (he.run pins s σ H _ I h) fun u s1 ⟨x, H1, I1, rx, a, dx, fs, ex, ea, l, q⟩ => ?_) ht
  subst ex
  obtain rfl : u = Value.ref a := rx
  refine getmeth_ok I1 ea c hm l ?_
  refine PySem.W.callWith_K (first := [.ref a]) (h₀ := X.base) I.ok.mod.kin hm.kp (thn (ha.run pos pins s1 σ H1 _ I1 q) fun us s2 ⟨vs, H2, I2, r, q2⟩ => ⟨I2.kIn, ?_⟩) hst hpl
  exact run_fnS (us := .ref a :: us) (vs := .ref a :: vs) F hr hb (hx σ) I2 (.cons rfl r) q2
theorem pe_meth0SS {pl : Sem Bool} (he : PE X o ta) (c : Cls X.K C) (hm : Meth X.K C m f) (F : FnOk X.prog X.w X.K X.mg X.base (L2.CX X.prog X.w) k f fd ps sp) (hr : Room k X.A) (hb : Binds X.K fd ps []) (hx : ∀ σ, PassesAt (L2.CX X.prog X.w) X σ (E σ))
    (ht : eval (.Call (.Attribute o m apos) [] [] pos) X.env = (do
      let ov ← eval o X.env
      standAt apos.atName
      let (f, first) ← holding [ov] (getMethod ov m pl)
      callWith pos f first (backTo pos (starEach [] X.env)) (backToKw pos (keywordEach [] X.env)))) :
    PE X (.Call (.Attribute o m apos) [] [] pos) (tMethS C m sp E ta L2.tNil) := by
  refine ⟨fun pins s σ H Q I h => ?_⟩
  refine PySem.W.methodCall_KW (pl := pl) (thn (he.run pins s σ H _ I h) fun u s1 ⟨x, H1, I1, rx, a, dx, fs, ex, ea, l, q⟩ => ?_) ht
  subst ex
  obtain rfl : u = Value.ref a := rx
  refine getmeth_ok I1 ea c hm l ?_
  exact PySem.W.callWith_K0 (first := [.ref a]) I1.kIn hm.kp (run_fnS (us := [.ref a]) (vs := [.ref a]) F hr hb (hx σ) I1 (.cons rfl .nil) q)
/-- f(e, .., k = v, ..), what is raised wished for at the slots -/
def tCallNS (n m : Nat) (sp : Sp) (gV : List V → List V → List V) (E : L2.St → XK) (t tk : TA) : TE := fun σ H Q => t σ H fun vs H1 => tk σ H1 fun zs H2 => vs.length = n ∧ zs.length = m ∧ sp (gV vs zs) H2 Q (E σ)
theorem run_fnNS {pins : List (Addr × Obj)} {σ : L2.St} {H : Hp} {s : Shared} {Q : VK} {us ws : List Value} {vs zs : List V} {E : XK} (F : FnOk X.prog X.w X.K X.mg X.base (L2.CX X.prog X.w) k f fd ps sp) (hr : Room k X.A) (hb : KBn X.K fd ps n ks g gV) (hx : PassesAt (L2.CX X.prog X.w) X σ E)
    (I : Inv X pins σ H s) (r : Vals vs us) (rz : Vals zs ws) (l1 : vs.length = n) (l2 : zs.length = ks.length) (h : sp (gV vs zs) H Q E) : wpAny (model X.prog X.w) X.A (call (.ref f) us (ks.zip ws)) (EP X pins σ Q) X.xe s := by
  have r2 := hb.rel r rz
  refine wpAny_call (codeAny_mono (F.run X.A X.stack s H ⟨us, ks.zip ws⟩ (g us ws) (gV vs zs) Q E hr I.env0 (hb.to s us ws I.kIn (r.length.symm.trans l1) (rz.length.symm.trans l2)) r2 h) fun r s' hq => ?_)
  cases r with
  | error e => exact hx pins H s e s' I hq
  | ok fl =>
    cases fl with
    | ret u => exact I.after hq
    | next => exact False.elim hq
    | brk => exact False.elim hq
    | cont => exact False.elim hq
theorem pe_callNS (F : FnOk X.prog X.w X.K X.mg X.base (L2.CX X.prog X.w) k f fd ps sp) (hr : Room k X.A) (hg : Gl X x) (hm : X.mg x = some (.ref f)) (hk : PySem.W.keepIn X.K (.ref f) = true) (hb : KBn X.K fd ps n ks g gV) (hx : ∀ σ, PassesAt (L2.CX X.prog X.w) X σ (E σ))
    (ha : PA X (e :: es) t) (hkw : PK X kws tk) (hall : (backToKw pos (keywordEach kws X.env)).all (·.1.isSome) = true) (hks : (backToKw pos (keywordEach kws X.env)).filterMap (·.1) = ks)
    (hdb : (x == ("__debug__" : Str)) = false) (he : starEach (e :: es) X.env = (false, eval e X.env) :: starEach es X.env)
    (hpl : ((backTo pos (starEach (e :: es) X.env)).any (·.1) || (backToKw pos (keywordEach kws X.env)).any (·.1.isNone)) = false) :
    PE X (.Call (.Name x p) (e :: es) kws pos) (tCallNS n ks.length sp gV E t tk) := by
  refine ⟨fun pins s σ H Q I h => ?_⟩
  refine wpAny_Call_Name_kw (ld_glob I hg hm ?_ hdb)
  refine PySem.W.callWith_KW (h₀ := X.base) I.ok.mod.kin hk hall (thn (ha.run pos pins s σ H _ I h) fun us s1 ⟨vs, H1, I1, r, q⟩ => ?_) hpl he
  refine thn (hkw.run pos pins s1 σ H1 _ I1 q) fun ws s2 ⟨zs, H2, I2, rz, l1, l2, q2⟩ => ⟨I2.kIn, ?_⟩
  rw [hks]
  exact run_fnNS F hr hb (hx σ) I2 r rz l1 l2 q2
/-- C(..) -/
def tMakeS (C : Addr) (sp : Sp) (E : L2.St → XK) (t : TA) : TE := fun σ H Q => t σ H fun vs H1 => ∀ x dx, H1 x = none → H1 dx = none → dx ≠ x →
  sp (.ref x :: vs) (upd (upd H1 dx (.own x)) x (.ins C dx [])) (fun v H2 => v = .non ∧ Q (.ref x) H2) (E σ)
theorem run_makeS {pins : List (Addr × Obj)} {σ : L2.St} {H : Hp} {s : Shared} {Q : VK} {us : List Value} {vs : List V} {E : XK} (M : Mk X.K C f) (F : FnOk X.prog X.w X.K X.mg X.base (L2.CX X.prog X.w) k f fd ps sp) (hr : Room (k + 1) X.A) (hb : Binds X.K fd ps [])
    (hx : PassesAt (L2.CX X.prog X.w) X σ E) (I : Inv X pins σ H s) (r : Vals vs us)
    (h : ∀ x dx, H x = none → H dx = none → dx ≠ x → sp (.ref x :: vs) (upd (upd H dx (.own x)) x (.ins C dx [])) (fun v H2 => v = .non ∧ Q (.ref x) H2) E) :
    wpAny (model X.prog X.w) X.A (call (.ref C) us) (EP X pins σ Q) X.xe s := by
  have hq := h (s.heap.objs.size + 1) s.heap.objs.size (I.hok.fresh (Nat.le_succ _)) (I.hok.fresh (Nat.le_refl _)) (Nat.ne_of_lt (Nat.lt_succ_self _))
  have I2 := Inv.made (C := C) I
  have r2 : Vals (V.ref (s.heap.objs.size + 1) :: vs) (Value.ref (s.heap.objs.size + 1) :: us) := .cons rfl r
  have hl : (Value.ref (s.heap.objs.size + 1) :: us ++ []).length = ps.length := by
    have e := r2.length
    rw [F.len _ _ _ _ hq] at e
    rw [List.append_nil]
    exact e.symm
  have bb := hb _ (Value.ref (s.heap.objs.size + 1) :: us) I2.kIn hl
  rw [List.append_nil] at bb
  refine wpAny_call (make_map (f := f) I.kIn M.makes M.init (beq_iff_eq.mp M.fn) (codeAny_mono (F.run _ X.stack _ _ ⟨Value.ref (s.heap.objs.size + 1) :: us, []⟩ (Value.ref (s.heap.objs.size + 1) :: us) _ _ E (hr.make C us [])
    (I2.env0.make C us []) bb r2 hq) fun r s' hq' => ?_))
  cases r with
  | error e => exact hx pins _ _ e s' I2 hq'
  | ok fl =>
    cases fl with
    | ret u =>
      obtain ⟨v, H', I3, rv, ev, q3⟩ := I2.after hq'
      subst ev
      exact ⟨rv, ⟨V.ref (s.heap.objs.size + 1), H', I3, rfl, q3⟩⟩
    | next => exact False.elim hq'
    | brk => exact False.elim hq'
    | cont => exact False.elim hq'
theorem pe_makeS (M : Mk X.K C f) (F : FnOk X.prog X.w X.K X.mg X.base (L2.CX X.prog X.w) k f fd ps sp) (hr : Room (k + 1) X.A) (hg : Gl X x) (hm : X.mg x = some (.ref C)) (hb : Binds X.K fd ps []) (hx : ∀ σ, PassesAt (L2.CX X.prog X.w) X σ (E σ))
    (ha : PA X (e :: es) t) (hdb : (x == ("__debug__" : Str)) = false) (he : starEach (e :: es) X.env = (false, eval e X.env) :: starEach es X.env) (hpl : (backTo pos (starEach es X.env)).any (·.1) = false) :
    PE X (.Call (.Name x p) (e :: es) [] pos) (tMakeS C sp E t) := by
  refine ⟨fun pins s σ H Q I h => ?_⟩
  refine wpAny_Call_Name_kw (ld_glob I hg hm ?_ hdb)
  refine PySem.W.callWith_K (h₀ := X.base) I.ok.mod.kin M.kp (thn (ha.run pos pins s σ H _ I h) fun us s1 ⟨vs, H1, I1, r, q⟩ => ⟨I1.kIn, ?_⟩) he hpl
  exact run_makeS M F hr hb (hx σ) I1 r q
theorem pe_make0S (M : Mk X.K C f) (F : FnOk X.prog X.w X.K X.mg X.base (L2.CX X.prog X.w) k f fd ps sp) (hr : Room (k + 1) X.A) (hg : Gl X x) (hm : X.mg x = some (.ref C)) (hb : Binds X.K fd ps []) (hx : ∀ σ, PassesAt (L2.CX X.prog X.w) X σ (E σ))
    (hdb : (x == ("__debug__" : Str)) = false) : PE X (.Call (.Name x p) [] [] pos) (tMakeS C sp E L2.tNil) := by
  refine ⟨fun pins s σ H Q I h => ?_⟩
  refine wpAny_Call_Name_kw (ld_glob I hg hm ?_ hdb)
  exact PySem.W.callWith_K0 I.kIn M.kp (run_makeS (us := []) M F hr hb (hx σ) I .nil h)
end
/-! ### the rules of the reading -/
section
variable {X : Cx} {W : WX} {P : Prg} {k n : Nat} {f C : Addr} {fd : FuncData} {ps ks : List Str} {x m : Str} {p pos apos : Pos} {e o : Expr} {es : List Expr} {mas mks : MA} {mo : ME} {kws : List Keyword} {g : List Value → List Value → List Value} {gV : List V → List V → List V}
abbrev Fn (X : Cx) (P : Prg) (k : Nat) (f : Addr) (fd : FuncData) (ps : List Str) (x : Str) : Prop := FnOk X.prog X.w X.K X.mg X.base (L2.CX X.prog X.w) k f fd ps (spM X.K P k x)
theorem sp_of {σ : L2.St} {H : Hp} {Q : VK} {g : List MV → List MV} {y : Str} {vs : List V} {gW : List V → List V} (hg : ∀ ι H xs vs, RVs X.K ι H xs vs → RVs X.K ι H (g xs) (gW vs)) {ι A xs} (rh : RH X.K ι A H) (rvs : RVs X.K ι H xs vs) (h : PoR X.K W (RV X.K) (P.call k y (g xs) A) ι H σ Q) : spM X.K P k y (gW vs) H Q (WE W σ) :=
  ⟨ι, A, g xs, rh, hg _ _ _ _ rvs, PoC.of h⟩
theorem pm_call (F : Fn X P k f fd ps x) (hr : Room k X.A) (hg : Gl X x) (hm : X.mg x = some (.ref f)) (hk : PySem.W.keepIn X.K (.ref f) = true) (hb : Binds X.K fd ps []) (hx : ∀ σ, PassesAt (L2.CX X.prog X.w) X σ (WE W σ))
    (ha : PA X (e :: es) (tMA X.K W (P.ctx k) mas)) (hdb : (x == ("__debug__" : Str)) = false) (he : starEach (e :: es) X.env = (false, eval e X.env) :: starEach es X.env) (hpl : (backTo pos (starEach es X.env)).any (·.1) = false) :
    PE X (.Call (.Name x p) (e :: es) [] pos) (tM X.K W (P.ctx k) (eCall x mas id)) := by
  refine (pe_callS F hr hg hm hk hb hx ha hdb he hpl).weak fun σ H Q ⟨ι, A, ρ, rh, re, q⟩ => ?_
  exact ⟨ι, A, ρ, rh, re, (PoR.bind q).imp fun vs H1 ⟨ι1, A1, xs, ex, rh1, rvs, p1⟩ => ⟨ι1, A1, xs, rh1, rvs, PoC.of p1⟩⟩
theorem pm_call0 (F : Fn X P k f fd ps x) (hr : Room k X.A) (hg : Gl X x) (hm : X.mg x = some (.ref f)) (hk : PySem.W.keepIn X.K (.ref f) = true) (hb : Binds X.K fd ps []) (hx : ∀ σ, PassesAt (L2.CX X.prog X.w) X σ (WE W σ))
    (hdb : (x == ("__debug__" : Str)) = false) : PE X (.Call (.Name x p) [] [] pos) (tM X.K W (P.ctx k) (eCall x aN id)) := by
  refine (pe_call0S F hr hg hm hk hb hx hdb).weak fun σ H Q ⟨ι, A, ρ, rh, re, q⟩ => ?_
  exact ⟨ι, A, [], rh, rfl, PoC.of q⟩
end
end MM

/-! M6: the ops by values. -/
namespace MM
open PySem L2 PyProof.Rows
theorem big {n : Nat} (h : n ≤ 1000000) : n ≤ sizeLine := Nat.le_trans h (by decide)
theorem bigL {n : Nat} (h : n < 1000000) : n < sizeLine := Nat.lt_of_lt_of_le h (by decide)
section
variable {K : PySem.W.Frag} {ι : List Addr} {A : Mh} {H : Hp} {Q : VK} {v : MV} {w : V}
theorem PoO.here (h : PoO K (some (v, A)) ι H Q) (rh : RH K ι A H) (rv : RV K ι H v w) : Q w H := h ι H w (.refl ..) rh rv
theorem PoO.newL {vs : List MV} {xs : List V} (h : PoO K (newL vs A) ι H Q) (rh : RH K ι A H) (rv : RVs K ι H vs xs) : vs.length ≤ 1000000 ∧ ∀ p, H p = none → Q (.ref p) (upd H p (.lst xs)) := by
  unfold MM.newL at h
  by_cases hl : vs.length ≤ 1000000
  · rw [if_pos hl] at h
    refine ⟨hl, fun q hq => ?_⟩
    have ex2 : Ex ι H (ι ++ [q]) (upd H q (.lst xs)) := ⟨List.prefix_append _ _, .new hq⟩
    obtain ⟨_, rh2, hat⟩ := rh.new (o := .lst vs) (u := .lst xs) hq ⟨xs, upd_same, RVs.mono ex2 vs rv⟩
    exact h _ _ (.ref q) ex2 rh2 (by unfold RV; exact ⟨q, hat, rfl⟩)
  · rw [if_neg hl] at h; exact h.elim
theorem PoO.newT {vs : List MV} {xs : List V} (h : PoO K (some (.tup vs, A)) ι H Q) (rh : RH K ι A H) (rv : RVs K ι H vs xs) : ∀ p, H p = none → Q (.ref p) (upd H p (.tup xs)) := fun q hq => by
  have ex2 : Ex ι H ι (upd H q (.tup xs)) := ⟨List.prefix_refl _, .new hq⟩
  refine h ι (upd H q (.tup xs)) (.ref q) ex2 ⟨rh.len, rh.nd, fun i a' o h1 h2 => (rh.ob i a' o h1 h2).mono ex2 fun u' e => by rw [upd_ne (ne_of_none e hq)]; exact e⟩ ?_
  unfold RV
  exact ⟨q, xs, rfl, upd_same, RVs.mono ex2 vs rv⟩
theorem rv_int {i : Int} (h : RV K ι H (.int i) w) : w = .int i := by unfold RV at h; exact h
theorem rv_str {i : Str} (h : RV K ι H (.str i) w) : w = .str i := by unfold RV at h; exact h
theorem rv_bl {i : Bool} (h : RV K ι H (.bl i) w) : w = .bl i := by unfold RV at h; exact h
theorem rv_non (h : RV K ι H .non w) : w = .non := by unfold RV at h; exact h
theorem rv_ty {n : TN} (h : RV K ι H (.ty n) w) : w = .ty n.nm := by unfold RV at h; exact h
theorem rv_of_int {i : Int} : RV K ι H (.int i) (.int i) := by unfold RV; rfl
theorem rv_of_str {i : Str} : RV K ι H (.str i) (.str i) := by unfold RV; rfl
theorem rv_of_bl {i : Bool} : RV K ι H (.bl i) (.bl i) := by unfold RV; rfl
theorem rv_of_non : RV K ι H .non .non := by unfold RV; rfl
theorem rv_tup {vs : List MV} (h : RV K ι H (.tup vs) w) : ∃ a xs, w = .ref a ∧ H a = some (.tup xs) ∧ RVs K ι H vs xs := by unfold RV at h; exact h
theorem rv_ctup {vs : List MV} (h : RV K ι H (.ctup vs) w) : ∃ a xs, w = .ref a ∧ SqC K a xs ∧ RVs K ι H vs xs := by unfold RV at h; exact h
theorem rv_scr {vs : List MV} (h : RV K ι H (.scr vs) w) : ∃ a xs, w = .ref a ∧ SqF K H a xs ∧ RVs K ι H vs xs := by unfold RV at h; exact h
theorem rv_ref {p : Nat} (h : RV K ι H (.ref p) w) : ∃ a, ι[p]? = some a ∧ w = .ref a := by unfold RV at h; exact h
theorem rv_lst {p : Nat} {vs : List MV} (rh : RH K ι A H) (h : RV K ι H (.ref p) w) (e : A[p]? = some (.lst vs)) : ∃ a xs, ι[p]? = some a ∧ w = .ref a ∧ H a = some (.lst xs) ∧ RVs K ι H vs xs := by
  obtain ⟨a, h1, h2⟩ := rv_ref h
  obtain ⟨xs, h3, h4⟩ := rh.ob p a _ h1 e
  exact ⟨a, xs, h1, h2, h3, h4⟩
theorem rv_tupOf {vs : List MV} (h : RV K ι H v w) (e : tupOf v = some vs) : ∃ a xs, w = .ref a ∧ SqT K H a xs ∧ RVs K ι H vs xs := by
  cases v with
  | tup us => cases e; obtain ⟨a, xs, h1, h2, h3⟩ := rv_tup h; exact ⟨a, xs, h1, .of h2, h3⟩
  | ctup us => cases e; obtain ⟨a, xs, h1, h2, h3⟩ := rv_ctup h; exact ⟨a, xs, h1, h2.t, h3⟩
  | _ => cases e
theorem rv_seq {vs : List MV} (rh : RH K ι A H) (h : RV K ι H v w) (e : seqOf v A = some vs) : ∃ a xs, w = .ref a ∧ (SqL K H a xs ∨ SqT K H a xs) ∧ RVs K ι H vs xs := by
  cases v with
  | tup us => cases e; obtain ⟨a, xs, h1, h2, h3⟩ := rv_tup h; exact ⟨a, xs, h1, .inr (.of h2), h3⟩
  | ctup us => cases e; obtain ⟨a, xs, h1, h2, h3⟩ := rv_ctup h; exact ⟨a, xs, h1, .inr h2.t, h3⟩
  | scr us => cases e; obtain ⟨a, xs, h1, h2, h3⟩ := rv_scr h; exact ⟨a, xs, h1, .inl h2.l, h3⟩
  | ref p =>
    unfold seqOf at e
    dsimp only at e
    split at e
    · cases e
      rename_i us hp
      obtain ⟨a, xs, h1, h2, h3, h4⟩ := rv_lst rh h hp
      exact ⟨a, xs, h2, .inl (.of h3), h4⟩
    · cases e
  | _ => cases e
theorem RVs.append : ∀ {vs us : List MV} {xs ys : List V}, RVs K ι H vs xs → RVs K ι H us ys → RVs K ι H (vs ++ us) (xs ++ ys)
  | [], _, _, _, h, g => by unfold RVs at h; subst h; exact g
  | v :: vs, _, _, _, h, g => by
    unfold RVs at h
    obtain ⟨w, r, h1, h2, h3⟩ := h
    subst h1
    show RVs K ι H (v :: (vs ++ _)) (w :: (r ++ _))
    unfold RVs
    exact ⟨w, _, rfl, h2, RVs.append h3 g⟩
theorem RVs.drop : ∀ {vs : List MV} {xs : List V} (n : Nat), RVs K ι H vs xs → RVs K ι H (vs.drop n) (xs.drop n)
  | _, _, 0, h => h
  | [], _, n + 1, h => by unfold RVs at h; subst h; exact rfl
  | v :: vs, _, n + 1, h => by
    unfold RVs at h
    obtain ⟨w, r, h1, h2, h3⟩ := h
    subst h1
    exact RVs.drop n h3
theorem RVs.take : ∀ {vs : List MV} {xs : List V} (n : Nat), RVs K ι H vs xs → RVs K ι H (vs.take n) (xs.take n)
  | _, _, 0, _ => by unfold RVs; rfl
  | [], _, n + 1, h => by unfold RVs at h; subst h; exact rfl
  | v :: vs, _, n + 1, h => by
    unfold RVs at h
    obtain ⟨w, r, h1, h2, h3⟩ := h
    subst h1
    show RVs K ι H (v :: vs.take n) (w :: r.take n)
    unfold RVs
    exact ⟨w, _, rfl, h2, RVs.take n h3⟩
theorem RVs.set : ∀ {vs : List MV} {xs : List V} (n : Nat), RVs K ι H vs xs → RV K ι H v w → RVs K ι H (vs.set n v) (xs.set n w)
  | [], _, _, h, _ => by unfold RVs at h; subst h; exact rfl
  | u :: vs, _, 0, h, g => by
    unfold RVs at h
    obtain ⟨w', r, h1, h2, h3⟩ := h
    subst h1
    show RVs K ι H (v :: vs) (w :: r)
    unfold RVs
    exact ⟨w, r, rfl, g, h3⟩
  | u :: vs, _, n + 1, h, g => by
    unfold RVs at h
    obtain ⟨w', r, h1, h2, h3⟩ := h
    subst h1
    show RVs K ι H (u :: vs.set n v) (w' :: r.set n w)
    unfold RVs
    exact ⟨w', _, rfl, h2, RVs.set n h3 g⟩
theorem RVs.one {xs : List V} (h : RVs K ι H [v] xs) : ∃ w, xs = [w] ∧ RV K ι H v w := by
  unfold RVs at h
  obtain ⟨w, r, h1, h2, h3⟩ := h
  unfold RVs at h3
  subst h1 h3
  exact ⟨w, rfl, h2⟩
theorem RVs.two {v2 : MV} {xs : List V} (h : RVs K ι H [v, v2] xs) : ∃ w w2, xs = [w, w2] ∧ RV K ι H v w ∧ RV K ι H v2 w2 := by
  unfold RVs at h
  obtain ⟨w, r, h1, h2, h3⟩ := h
  obtain ⟨w2, h4, h5⟩ := h3.one
  subst h1 h4
  exact ⟨w, w2, rfl, h2, h5⟩
theorem RVs.cut {vs : List MV} {xs : List V} (h : RVs K ι H vs xs) (lo hi : Option Int) : RVs K ι H (cutM vs lo hi) (cutV xs lo hi) := by
  unfold cutM cutV
  rw [RVs.length h]
  exact RVs.take _ (RVs.drop _ h)
theorem RVs.isNil {vs : List MV} {xs : List V} (h : RVs K ι H vs xs) : vs ≠ [] → xs ≠ [] := fun hn hx => by
  subst hx
  cases vs with
  | nil => exact hn rfl
  | cons v r => unfold RVs at h; obtain ⟨_, _, h1, _⟩ := h; cases h1
end
section
variable {X : Cx}
theorem om_add : OpR X (binaryOp .Add) (uB2 X.K vAdd) := by
  intro pins s σ H x y v u Q I rx ry ⟨ι, A, a, b, rh, ra, rb, p⟩
  unfold vAdd at p
  split at p
  · cases rv_int ra; cases rv_int rb
    exact op_add pins s σ H _ _ v u Q I rx ry ⟨_, _, rfl, rfl, p.here rh rv_of_int⟩
  · cases rv_str ra; cases rv_str rb
    split at p
    · rename_i hl
      exact op_add_str pins s σ H _ _ v u Q I rx ry ⟨_, _, rfl, rfl, big hl, p.here rh rv_of_str⟩
    · exact p.elim
  · split at p
    · rename_i h1 h2
      obtain ⟨a1, xs, _, e1, hx, rvx⟩ := rv_lst rh ra h1
      obtain ⟨a2, ys, _, e2, hy, rvy⟩ := rv_lst rh rb h2
      obtain ⟨hl, q⟩ := p.newL rh (RVs.append rvx rvy)
      subst e1 e2
      refine op_cat pins s σ H _ _ v u Q I rx ry ⟨a1, a2, xs, ys, rfl, rfl, hx, hy, ?_, q⟩
      have := hl
      rw [List.length_append, ← RVs.length rvx, ← RVs.length rvy] at this
      exact big this
    · exact p.elim
  · split at p
    · rename_i h1 h2
      split at p
      · rename_i hl
        obtain ⟨n1, n2, hl⟩ := hl
        obtain ⟨a1, xs, e1, hx, rvx⟩ := rv_tupOf ra h1
        obtain ⟨a2, ys, e2, hy, rvy⟩ := rv_tupOf rb h2
        subst e1 e2
        refine op_catA pins s σ H _ _ v u Q I rx ry ⟨a1, a2, xs, ys, rfl, rfl, hx, hy, ?_, fun z => absurd z (rvx.isNil n1), fun _ z => absurd z (rvy.isNil n2), fun _ _ => p.newT rh (RVs.append rvx rvy)⟩
        rw [RVs.length rvx, RVs.length rvy]
        exact big hl
      · exact p.elim
    · exact p.elim
theorem om_sub : OpR X (binaryOp .Sub) (uB2 X.K vSub) := by
  intro pins s σ H x y v u Q I rx ry ⟨ι, A, a, b, rh, ra, rb, p⟩
  unfold vSub at p
  split at p
  · cases rv_int ra; cases rv_int rb
    exact op_sub pins s σ H _ _ v u Q I rx ry ⟨_, _, rfl, rfl, p.here rh rv_of_int⟩
  · exact p.elim
theorem om_mul : OpR X (binaryOp .Mult) (uB2 X.K vMul) := by
  intro pins s σ H x y v u Q I rx ry ⟨ι, A, a, b, rh, ra, rb, p⟩
  unfold vMul at p
  split at p
  · cases rv_int ra; cases rv_int rb
    split at p
    · rename_i hl
      exact op_mulW pins s σ H _ _ v u Q I rx ry ⟨_, _, rfl, rfl, hl, p.here rh rv_of_int⟩
    · exact p.elim
  · exact p.elim
theorem om_div : OpR X (binaryOp .FloorDiv) (uB2 X.K vDiv) := by
  intro pins s σ H x y v u Q I rx ry ⟨ι, A, a, b, rh, ra, rb, p⟩
  unfold vDiv at p
  split at p
  · cases rv_int ra; cases rv_int rb
    split at p
    · rename_i hl
      exact op_fdivW pins s σ H _ _ v u Q I rx ry ⟨_, _, rfl, rfl, hl, p.here rh rv_of_int⟩
    · exact p.elim
  · exact p.elim
theorem om_mod : OpR X (binaryOp .Mod) (uB2 X.K vMod) := by
  intro pins s σ H x y v u Q I rx ry ⟨ι, A, a, b, rh, ra, rb, p⟩
  unfold vMod at p
  split at p
  · cases rv_int ra; cases rv_int rb
    split at p
    · rename_i hl
      exact op_mod pins s σ H _ _ v u Q I rx ry ⟨_, _, rfl, rfl, hl, p.here rh rv_of_int⟩
    · exact p.elim
  · exact p.elim
theorem om_pow : OpR X (binaryOp .Pow) (uB2 X.K vPow) := by
  intro pins s σ H x y v u Q I rx ry ⟨ι, A, a, b, rh, ra, rb, p⟩
  unfold vPow at p
  split at p
  · cases rv_int ra; cases rv_int rb
    split at p
    · rename_i hl
      exact op_pow pins s σ H _ _ v u Q I rx ry ⟨_, _, rfl, rfl, hl, p.here rh rv_of_int⟩
    · exact p.elim
  · exact p.elim
theorem om_neg : UnR X (unaryOp .USub) (uB1 X.K vNeg) := by
  intro pins s σ H x v Q I rx ⟨ι, A, a, rh, ra, p⟩
  unfold vNeg at p
  split at p
  · cases rv_int ra
    exact un_neg pins s σ H _ v Q I rx ⟨_, rfl, p.here rh rv_of_int⟩
  · exact p.elim
theorem om_lt : OpR X (compareOp .Lt) (uB2 X.K vLt) := by
  intro pins s σ H x y v u Q I rx ry ⟨ι, A, a, b, rh, ra, rb, p⟩
  unfold vLt vCmpI at p
  split at p
  · cases rv_int ra; cases rv_int rb
    exact op_lt pins s σ H _ _ v u Q I rx ry ⟨_, _, rfl, rfl, p.here rh rv_of_bl⟩
  · exact p.elim
theorem om_le : OpR X (compareOp .LtE) (uB2 X.K vLe) := by
  intro pins s σ H x y v u Q I rx ry ⟨ι, A, a, b, rh, ra, rb, p⟩
  unfold vLe vCmpI at p
  split at p
  · cases rv_int ra; cases rv_int rb
    exact op_le pins s σ H _ _ v u Q I rx ry ⟨_, _, rfl, rfl, p.here rh rv_of_bl⟩
  · exact p.elim
theorem om_gt : OpR X (compareOp .Gt) (uB2 X.K vGt) := by
  intro pins s σ H x y v u Q I rx ry ⟨ι, A, a, b, rh, ra, rb, p⟩
  unfold vGt vCmpI at p
  split at p
  · cases rv_int ra; cases rv_int rb
    exact op_gt pins s σ H _ _ v u Q I rx ry ⟨_, _, rfl, rfl, p.here rh rv_of_bl⟩
  · exact p.elim
theorem om_ge : OpR X (compareOp .GtE) (uB2 X.K vGe) := by
  intro pins s σ H x y v u Q I rx ry ⟨ι, A, a, b, rh, ra, rb, p⟩
  unfold vGe vCmpI at p
  split at p
  · cases rv_int ra; cases rv_int rb
    exact op_ge pins s σ H _ _ v u Q I rx ry ⟨_, _, rfl, rfl, p.here rh rv_of_bl⟩
  · exact p.elim
theorem om_isN : OpR X (compareOp .Is) (uB2 X.K vIsN) := by
  intro pins s σ H x y v u Q I rx ry ⟨ι, A, a, b, rh, ra, rb, p⟩
  unfold vIsN at p
  split at p
  · cases rv_non rb
    refine op_isN pins s σ H _ _ v u Q I rx ry ⟨rfl, ?_⟩
    have q := p.here rh rv_of_bl
    cases a with
    | non => cases rv_non ra; simpa using q
    | bl _ => cases rv_bl ra; simpa using q
    | int _ => cases rv_int ra; simpa using q
    | str _ => cases rv_str ra; simpa using q
    | tup _ => obtain ⟨_, _, h1, _⟩ := rv_tup ra; cases h1; simpa using q
    | ctup _ => obtain ⟨_, _, h1, _⟩ := rv_ctup ra; cases h1; simpa using q
    | scr _ => obtain ⟨_, _, h1, _⟩ := rv_scr ra; cases h1; simpa using q
    | ref _ => obtain ⟨_, _, h1⟩ := rv_ref ra; cases h1; simpa using q
    | fn _ => have h1 := ra; unfold RV at h1; cases h1; simpa using q
    | cls _ => have h1 := ra; unfold RV at h1; cases h1; simpa using q
    | ty _ => cases rv_ty ra; simpa using q
  · exact p.elim
theorem om_notN : OpR X (compareOp .IsNot) (uB2 X.K vNotN) := by
  intro pins s σ H x y v u Q I rx ry ⟨ι, A, a, b, rh, ra, rb, p⟩
  unfold vNotN at p
  split at p
  · cases rv_non rb
    refine op_notN pins s σ H _ _ v u Q I rx ry ⟨rfl, ?_⟩
    have q := p.here rh rv_of_bl
    cases a with
    | non => cases rv_non ra; simpa using q
    | bl _ => cases rv_bl ra; simpa using q
    | int _ => cases rv_int ra; simpa using q
    | str _ => cases rv_str ra; simpa using q
    | tup _ => obtain ⟨_, _, h1, _⟩ := rv_tup ra; cases h1; simpa using q
    | ctup _ => obtain ⟨_, _, h1, _⟩ := rv_ctup ra; cases h1; simpa using q
    | scr _ => obtain ⟨_, _, h1, _⟩ := rv_scr ra; cases h1; simpa using q
    | ref _ => obtain ⟨_, _, h1⟩ := rv_ref ra; cases h1; simpa using q
    | fn _ => have h1 := ra; unfold RV at h1; cases h1; simpa using q
    | cls _ => have h1 := ra; unfold RV at h1; cases h1; simpa using q
    | ty _ => cases rv_ty ra; simpa using q
  · exact p.elim
theorem sEq_ok {K : PySem.W.Frag} {ι : List Addr} {H : Hp} {a b : MV} {x y : V} {k : Bool} (ra : RV K ι H a x) (rb : RV K ι H b y) (e : sEq a b = some k) : scal x y = true ∧ decide (x = y) = k := by
  unfold sEq at e
  split at e <;> first
    | (simp only [RV] at ra rb; subst ra; subst rb; cases e; exact ⟨rfl, by simp⟩)
    | (cases e)
theorem om_eq : OpR X (compareOp .Eq) (uB2 X.K vEq) := by
  intro pins s σ H x y v u Q I rx ry ⟨ι, A, a, b, rh, ra, rb, p⟩
  unfold vEq at p
  cases e : sEq a b with
  | none => rw [e] at p; exact p.elim
  | some k =>
    rw [e] at p
    obtain ⟨h1, h2⟩ := sEq_ok ra rb e
    refine op_eq pins s σ H _ _ v u Q I rx ry ⟨h1, ?_⟩
    rw [h2]
    exact PoO.here (v := .bl k) p rh rv_of_bl
theorem om_ne : OpR X (compareOp .NotEq) (uB2 X.K vNe) := by
  intro pins s σ H x y v u Q I rx ry ⟨ι, A, a, b, rh, ra, rb, p⟩
  unfold vNe at p
  cases e : sEq a b with
  | none => rw [e] at p; exact p.elim
  | some k =>
    rw [e] at p
    obtain ⟨h1, h2⟩ := sEq_ok ra rb e
    refine op_ne pins s σ H _ _ v u Q I rx ry ⟨h1, ?_⟩
    rw [h2]
    exact PoO.here (v := .bl (!k)) p rh rv_of_bl
theorem listAt_ok {K : PySem.W.Frag} {ι : List Addr} {H : Hp} {A : Mh} {x : MV} {w : V} {ys : List MV} (rh : RH K ι A H) (r : RV K ι H x w) (e : listAt x A = some ys) : ∃ p a xs, x = .ref p ∧ A[p]? = some (.lst ys) ∧ ι[p]? = some a ∧ w = .ref a ∧ H a = some (.lst xs) ∧ RVs K ι H ys xs := by
  unfold listAt at e
  split at e
  · split at e
    · cases e
      rename_i p us hp
      obtain ⟨a, xs, h1, h2, h3, h4⟩ := rv_lst rh r hp
      exact ⟨p, a, xs, rfl, hp, h1, h2, h3, h4⟩
    · cases e
  · cases e
theorem flat_ok {K : PySem.W.Frag} {ι : List Addr} {H : Hp} {a : MV} {x : V} (h : RV K ι H a x) (e : flat a = true) : flatV x = true := by
  cases a <;> first | (cases e; done) | (simp only [RV] at h; subst h; rfl)
theorem fEq_ok {K : PySem.W.Frag} {ι : List Addr} {H : Hp} {a b : MV} {x y : V} (ra : RV K ι H a x) (rb : RV K ι H b y) (ea : flat a = true) (eb : flat b = true) : eqV x y = fEq a b := by
  cases a <;> first
    | (cases ea; done)
    | (cases b <;> first
        | (cases eb; done)
        | (simp only [RV] at ra rb; subst ra; subst rb; rfl))
theorem flats_ok {K : PySem.W.Frag} {ι : List Addr} {H : Hp} : ∀ {as : List MV} {xs : List V}, RVs K ι H as xs → as.all flat = true → xs.all flatV = true
  | [], _, h, _ => by unfold RVs at h; subst h; rfl
  | a :: as, _, h, e => by
    unfold RVs at h
    obtain ⟨w, r, h1, h2, h3⟩ := h
    subst h1
    simp only [List.all_cons, Bool.and_eq_true] at e ⊢
    exact ⟨flat_ok h2 e.1, flats_ok h3 e.2⟩
theorem in_ok {K : PySem.W.Frag} {ι : List Addr} {H : Hp} {a : MV} {x : V} (ra : RV K ι H a x) (ea : flat a = true) : ∀ {as : List MV} {xs : List V}, RVs K ι H as xs → as.all flat = true → inV x xs = as.any fun z => fEq z a
  | [], _, h, _ => by unfold RVs at h; subst h; rfl
  | b :: as, _, h, e => by
    unfold RVs at h
    obtain ⟨w, r, h1, h2, h3⟩ := h
    subst h1
    simp only [List.all_cons, Bool.and_eq_true] at e
    unfold inV
    rw [List.any_cons, List.any_cons, fEq_ok h2 ra e.1 ea]
    have := in_ok ra ea h3 e.2
    unfold inV at this
    rw [this]
theorem inB_ok {K : PySem.W.Frag} {ι : List Addr} {H : Hp} {A : Mh} {a b : MV} {x y : V} {k : Bool} (rh : RH K ι A H) (ra : RV K ι H a x) (rb : RV K ι H b y) (e : inB a b A = some k) :
    (∃ i j, x = .str i ∧ y = .str j ∧ k = !(Builtin.Str.occurrences j i 0 j.length 1).isEmpty) ∨ (∃ p xs, y = .ref p ∧ (SqL K H p xs ∨ SqT K H p xs) ∧ flatV x = true ∧ xs.all flatV = true ∧ k = inV x xs) := by
  unfold inB at e
  split at e
  · split at e
    · cases e
      exact .inl ⟨_, _, rv_str ra, rv_str rb, rfl⟩
    · cases e
  · split at e
    · rename_i ys hs
      split at e
      · rename_i hf
        cases e
        obtain ⟨p, xs, h1, h2, h3⟩ := rv_seq rh rb hs
        exact .inr ⟨p, xs, h1, h2, flat_ok ra hf.1, flats_ok h3 hf.2, (in_ok ra hf.1 h3 hf.2).symm⟩
      · cases e
    · cases e
theorem om_in : OpR X (compareOp .In) (uB2 X.K vIn) := by
  intro pins s σ H x y v u Q I rx ry ⟨ι, A, a, b, rh, ra, rb, p⟩
  unfold vIn at p
  cases e : inB a b A with
  | none => rw [e] at p; exact p.elim
  | some k =>
    rw [e] at p
    have q := PoO.here (v := .bl k) p rh rv_of_bl
    rcases inB_ok rh ra rb e with ⟨i, j, rfl, rfl, rfl⟩ | ⟨p', xs, rfl, h2, h3, h4, rfl⟩
    · exact op_in_str pins s σ H _ _ v u Q I rx ry ⟨i, j, rfl, rfl, q⟩
    · exact op_in_seq pins s σ H _ _ v u Q I rx ry ⟨p', xs, rfl, h2, h3, h4, by simpa using q⟩
theorem om_notIn : OpR X (compareOp .NotIn) (uB2 X.K vNotIn) := by
  intro pins s σ H x y v u Q I rx ry ⟨ι, A, a, b, rh, ra, rb, p⟩
  unfold vNotIn at p
  cases e : inB a b A with
  | none => rw [e] at p; exact p.elim
  | some k =>
    rw [e] at p
    have q := PoO.here (v := .bl (!k)) p rh rv_of_bl
    rcases inB_ok rh ra rb e with ⟨i, j, rfl, rfl, rfl⟩ | ⟨p', xs, rfl, h2, h3, h4, rfl⟩
    · exact op_notin_str pins s σ H _ _ v u Q I rx ry ⟨i, j, rfl, rfl, q⟩
    · exact op_notIn_seq pins s σ H _ _ v u Q I rx ry ⟨p', xs, rfl, h2, h3, h4, by simpa using q⟩
theorem ix_get {K : PySem.W.Frag} {ι : List Addr} {H : Hp} {vs : List MV} {xs : List V} {i : Int} {v : MV} (h : RVs K ι H vs xs) (e : atI vs i = some v) : ∃ x, atI xs i = some x ∧ RV K ι H v x := by
  unfold atI at e ⊢
  rw [RVs.length h]
  cases hj : ixN vs.length i with
  | none => rw [hj] at e; cases e
  | some j =>
    rw [hj] at e
    exact RVs.get h e
theorem om_idx : IxR X (uB2 X.K vIdx) := by
  intro value slice pins s σ H x y v u Q I rx ry ⟨ι, A, a, b, rh, ra, rb, p⟩ hs
  unfold vIdx at p
  split at p
  · rename_i i
    cases rv_int rb
    split at p
    · rename_i z
      cases rv_str ra
      split at p
      · rename_i hl
        cases e : atI z.cps.toList i with
        | none => rw [e] at p; exact p.elim
        | some c =>
          rw [e] at p
          exact ix_str value slice pins s σ H _ _ v u Q I rx ry ⟨z, i, c, rfl, rfl, big hl, e, PoO.here (v := .str ⟨#[c]⟩) p rh rv_of_str⟩ hs
      · exact p.elim
    · split at p
      · rename_i xs hsq
        cases e : atI xs i with
        | none => rw [e] at p; exact p.elim
        | some c =>
          rw [e] at p
          obtain ⟨a', ys, rfl, hq, rvs⟩ := rv_seq rh ra hsq
          obtain ⟨z, hz, rz⟩ := ix_get rvs e
          rcases hq with hq | hq
          · exact ix_list value slice pins s σ H _ _ v u Q I rx ry ⟨a', ys, i, z, rfl, rfl, hq, hz, PoO.here (v := c) p rh rz⟩ hs
          · exact ix_tup value slice pins s σ H _ _ v u Q I rx ry ⟨a', ys, i, z, rfl, rfl, hq, hz, PoO.here (v := c) p rh rz⟩ hs
      · exact p.elim
  · exact p.elim
end
end MM

/-! M7: built-ins. -/
namespace MM
open PySem L2 PyProof.Rows
section
variable {X : Cx} {W : WX} {c : Ctx} {e o : Expr} {es : List Expr} {mas : MA} {mo me : ME} {x m : Str} {p pos apos : Pos} {f : BN} {id : String} {T : String}
theorem pm_callB (hc : CallR X (.builtin id) (uBN X.K f)) (hg : Gl X x) (hm : X.mg x = none) (hv : bootBuiltins x = some (.builtin id)) (ha : PA X (e :: es) (tMA X.K W c mas)) (hn : x ≠ "__name__") (hdb : (x == ("__debug__" : Str)) = false)
    (he : starEach (e :: es) X.env = (false, eval e X.env) :: starEach es X.env) (hpl : (backTo pos (starEach es X.env)).any (·.1) = false) : PE X (.Call (.Name x p) (e :: es) [] pos) (tM X.K W c (eBN f mas)) :=
  (pe_callB hc hg hm hv ha hn hdb he hpl).weak fun σ H Q ⟨ι, A, ρ, rh, re, q⟩ => ⟨ι, A, ρ, rh, re, (PoR.bind q).imp fun vs H1 ⟨ι1, A1, xs, ex, rh1, rvs, p1⟩ => ⟨ι1, A1, xs, rh1, rvs, PoO.of p1⟩⟩
theorem pm_callTy (hc : CallR X (.type T) (uBN X.K f)) (hg : Gl X x) (hm : X.mg x = none) (hv : bootBuiltins x = some (.type T)) (ha : PA X (e :: es) (tMA X.K W c mas)) (hn : x ≠ "__name__") (hdb : (x == ("__debug__" : Str)) = false)
    (he : starEach (e :: es) X.env = (false, eval e X.env) :: starEach es X.env) (hpl : (backTo pos (starEach es X.env)).any (·.1) = false) : PE X (.Call (.Name x p) (e :: es) [] pos) (tM X.K W c (eBN f mas)) :=
  (pe_callTy hc hg hm hv ha hn hdb he hpl).weak fun σ H Q ⟨ι, A, ρ, rh, re, q⟩ => ⟨ι, A, ρ, rh, re, (PoR.bind q).imp fun vs H1 ⟨ι1, A1, xs, ex, rh1, rvs, p1⟩ => ⟨ι1, A1, xs, rh1, rvs, PoO.of p1⟩⟩
end
section
variable {X : Cx}
theorem cm_len : CallR X (.builtin "len") (uBN X.K bLen) := by
  intro pins s σ H xs us Q I r ⟨ι, A, vs, rh, rv, p⟩
  unfold bLen at p
  split at p
  · obtain ⟨w, rfl, r1⟩ := rv.one
    cases rv_str r1
    split at p
    · rename_i hl
      exact call_len pins s σ H _ us Q I r ⟨_, _, rfl, ⟨big hl, rfl⟩, PoO.here p rh rv_of_int⟩
    · exact p.elim
  · obtain ⟨w, rfl, r1⟩ := rv.one
    split at p
    · rename_i ys hs
      obtain ⟨a, xs, rfl, hq, rvs⟩ := rv_seq rh r1 hs
      refine call_len pins s σ H _ us Q I r ⟨_, ys.length, rfl, ?_, PoO.here p rh rv_of_int⟩
      rcases hq with hq | hq
      · exact .inl ⟨xs, hq, (RVs.length rvs).symm⟩
      · exact .inr ⟨xs, hq, (RVs.length rvs).symm⟩
    · exact p.elim
  · exact p.elim
theorem cm_list : CallR X (.type "list") (uBN X.K bList) := by
  intro pins s σ H xs us Q I r ⟨ι, A, vs, rh, rv, p⟩
  unfold bList at p
  split at p
  · obtain ⟨w, rfl, r1⟩ := rv.one
    split at p
    · rename_i ys hs
      obtain ⟨a, xs, rfl, hq, rvs⟩ := rv_seq rh r1 hs
      exact call_list_of pins s σ H _ us Q I r ⟨a, xs, rfl, hq, (p.newL rh rvs).2⟩
    · exact p.elim
  · exact p.elim
theorem cm_tuple : CallR X (.type "tuple") (uBN X.K bTuple) := by
  intro pins s σ H xs us Q I r ⟨ι, A, vs, rh, rv, p⟩
  unfold bTuple at p
  split at p
  · obtain ⟨w, rfl, r1⟩ := rv.one
    obtain ⟨a, xs, rfl, h2, h3⟩ := rv_tup r1
    exact call_tuple_of pins s σ H _ us Q I r ⟨a, xs, rfl, .inr ⟨.of h2, PoO.here p rh r1⟩⟩
  · obtain ⟨w, rfl, r1⟩ := rv.one
    obtain ⟨a, xs, rfl, h2, h3⟩ := rv_ctup r1
    exact call_tuple_of pins s σ H _ us Q I r ⟨a, xs, rfl, .inr ⟨h2.t, PoO.here p rh r1⟩⟩
  · obtain ⟨w, rfl, r1⟩ := rv.one
    split at p
    · rename_i hp
      obtain ⟨a, xs, h1, rfl, h3, h4⟩ := rv_lst rh r1 hp
      exact call_tuple_of pins s σ H _ us Q I r ⟨a, xs, rfl, .inl ⟨.of h3, p.newT rh h4⟩⟩
    · exact p.elim
  · exact p.elim
theorem bools_ok {K : PySem.W.Frag} {ι : List Addr} {H : Hp} : ∀ {vs : List MV} {xs : List V} {bs : List Bool}, RVs K ι H vs xs → boolsOf vs = some bs → xs = bs.map V.bl
  | [], _, _, h, e => by unfold RVs at h; subst h; cases e; rfl
  | v :: vs, _, bs, h, e => by
    unfold RVs at h
    obtain ⟨w, r, h1, h2, h3⟩ := h
    subst h1
    cases v with
    | bl b =>
      cases rv_bl h2
      have e2 : (boolsOf vs).map (b :: ·) = some bs := e
      cases h4 : boolsOf vs with
      | none => rw [h4] at e2; cases e2
      | some cs => rw [h4] at e2; cases e2; rw [bools_ok h3 h4]; rfl
    | _ => cases e
theorem ints_ok {K : PySem.W.Frag} {ι : List Addr} {H : Hp} : ∀ {vs : List MV} {xs : List V} {bs : List Int}, RVs K ι H vs xs → intsOf vs = some bs → xs = bs.map V.int
  | [], _, _, h, e => by unfold RVs at h; subst h; cases e; rfl
  | v :: vs, _, bs, h, e => by
    unfold RVs at h
    obtain ⟨w, r, h1, h2, h3⟩ := h
    subst h1
    cases v with
    | int b =>
      cases rv_int h2
      have e2 : (intsOf vs).map (b :: ·) = some bs := e
      cases h4 : intsOf vs with
      | none => rw [h4] at e2; cases e2
      | some cs => rw [h4] at e2; cases e2; rw [ints_ok h3 h4]; rfl
    | _ => cases e
theorem strs_ok {K : PySem.W.Frag} {ι : List Addr} {H : Hp} : ∀ {vs : List MV} {xs : List V} {bs : List Str}, RVs K ι H vs xs → strsOf vs = some bs → xs = bs.map V.str
  | [], _, _, h, e => by unfold RVs at h; subst h; cases e; rfl
  | v :: vs, _, bs, h, e => by
    unfold RVs at h
    obtain ⟨w, r, h1, h2, h3⟩ := h
    subst h1
    cases v with
    | str b =>
      cases rv_str h2
      have e2 : (strsOf vs).map (b :: ·) = some bs := e
      cases h4 : strsOf vs with
      | none => rw [h4] at e2; cases e2
      | some cs => rw [h4] at e2; cases e2; rw [strs_ok h3 h4]; rfl
    | _ => cases e
theorem cm_all (hc : X.calm = true) : CallR X (.builtin "all") (uBN X.K bAll) := by
  intro pins s σ H xs us Q I r ⟨ι, A, vs, rh, rv, p⟩
  unfold bAll at p
  split at p
  · rename_i v0
    obtain ⟨w, rfl, r1⟩ := rv.one
    cases e1 : listAt v0 A with
    | none => rw [e1] at p; exact p.elim
    | some ys =>
      rw [e1] at p
      obtain ⟨q, a, xs, rfl, h1, h2, rfl, h4, h5⟩ := listAt_ok rh r1 e1
      dsimp only [Option.bind] at p
      cases e2 : boolsOf ys with
      | none => rw [e2] at p; exact p.elim
      | some bs =>
        rw [e2] at p
        have e3 := bools_ok h5 e2
        subst e3
        exact cr_all hc pins s σ H _ us Q I r ⟨a, bs, rfl, .of h4, PoO.here (v := .bl (bs.all _root_.id)) p rh rv_of_bl⟩
  · exact p.elim
theorem cm_any (hc : X.calm = true) : CallR X (.builtin "any") (uBN X.K bAny) := by
  intro pins s σ H xs us Q I r ⟨ι, A, vs, rh, rv, p⟩
  unfold bAny at p
  split at p
  · rename_i v0
    obtain ⟨w, rfl, r1⟩ := rv.one
    cases e1 : listAt v0 A with
    | none => rw [e1] at p; exact p.elim
    | some ys =>
      rw [e1] at p
      obtain ⟨q, a, xs, rfl, h1, h2, rfl, h4, h5⟩ := listAt_ok rh r1 e1
      dsimp only [Option.bind] at p
      cases e2 : boolsOf ys with
      | none => rw [e2] at p; exact p.elim
      | some bs =>
        rw [e2] at p
        have e3 := bools_ok h5 e2
        subst e3
        exact cr_any hc pins s σ H _ us Q I r ⟨a, bs, rfl, .of h4, PoO.here (v := .bl (bs.any _root_.id)) p rh rv_of_bl⟩
  · exact p.elim
theorem cm_sum (hc : X.calm = true) : CallR X (.builtin "sum") (uBN X.K bSum) := by
  intro pins s σ H xs us Q I r ⟨ι, A, vs, rh, rv, p⟩
  unfold bSum at p
  split at p
  · rename_i v0
    obtain ⟨w, rfl, r1⟩ := rv.one
    cases e1 : listAt v0 A with
    | none => rw [e1] at p; exact p.elim
    | some ys =>
      rw [e1] at p
      obtain ⟨q, a, xs, rfl, h1, h2, rfl, h4, h5⟩ := listAt_ok rh r1 e1
      dsimp only [Option.bind] at p
      cases e2 : intsOf ys with
      | none => rw [e2] at p; exact p.elim
      | some bs =>
        rw [e2] at p
        have e3 := ints_ok h5 e2
        subst e3
        exact cr_sum hc pins s σ H _ us Q I r ⟨a, bs, rfl, .of h4, PoO.here (v := .int bs.sum) p rh rv_of_int⟩
  · exact p.elim
theorem cm_int : CallR X (.type "int") (uBN X.K bInt) := by
  intro pins s σ H xs us Q I r ⟨ι, A, vs, rh, rv, p⟩
  unfold bInt at p
  split at p
  · obtain ⟨w, rfl, r1⟩ := rv.one
    cases rv_int r1
    exact call_int1 pins s σ H _ us Q I r (.inl ⟨_, rfl, PoO.here p rh rv_of_int⟩)
  · rename_i z
    obtain ⟨w, rfl, r1⟩ := rv.one
    cases rv_str r1
    split at p
    · rename_i hl
      cases e : PySem.intText? z with
      | none => rw [e] at p; exact p.elim
      | some n =>
        rw [e] at p
        exact call_int_str pins s σ H _ us Q I r ⟨z, n, rfl, e, hl, PoO.here (v := .int n) p rh rv_of_int⟩
    · exact p.elim
  · exact p.elim
theorem cm_str : CallR X (.type "str") (uBN X.K bStr) := by
  intro pins s σ H xs us Q I r ⟨ι, A, vs, rh, rv, p⟩
  unfold bStr at p
  split at p
  · obtain ⟨w, rfl, r1⟩ := rv.one
    cases rv_int r1
    split at p
    · rename_i hl
      exact call_str_int pins s σ H _ us Q I r ⟨_, rfl, hl, PoO.here p rh rv_of_str⟩
    · exact p.elim
  · exact p.elim
theorem tyOf_ok {K : PySem.W.Frag} {ι : List Addr} {H : Hp} {A : Mh} {v : MV} {w : V} {t : TN} (rh : RH K ι A H) (r : RV K ι H v w) (e : tyOf v A = some t) : TyX K H w (.type t.nm) := by
  unfold tyOf at e
  split at e
  · cases e; cases rv_non r; exact .base .non
  · cases e; cases rv_bl r; exact .base (.bl _)
  · cases e; cases rv_int r; exact .base (.int _)
  · cases e; cases rv_str r; exact .base (.str _)
  · cases e
    obtain ⟨a, xs, rfl, h2, h3⟩ := rv_tup r
    exact .base (.tup h2)
  · cases e
    obtain ⟨a, xs, rfl, ⟨o, its, n, h4, h5, h6⟩, h3⟩ := rv_ctup r
    exact .kTuple h4 h5
  · split at e
    · cases e
      rename_i hp
      obtain ⟨a, xs, h1, rfl, h3, h4⟩ := rv_lst rh r hp
      exact .base (.lst h3)
    · cases e
      rename_i hp
      obtain ⟨a, h1, rfl⟩ := rv_ref r
      obtain ⟨ws, h3, h4⟩ := rh.ob _ a _ h1 hp
      exact .base (.dK h3)
    · cases e
      rename_i hp
      obtain ⟨a, h1, rfl⟩ := rv_ref r
      obtain ⟨ws, h3, h4⟩ := rh.ob _ a _ h1 hp
      exact .base (.dT h3)
    · cases e
  · cases e
theorem isOf_ok {K : PySem.W.Frag} {t n : TN} {b : Bool} (e : isOf t n = some b) : PySem.W.kitOne K (.type t.nm) (.type n.nm) = some b := by
  cases n <;> cases t <;> first
    | (cases e; done)
    | (cases e; exact kit_ty (by decide +kernel))
theorem cm_isi : CallR X (.builtin "isinstance") (uBN X.K bIsi) := by
  intro pins s σ H xs us Q I r ⟨ι, A, vs, rh, rv, p⟩
  unfold bIsi at p
  split at p
  · rename_i v0 n
    obtain ⟨w, w2, rfl, r1, r2⟩ := rv.two
    cases rv_ty r2
    split at p
    · rename_i t ht
      have h1 := tyOf_ok rh r1 ht
      cases e : isOf t n with
      | none => rw [e] at p; exact p.elim
      | some b =>
        rw [e] at p
        exact call_isi pins s σ H _ us Q I r ⟨_, _, _, _, b, rfl, .ty n.nm, h1, isOf_ok e, PoO.here (v := .bl b) p rh rv_of_bl⟩
    · exact p.elim
  · rename_i v0 n m
    obtain ⟨w, w2, rfl, r1, r2⟩ := rv.two
    obtain ⟨a, xs, rfl, h4, h5⟩ := rv_tup r2
    obtain ⟨c1, c2, rfl, q1, q2⟩ := h5.two
    cases rv_ty q1
    cases rv_ty q2
    split at p
    · rename_i t ht
      have h1 := tyOf_ok rh r1 ht
      split at p
      · rename_i k1 k2 e1 e2
        have f1 := isOf_ok (K := X.K) e1
        have f2 := isOf_ok (K := X.K) e2
        refine call_isiT pins s σ H _ us Q I r ⟨_, a, _, .type t.nm, [.type n.nm, .type m.nm], k1 || k2, rfl, h4, .cons (.ty n.nm) (.cons (.ty m.nm) .nil), h1, ?_, PoO.here (v := .bl (k1 || k2)) p rh rv_of_bl⟩
        unfold PySem.W.kitAny PySem.W.kitAny PySem.W.kitAny
        rw [f1, f2]
        cases k1 <;> cases k2 <;> rfl
      · exact p.elim
    · exact p.elim
  · exact p.elim
end
/-! ### methods of built-in types -/
section
variable {X : Cx} {W : WX} {c : Ctx} {e o : Expr} {es : List Expr} {mas : MA} {mo me : ME} {nm : Str} {p cpos apos : Pos} {f : MV → BN} {id : String} {T : TN}
theorem tyV_ok {K : PySem.W.Frag} {ι : List Addr} {H : Hp} {A : Mh} {v : MV} {w : V} (rh : RH K ι A H) (r : RV K ι H v w) (hT : T = .lst ∨ T = .dct ∨ T = .str) (e : tyOf v A = some T) : tyV K T.nm w H := by
  unfold tyOf at e
  split at e
  · cases e; rcases hT with h | h | h <;> cases h
  · cases e; rcases hT with h | h | h <;> cases h
  · cases e; rcases hT with h | h | h <;> cases h
  · cases e; cases rv_str r; exact rfl
  · cases e; rcases hT with h | h | h <;> cases h
  · cases e; rcases hT with h | h | h <;> cases h
  · split at e
    · cases e
      rename_i hp
      obtain ⟨a, xs, h1, rfl, h3, h4⟩ := rv_lst rh r hp
      exact .inl ⟨rfl, xs, .of h3⟩
    · cases e
      rename_i hp
      obtain ⟨a, h1, rfl⟩ := rv_ref r
      obtain ⟨ws, h3, h4⟩ := rh.ob _ a _ h1 hp
      exact .inr (.inr (.inl ⟨rfl, .inl ⟨ws, h3⟩⟩))
    · cases e
      rename_i hp
      obtain ⟨a, h1, rfl⟩ := rv_ref r
      obtain ⟨ws, h3, h4⟩ := rh.ob _ a _ h1 hp
      exact .inr (.inr (.inl ⟨rfl, .inr ⟨ws, h3⟩⟩))
    · cases e
  · cases e
theorem pm_bm (hT : T = .lst ∨ T = .dct ∨ T = .str) (pa : PlainAttrs T.nm) (slot : Slot T.nm nm id) (hty : typeOf (.builtin id) = pure (.type "method_descriptor")) (hm : MtR X id (uBM X.K f)) (ho : PE X o (tM X.K W c mo)) (ha : PA X (e :: es) (tMA X.K W c mas))
    (hbase : attributeBase o nm X.env (eval o X.env) = eval o X.env)
    (hfew : ((backTo cpos (starEach (e :: es) X.env)).all (fun x => !x.1) && (backToKw cpos (keywordEach [] X.env)).all (fun x => x.1.isSome)
      && decide ((e :: es).length + ([] : List Keyword).length + (if ([] : List Keyword).isEmpty then 0 else 1) < 30)) = true)
    (hline : (apos.endLine == cpos.line) = true) (hs : starEach (e :: es) X.env = (false, eval e X.env) :: starEach es X.env) (hplain : (backTo cpos (starEach es X.env)).any (·.1) = false) :
    PE X (.Call (.Attribute o nm apos) (e :: es) [] cpos) (tM X.K W c (eBM T f mo mas)) := by
  refine (pe_bm pa slot hty hm ho ha hbase hfew hline hs hplain).weak fun σ H Q ⟨ι, A, ρ, rh, re, q⟩ => ?_
  refine ⟨ι, A, ρ, rh, re, (PoR.bind q).imp fun x H1 ⟨ι1, A1, v, ex, rh1, rv, p1⟩ => ?_⟩
  by_cases ht : tyOf v A1 = some T
  · rw [if_pos ht] at p1
    refine ⟨tyV_ok rh1 rv hT ht, ι1, A1, ρ, rh1, re.mono ex, (PoR.bind p1).imp fun xs H2 ⟨ι2, A2, vs, ex2, rh2, rvs, p2⟩ => ?_⟩
    exact ⟨ι2, A2, v, vs, rh2, RV.mono ex2 v rv, rvs, PoO.of p2⟩
  · rw [if_neg ht] at p1; exact p1.elim
theorem pm_bm0 (hT : T = .lst ∨ T = .dct ∨ T = .str) (pa : PlainAttrs T.nm) (slot : Slot T.nm nm id) (hty : typeOf (.builtin id) = pure (.type "method_descriptor")) (hm : MtR X id (uBM X.K f)) (ho : PE X o (tM X.K W c mo))
    (hbase : attributeBase o nm X.env (eval o X.env) = eval o X.env) (hline : (apos.endLine == cpos.line) = true) : PE X (.Call (.Attribute o nm apos) [] [] cpos) (tM X.K W c (eBM T f mo aN)) := by
  refine (pe_bm0 pa slot hty hm ho hbase hline).weak fun σ H Q ⟨ι, A, ρ, rh, re, q⟩ => ?_
  refine ⟨ι, A, ρ, rh, re, (PoR.bind q).imp fun x H1 ⟨ι1, A1, v, ex, rh1, rv, p1⟩ => ?_⟩
  by_cases ht : tyOf v A1 = some T
  · rw [if_pos ht] at p1
    exact ⟨tyV_ok rh1 rv hT ht, ι1, A1, v, [], rh1, rv, rfl, PoO.of p1⟩
  · rw [if_neg ht] at p1; exact p1.elim
end
section
variable {X : Cx}
theorem PoO.wrL {K : PySem.W.Frag} {ι : List Addr} {H : Hp} {A : Mh} {Q : VK} {p : Nat} {a : Addr} {ys : List V} {xs : List V} {vs : List MV} {r : MV} {w : V} (h : PoO K (some (r, A.set p (.lst vs))) ι H Q) (rh : RH K ι A H) (hi : ι[p]? = some a) (h0 : H a = some (.lst ys)) (rv : RVs K ι H vs xs) (rr : RV K ι H r w) : Q w (upd H a (.lst xs)) := by
  have ex : Ex ι H ι (upd H a (.lst xs)) := ⟨List.prefix_refl _, .wr h0 (fun _ z => by cases z) (fun _ _ z => by cases z)⟩
  obtain ⟨e1, rh1⟩ := rh.wr (o := .lst vs) (u := .lst xs) hi h0 (fun _ z => by cases z) (fun _ _ z => by cases z) ⟨xs, upd_same, RVs.mono ex vs rv⟩
  exact h ι _ w e1 rh1 (RV.mono e1 r rr)
theorem mm_append : MtR X "list.append" (uBM X.K mAppend) := by
  intro pins s σ H x xs v us Q I rx rxs ⟨ι, A, a, vs, rh, ra, rvs, p⟩
  unfold mAppend at p
  split at p
  · rename_i q y
    obtain ⟨w, rfl, r1⟩ := rvs.one
    split at p
    · rename_i ys hq
      obtain ⟨b, zs, h1, rfl, h3, h4⟩ := rv_lst rh ra hq
      split at p
      · rename_i hl
        refine mt_append pins s σ H _ _ v us Q I rx rxs ⟨b, zs, w, rfl, rfl, h3, by rw [RVs.length h4]; exact bigL hl, p.wrL rh h1 h3 (RVs.append h4 ?_) rv_of_non⟩
        unfold RVs
        exact ⟨w, [], rfl, r1, rfl⟩
      · exact p.elim
    · exact p.elim
  · exact p.elim
theorem mm_extend : MtR X "list.extend" (uBM X.K mExtend) := by
  intro pins s σ H x xs v us Q I rx rxs ⟨ι, A, a, vs, rh, ra, rvs, p⟩
  unfold mExtend at p
  split at p
  · rename_i q y
    obtain ⟨w, rfl, r1⟩ := rvs.one
    split at p
    · rename_i ys hq
      obtain ⟨b, zs, h1, rfl, h3, h4⟩ := rv_lst rh ra hq
      split at p
      · rename_i us2 hy
        obtain ⟨q2, b2, zs2, rfl, g1, g2, rfl, g4, g5⟩ := listAt_ok rh r1 hy
        split at p
        · rename_i hl
          refine mt_extend pins s σ H _ _ v us Q I rx rxs ⟨b, b2, zs, zs2, rfl, rfl, h3, g4, by rw [RVs.length h4, RVs.length g5]; exact big hl, p.wrL rh h1 h3 (RVs.append h4 g5) rv_of_non⟩
        · exact p.elim
      · exact p.elim
    · exact p.elim
  · exact p.elim
theorem sm_setL : PSet X (uB3 X.K setL) := by
  intro pins s σ H o i v ov iv u Q I ro ri rv ⟨ι, A, a, b, d, rh, ra, rb, rd, A', e, q⟩
  unfold setL at e
  split at e
  · rename_i p k
    cases rv_int rb
    split at e
    · rename_i ys hp
      obtain ⟨b, zs, h1, rfl, h3, h4⟩ := rv_lst rh ra hp
      cases hj : ixN ys.length k with
      | none => rw [hj] at e; cases e
      | some j =>
        rw [hj] at e
        cases e
        refine set_list pins s σ H _ _ v ov iv u Q I ro ri rv ⟨b, zs, k, j, rfl, rfl, h3, by rw [RVs.length h4]; exact hj, ?_⟩
        have ex : Ex ι H ι (upd H b (.lst (zs.set j v))) := ⟨List.prefix_refl _, .wr h3 (fun _ z => by cases z) (fun _ _ z => by cases z)⟩
        obtain ⟨e1, rh1⟩ := rh.wr (o := .lst (ys.set j d)) (u := .lst (zs.set j v)) h1 h3 (fun _ z => by cases z) (fun _ _ z => by cases z) ⟨_, upd_same, RVs.mono ex _ (RVs.set j h4 rd)⟩
        exact q _ e1 rh1
    · cases e
  · cases e
end
end MM

/-! M8: slices, walks, comprehensions. -/
namespace MM
open PySem L2 PyProof.Rows
section
variable {X : Cx} {W : WX} {c : Ctx} {e e2 o t : Expr} {es : List Expr} {mas : MA} {mo me me2 : ME} {pos p p2 : Pos} {lo hi : Option Expr} {ml mh : MO2} {mi : MI} {g : MG} {mt : MT}
def RI (_ : List Addr) (_ : Hp) (a b : Option Int) : Prop := a = b
theorem om_n : PO X none (tG X.K W c RI oN) := ⟨fun pins s σ H Q I ⟨ι, A, ρ, rh, re, q⟩ => po_none.run pins s σ H Q I (q ι H none (.refl ..) rh rfl)⟩
theorem om_s (h : PE X e (tM X.K W c me)) : PO X (some e) (tG X.K W c RI (oS me)) := ⟨fun pins s σ H Q I ⟨ι, A, ρ, rh, re, q⟩ => (po_some h).run pins s σ H Q I
  ⟨ι, A, ρ, rh, re, (PoR.bind q).imp fun x H1 ⟨ι1, A1, v, ex, rh1, rv, p1⟩ => by
    cases v with
    | int i => exact ⟨i, rv_int rv, p1 ι1 H1 (some i) (.refl ..) rh1 rfl⟩
    | _ => exact p1.elim⟩⟩
def uSl (K : PySem.W.Frag) : V → Option Int → Option Int → Hp → VK → Prop := fun x l h H Q => ∃ ι A v, RH K ι A H ∧ RV K ι H v x ∧ PoO K (vSl v l h A) ι H Q
theorem sl_ok : SlR X (uSl X.K) := by
  intro pins s σ H x v vl vu lo hi sl Q I rx hs pl pu ⟨ι, A, a, rh, ra, q⟩
  unfold vSl at q
  split at q
  · rename_i z
    cases rv_str ra
    split at q
    · rename_i hl
      exact sl_str pins s σ H _ v vl vu lo hi sl Q I rx hs pl pu ⟨z, rfl, big hl, PoO.here q rh rv_of_str⟩
    · exact q.elim
  · obtain ⟨b, xs, rfl, h2, h3⟩ := rv_tup ra
    refine sl_tupA pins s σ H _ v vl vu lo hi sl Q I rx hs pl pu ⟨b, xs, rfl, .of h2, fun hw => ?_, fun _ => q.newT rh (RVs.cut h3 lo hi)⟩
    have e1 : ∀ {α : Type} (zs : List α), zs.length = xs.length → cutM zs lo hi = zs := fun zs hz => by
      unfold cutM
      rw [hz, hw.1, hw.2]
      simp [← hz]
    rw [e1 _ (RVs.length h3).symm] at q
    exact PoO.here q rh ra
  · obtain ⟨b, xs, rfl, h2, h3⟩ := rv_ctup ra
    split at q
    · exact q.elim
    · rename_i hn
      rw [← RVs.length h3] at hn
      exact sl_tupA pins s σ H _ v vl vu lo hi sl Q I rx hs pl pu ⟨b, xs, rfl, h2.t, fun hw => absurd hw hn, fun _ => q.newT rh (RVs.cut h3 lo hi)⟩
  · obtain ⟨b, xs, rfl, h2, h3⟩ := rv_scr ra
    exact sl_list pins s σ H _ v vl vu lo hi sl Q I rx hs pl pu ⟨b, xs, rfl, h2.l, (q.newL rh (RVs.cut h3 lo hi)).2⟩
  · split at q
    · rename_i hp
      obtain ⟨b, xs, h1, rfl, h3, h4⟩ := rv_lst rh ra hp
      exact sl_list pins s σ H _ v vl vu lo hi sl Q I rx hs pl pu ⟨b, xs, rfl, .of h3, (q.newL rh (RVs.cut h4 lo hi)).2⟩
    · exact q.elim
  · exact q.elim
theorem pm_sl (he : PE X e (tM X.K W c me)) (hl : PO X lo (tG X.K W c RI ml)) (hh : PO X hi (tG X.K W c RI mh)) : PE X (.Subscript e (.Slice lo hi none p2) pos) (tM X.K W c (eSl me ml mh)) := by
  refine (pe_slice sl_ok he hl hh).weak fun σ H Q ⟨ι, A, ρ, rh, re, q⟩ => ?_
  refine ⟨ι, A, ρ, rh, re, (PoR.bind q).imp fun x H1 ⟨ι1, A1, v, ex, rh1, rv, q1⟩ => ?_⟩
  refine ⟨ι1, A1, ρ, rh1, re.mono ex, (PoR.bind (Rel := RI) q1).imp fun l H2 ⟨ι2, A2, l', ex2, rh2, el, q2⟩ => ?_⟩
  cases (show l' = l from el)
  refine ⟨ι2, A2, ρ, rh2, (re.mono ex).mono ex2, (PoR.bind (Rel := RI) q2).imp fun h H3 ⟨ι3, A3, h', ex3, rh3, eh, q3⟩ => ?_⟩
  cases (show h' = h from eh)
  exact ⟨ι3, A3, v, rh3, RV.mono (ex2.trans ex3) v rv, PoO.of q3⟩
/-! ### walks -/
theorem intsV_get {lo : Int} {n i : Nat} {v : MV} (h : (intsV lo n)[i]? = some v) : i < n ∧ v = .int (lo + (i : Int)) := by
  unfold intsV at h
  rw [List.getElem?_map] at h
  by_cases hi : i < n
  · rw [List.getElem?_range hi] at h
    cases h
    exact ⟨hi, rfl⟩
  · rw [List.getElem?_eq_none (by simpa using hi)] at h; cases h
theorem rng_ok {K : PySem.W.Frag} {lo : Int} {n : Nat} {ι : List Addr} {H : Hp} : WOk K (Itr lo n) ⟨intsV lo n, fun _ => True⟩ ι H := by
  refine ⟨fun ι1 A1 H1 i v ex rh _ hv => ?_, fun ι1 A1 H1 ex rh _ => ?_⟩
  · obtain ⟨hi, rfl⟩ := intsV_get hv
    refine ⟨hi, fun x H' ⟨e1, e2⟩ => ?_⟩
    subst e1 e2
    exact ⟨.refl .., rh, rv_of_int⟩
  · show n ≤ (intsV lo n).length
    simp [intsV]
/-- what a walk's source asks, in pieces -/
def PoI (K : PySem.W.Frag) (W : WX) (r : R Walk) (ι : List Addr) (H : Hp) (σ : L2.St) (R' : It → Hp → Prop) : Prop := match r with
  | .ok w A1 => ∀ ι1 H1 J, Ex ι H ι1 H1 → RH K ι1 A1 H1 → WOk K J w ι1 H1 → R' J H1
  | .exc C fs A1 => ∀ ι' H' d ws, Ex ι H ι' H' → RH K ι' A1 H' → H' d = some (.xd ws) → RFs K ι' H' fs ws → W (.ref (ga K C)) (some d) σ H'
  | .bad => False
theorem PoI.mono {K : PySem.W.Frag} {r : R Walk} {ι ι1 : List Addr} {H H1 : Hp} {σ : L2.St} {R' : It → Hp → Prop} (e : Ex ι H ι1 H1) (h : PoI K W r ι H σ R') : PoI K W r ι1 H1 σ R' := by
  cases r with
  | ok v A => exact fun ι' H' w e' => h ι' H' w (e.trans e')
  | exc C fs A => exact fun ι' H' d ws e' => h ι' H' d ws (e.trans e')
  | bad => exact h
theorem PoI.bind {α β : Type} {Rel : List Addr → Hp → α → β → Prop} {K : PySem.W.Frag} {r : R α} {k : α → Mh → R Walk} {ι : List Addr} {H : Hp} {σ : L2.St} {R' : It → Hp → Prop} (h : PoI K W (r.bind k) ι H σ R') :
    PoR K W Rel r ι H σ (fun b H1 => ∃ ι1 A1 a, Ex ι H ι1 H1 ∧ RH K ι1 A1 H1 ∧ Rel ι1 H1 a b ∧ PoI K W (k a A1) ι1 H1 σ R') := by
  cases r with
  | ok v A => exact fun ι' H' w e rh rv => ⟨ι', A, v, e, rh, rv, PoI.mono e h⟩
  | exc C fs A => exact h
  | bad => exact h
theorem pim_range1 (hg : Gl X "range") (hm : X.mg "range" = none) (ha : PA X [e] (tMA X.K W c mas)) (hs : starEach [e] X.env = [(false, eval e X.env)]) : PI X t (.Call (.Name "range" p) [e] [] pos) (tI X.K W c (iRange1 mas)) := by
  refine (pi_range1 (tg := t) hg hm ha hs).weak fun σ H R' ⟨ι, A, ρ, rh, re, q⟩ => ?_
  have q : PoI X.K W (iRange1 mas c ρ A) ι H σ R' := q
  refine ⟨ι, A, ρ, rh, re, (PoI.bind (Rel := RVs X.K) q).imp fun xs H1 ⟨ι1, A1, vs, ex, rh1, rvs, q1⟩ => ?_⟩
  split at q1
  · rename_i j
    split at q1
    · rename_i hb
      obtain ⟨x, rfl, rx⟩ := rvs.one
      cases rv_int rx
      exact ⟨j, rfl, hb.1, hb.2, q1 ι1 H1 _ (.refl ..) rh1 rng_ok⟩
    · exact q1.elim
  · exact q1.elim
theorem pim_range2 (hg : Gl X "range") (hm : X.mg "range" = none) (ha : PA X [e, e2] (tMA X.K W c mas)) (hs : starEach [e, e2] X.env = [(false, eval e X.env), (false, eval e2 X.env)]) (hs2 : starEach [e2] X.env = [(false, eval e2 X.env)]) : PI X t (.Call (.Name "range" p) [e, e2] [] pos) (tI X.K W c (iRange2 mas)) := by
  refine (pi_range2 (tg := t) hg hm ha hs hs2).weak fun σ H R' ⟨ι, A, ρ, rh, re, q⟩ => ?_
  have q : PoI X.K W (iRange2 mas c ρ A) ι H σ R' := q
  refine ⟨ι, A, ρ, rh, re, (PoI.bind (Rel := RVs X.K) q).imp fun xs H1 ⟨ι1, A1, vs, ex, rh1, rvs, q1⟩ => ?_⟩
  split at q1
  · rename_i i j
    split at q1
    · rename_i hb
      obtain ⟨x, y, rfl, rx, ry⟩ := rvs.two
      cases rv_int rx
      cases rv_int ry
      exact ⟨i, j, rfl, hb, q1 ι1 H1 _ (.refl ..) rh1 rng_ok⟩
    · exact q1.elim
  · exact q1.elim
theorem numb_get : ∀ {vs : List MV} {n i : Nat} {v : MV}, (numb n vs)[i]? = some v → ∃ u, vs[i]? = some u ∧ v = .tup [.int ((n + i : Nat) : Int), u]
  | [], _, _, _, h => by cases h
  | u :: r, n, 0, v, h => by cases h; exact ⟨u, rfl, rfl⟩
  | u :: r, n, i + 1, v, h => by
    obtain ⟨u', h1, h2⟩ := numb_get (vs := r) (n := n + 1) (i := i) (v := v) h
    refine ⟨u', h1, ?_⟩
    rw [h2, show n + 1 + i = n + (i + 1) by omega]
theorem numb_length : ∀ (vs : List MV) (n : Nat), (numb n vs).length = vs.length
  | [], _ => rfl
  | u :: r, n => congrArg Nat.succ (numb_length r (n + 1))
theorem new_tup {K : PySem.W.Frag} {ι : List Addr} {A : Mh} {H : Hp} {q : Addr} {vs : List MV} {xs : List V} (rh : RH K ι A H) (hq : H q = none) (rv : RVs K ι H vs xs) : Ex ι H ι (upd H q (.tup xs)) ∧ RH K ι A (upd H q (.tup xs)) ∧ RV K ι (upd H q (.tup xs)) (.tup vs) (.ref q) := by
  have ex2 : Ex ι H ι (upd H q (.tup xs)) := ⟨List.prefix_refl _, .new hq⟩
  refine ⟨ex2, ⟨rh.len, rh.nd, fun i a' o h1 h2 => (rh.ob i a' o h1 h2).mono ex2 fun u' e => by rw [upd_ne (ne_of_none e hq)]; exact e⟩, ?_⟩
  unfold RV
  exact ⟨q, xs, rfl, upd_same, RVs.mono ex2 vs rv⟩
theorem RVs.cons {K : PySem.W.Frag} {ι : List Addr} {H : Hp} {v : MV} {vs : List MV} {x : V} {xs : List V} (a : RV K ι H v x) (b : RVs K ι H vs xs) : RVs K ι H (v :: vs) (x :: xs) := by
  unfold RVs
  exact ⟨x, xs, rfl, a, b⟩
theorem pim_enum {elts : List Expr} {kk : Nat} {tpos : Pos} (hg : Gl X "enumerate") (hm : X.mg "enumerate" = none) (ha : PA X [e] (tMA X.K W c mas)) (hs : starEach [e] X.env = [(false, eval e X.env)]) :
    PI X (.Tuple elts kk tpos) (.Call (.Name "enumerate" p) [e] [] pos) (tI X.K W c (iEnum mas)) := by
  refine (pi_enum (elts := elts) (kk := kk) (tpos := tpos) hg hm ha hs).weak fun σ H R' ⟨ι, A, ρ, rh, re, q⟩ => ?_
  have q : PoI X.K W (iEnum mas c ρ A) ι H σ R' := q
  refine ⟨ι, A, ρ, rh, re, (PoI.bind (Rel := RVs X.K) q).imp fun xs H1 ⟨ι1, A1, vs, ex, rh1, rvs, q1⟩ => ?_⟩
  split at q1
  · rename_i pp
    obtain ⟨x, rfl, rx⟩ := rvs.one
    split at q1
    · rename_i us hp
      obtain ⟨a, ys, h1, rfl, h3, h4⟩ := rv_lst rh1 rx hp
      refine ⟨a, ys, rfl, .of h3, q1 ι1 H1 _ (.refl ..) rh1 ⟨fun ι2 A2 H2 i v ex2 rh2 st hv => ?_, fun ι2 A2 H2 ex2 rh2 st => ?_⟩⟩
      · obtain ⟨xs2, hx2, rvs2⟩ := rh2.ob pp a _ (pre_get ex2.pre h1) st
        obtain ⟨u, hu, rfl⟩ := numb_get hv
        obtain ⟨x, hx3, rx⟩ := RVs.get rvs2 hu
        refine ⟨⟨xs2, x, .of hx2, hx3⟩, fun y H' ⟨T, z, e1, hT, e2, hz⟩ => ?_⟩
        have := hz xs2 (.of hx2)
        rw [hx3] at this
        cases this
        subst e1 e2
        refine new_tup rh2 hT (RVs.cons ?_ (RVs.cons rx rfl))
        rw [Nat.zero_add]
        exact rv_of_int
      · obtain ⟨xs2, hx2, rvs2⟩ := rh2.ob pp a _ (pre_get ex2.pre h1) st
        exact ⟨xs2, .of hx2, by rw [RVs.length rvs2]; show us.length ≤ (numb 0 us).length; rw [numb_length]; exact Nat.le_refl _⟩
    · exact q1.elim
  · exact q1.elim
theorem zip_get : ∀ {vs ws : List MV} {i : Nat} {v : MV}, (zipM vs ws)[i]? = some v → ∃ x y, vs[i]? = some x ∧ ws[i]? = some y ∧ v = .tup [x, y]
  | [], _, _, _, h => by unfold zipM at h; cases h
  | _ :: _, [], _, _, h => by unfold zipM at h; cases h
  | x :: r, y :: q, 0, v, h => by unfold zipM at h; cases h; exact ⟨x, y, rfl, rfl, rfl⟩
  | x :: r, y :: q, i + 1, v, h => by
    unfold zipM at h
    exact zip_get (vs := r) (ws := q) (i := i) (v := v) h
theorem zip_length : ∀ (vs ws : List MV), vs.length ≤ (zipM vs ws).length ∨ ws.length ≤ (zipM vs ws).length
  | [], _ => .inl (Nat.zero_le _)
  | _ :: _, [] => .inr (Nat.zero_le _)
  | x :: r, y :: q => by
    unfold zipM
    rcases zip_length r q with h | h
    · exact .inl (Nat.succ_le_succ h)
    · exact .inr (Nat.succ_le_succ h)
theorem pim_zip {elts : List Expr} {kk : Nat} {tpos : Pos} (hg : Gl X "zip") (hm : X.mg "zip" = none) (ha : PA X [e, e2] (tMA X.K W c mas))
    (hs : starEach [e, e2] X.env = (false, eval e X.env) :: starEach [e2] X.env) (hpl : (backTo pos (starEach [e2] X.env)).any (·.1) = false) :
    PI X (.Tuple elts kk tpos) (.Call (.Name "zip" p) [e, e2] [] pos) (tI X.K W c (MM.iZip mas)) := by
  refine (pi_zip (elts := elts) (kk := kk) (tpos := tpos) hg hm ha hs hpl).weak fun σ H R' ⟨ι, A, ρ, rh, re, q⟩ => ?_
  have q : PoI X.K W (MM.iZip mas c ρ A) ι H σ R' := q
  refine ⟨ι, A, ρ, rh, re, (PoI.bind (Rel := RVs X.K) q).imp fun xs H1 ⟨ι1, A1, vs, ex, rh1, rvs, q1⟩ => ?_⟩
  split at q1
  · rename_i pp pq
    obtain ⟨x, y, rfl, rx, ry⟩ := rvs.two
    split at q1
    · rename_i us ws hp hq
      obtain ⟨a, xs, h1, rfl, h3, h4⟩ := rv_lst rh1 rx hp
      obtain ⟨b, ys, g1, rfl, g3, g4⟩ := rv_lst rh1 ry hq
      refine ⟨a, b, xs, ys, rfl, .of h3, .of g3, q1 ι1 H1 _ (.refl ..) rh1 ⟨fun ι2 A2 H2 i v ex2 rh2 st hv => ?_, fun ι2 A2 H2 ex2 rh2 st => ?_⟩⟩
      · obtain ⟨xs2, hx2, rvs2⟩ := rh2.ob pp a _ (pre_get ex2.pre h1) st.1
        obtain ⟨ys2, hy2, rws2⟩ := rh2.ob pq b _ (pre_get ex2.pre g1) st.2
        obtain ⟨u, w, hu, hw, rfl⟩ := zip_get hv
        obtain ⟨x, hx3, rx⟩ := RVs.get rvs2 hu
        obtain ⟨y, hy3, ry⟩ := RVs.get rws2 hw
        refine ⟨⟨xs2, ys2, x, y, .of hx2, .of hy2, hx3, hy3⟩, fun z H' ⟨T, x', y', e1, hT, e2, hz, hz2⟩ => ?_⟩
        have t1 := hz xs2 (.of hx2)
        have t2 := hz2 ys2 (.of hy2)
        rw [hx3] at t1
        rw [hy3] at t2
        cases t1
        cases t2
        subst e1 e2
        exact new_tup rh2 hT (RVs.cons rx (RVs.cons ry rfl))
      · obtain ⟨xs2, hx2, rvs2⟩ := rh2.ob pp a _ (pre_get ex2.pre h1) st.1
        obtain ⟨ys2, hy2, rws2⟩ := rh2.ob pq b _ (pre_get ex2.pre g1) st.2
        refine ⟨xs2, ys2, .of hx2, .of hy2, ?_⟩
        rw [RVs.length rvs2, RVs.length rws2]
        exact zip_length us ws
    · exact q1.elim
  · exact q1.elim
/-! ### comprehensions -/
theorem RE.wiped {K : PySem.W.Frag} {ι : List Addr} {H : Hp} {ρ : Env} {σ : L2.St} (re : RE K ι H ρ σ) : ∀ vs : List Nat, RE K ι H (wipeE ρ vs) (wipe σ vs)
  | [] => re
  | v :: vs => by
    have r := RE.wiped re vs
    refine ⟨?_, fun i u h => ?_⟩
    · show ((wipeE ρ vs).set v none).length = ((wipe σ vs).set v none).length
      rw [List.length_set, List.length_set, r.len]
    · have h' : ((wipeE ρ vs).set v none)[i]? = some (some u) := h
      show ∃ w, ((wipe σ vs).set v none)[i]? = some (some w) ∧ _
      by_cases hi : v = i
      · subst hi
        by_cases hl : v < (wipeE ρ vs).length
        · rw [List.getElem?_set_self hl] at h'; cases h'
        · rw [List.getElem?_eq_none (by simpa using hl)] at h'; cases h'
      · rw [List.getElem?_set_ne hi] at h' ⊢
        exact r.at_ i u h'
theorem wipe_set {i : Nat} {o : Option V} : ∀ {vs : List Nat} {σ : L2.St}, i ∈ vs → wipe (σ.set i o) vs = wipe σ vs
  | [], _, h => by cases h
  | v :: vs, σ, h => by
    unfold wipe
    by_cases hv : v = i
    · subst hv
      by_cases hm : v ∈ vs
      · rw [wipe_set hm]
      · have e : ∀ (l : List Nat) (τ : L2.St), v ∉ l → wipe (τ.set v o) l = (wipe τ l).set v o := by
          intro l
          induction l with
          | nil => intro τ _; rfl
          | cons u l ih =>
            intro τ hn
            unfold wipe
            rw [ih τ (fun z => hn (List.mem_cons_of_mem _ z)), List.set_comm _ _ (fun z => hn (by rw [z]; exact List.mem_cons_self ..))]
        rw [e vs σ hm, List.set_set]
    · rw [wipe_set ((List.mem_cons.mp h).resolve_left (Ne.symm hv))]
abbrev W0 : WX := fun _ _ _ _ => False
theorem SW_set {vs : List Nat} {i : Nat} (h : i ∈ vs) : ∀ σ v, SW vs σ (σ.set i (some v)) := fun _ _ => wipe_set h
theorem tLc_of {own : List Nat} {σ : L2.St} {H : Hp} {Q : VK} (hk : gOk g) (h : tM X.K W c (eComp own mi g mt me) σ H Q) :
    tLc (tI X.K W c mi) (tg X.K c (SW own) g) (tMT X.K W0 c mt) (tM X.K W0 c me) own σ H Q := by
  obtain ⟨ι, A, ρ, rh, re, q⟩ := h
  refine ⟨ι, A, ρ, rh, re, ?_⟩
  unfold eComp at q
  cases hm : mi c ρ A with
  | bad => rw [hm] at q; exact q.elim
  | exc C fs A1 => rw [hm] at q; exact q
  | ok w A1 =>
    rw [hm] at q
    refine fun ι1 H1 J ex1 rh1 wk D hD => ?_
    have ex2 : Ex ι1 H1 (ι1 ++ [D]) (upd H1 D (.lst [])) := ⟨List.prefix_append _ _, .new hD⟩
    obtain ⟨_, rh2, hat⟩ := rh1.new (o := .lst []) (u := .lst []) hD ⟨[], upd_same, rfl⟩
    generalize hturn : (fun x A2 => match g x c (wipeE ρ own) A2 with
      | .nx ρ2 A3 => (match mt c ρ2 A3 with
        | .ok k A4 => if k = true then (match me c ρ2 A4 with
          | .ok v A5 => R.ok (some v) A5
          | _ => R.bad) else R.ok none A4
        | _ => R.bad)
      | _ => R.bad) = turn at q
    have q0 : PoR X.K W (RV X.K) (compL w.still turn A1.length w.items (A1 ++ [.lst []])) (ι1 ++ [D]) (upd H1 D (.lst [])) σ Q := by
      have q' : PoR X.K W (RV X.K) (compL w.still turn A1.length w.items (A1 ++ [.lst []])) ι H σ Q := by
        rw [← hturn]; rw [← hturn] at q; exact q
      exact PoR.mono (ex1.trans ex2) q'
    have re1 : RE X.K ι1 H1 (wipeE ρ own) (wipe σ own) := RE.wiped (re.mono ex1) own
    refine ⟨fun i m H2 => m = w.items.length - i ∧ i ≤ w.items.length ∧ ∃ ι2 A2, Ex (ι1 ++ [D]) (upd H1 D (.lst [])) ι2 H2 ∧ RH X.K ι2 A2 H2 ∧ PoR X.K W (RV X.K) (compL w.still turn A1.length (w.items.drop i) A2) ι2 H2 σ Q,
      ⟨w.items.length, by simp, Nat.zero_le _, ι1 ++ [D], _, .refl .., rh2, by simpa using q0⟩, ?_⟩
    rintro i m H2 ⟨rfl, hle, ι2, A2, ex3, rh3, q3⟩
    have ex13 : Ex ι1 H1 ι2 H2 := ex2.trans ex3
    by_cases hlt : i < w.items.length
    · have hd : w.items.drop i = w.items[i] :: w.items.drop (i + 1) := List.drop_eq_getElem_cons hlt
      rw [hd] at q3
      unfold compL at q3
      by_cases hst : w.still A2
      · rw [if_pos hst] at q3
        obtain ⟨hgo, hy⟩ := wk.go ι2 A2 H2 i w.items[i] ex13 rh3 hst (List.getElem?_eq_getElem hlt)
        refine .inr ⟨hgo, fun H3 => ∃ ι3 A3, Ex (ι1 ++ [D]) (upd H1 D (.lst [])) ι3 H3 ∧ RH X.K ι3 A3 H3 ∧ PoR X.K W (RV X.K) (compL w.still turn A1.length (w.items.drop (i + 1)) A3) ι3 H3 σ Q, ?_, ?_⟩
        · rintro H3 ⟨ι3, A3, e3, r3, p3⟩
          exact ⟨w.items.length - (i + 1), by omega, rfl, hlt, ι3, A3, e3, r3, p3⟩
        · intro x H' hyx
          obtain ⟨exy, rhy, rvy⟩ := hy x H' hyx
          have ht : turn w.items[i] A2 = match g w.items[i] c (wipeE ρ own) A2 with
            | .nx ρ2 A3 => (match mt c ρ2 A3 with
              | .ok k A4 => if k = true then (match me c ρ2 A4 with
                | .ok v A5 => R.ok (some v) A5
                | _ => R.bad) else R.ok none A4
              | _ => R.bad)
            | _ => R.bad := by rw [← hturn]
          rw [ht] at q3
          rcases hk w.items[i] c (wipeE ρ own) A2 with ⟨ρ', A', hgx⟩ | hgx
          · refine ⟨ι2, A2, wipeE ρ own, w.items[i], rhy, re1.mono (ex13.trans exy), rvy, ρ', A', hgx, fun ι4 H4 σ4 ex4 rh4 re4 hsw => ⟨hsw.trans ?_, ?_⟩⟩
            · have ww : ∀ vs : List Nat, wipe (wipe σ vs) vs = wipe σ vs := by
                intro vs
                have key : ∀ (l vs : List Nat) (τ : L2.St), (∀ v ∈ l, v ∈ vs) → wipe (wipe τ l) vs = wipe τ vs := by
                  intro l
                  induction l with
                  | nil => intro vs τ _; rfl
                  | cons u l ih =>
                    intro vs τ hs
                    show wipe ((wipe τ l).set u none) vs = _
                    rw [wipe_set (hs u (List.mem_cons_self ..)), ih vs τ fun v hv => hs v (List.mem_cons_of_mem _ hv)]
                exact key vs vs σ fun _ h => h
              exact ww own
            · rw [hgx] at q3
              dsimp only at q3
              have ex24 : Ex ι2 H2 ι4 H4 := exy.trans ex4
              cases hmt : mt c ρ' A' with
              | bad => rw [hmt] at q3; exact q3.elim
              | exc C fs A5 => rw [hmt] at q3; exact q3.elim
              | ok k A4 =>
                rw [hmt] at q3
                refine ⟨ι4, A', ρ', rh4, re4, ?_⟩
                rw [hmt]
                refine fun ι5 H5 k' ex5 rh5 ek => ?_
                cases (show k = k' from ek)
                by_cases hkk : k = true
                · subst hkk
                  rw [if_pos rfl]
                  cases hme : me c ρ' A4 with
                  | bad => simp only [MM.R.bind, hme, if_true] at q3; exact q3.elim
                  | exc C fs A5 => simp only [MM.R.bind, hme, if_true] at q3; exact q3.elim
                  | ok v A5 =>
                    simp only [MM.R.bind, hme, if_true] at q3
                    refine ⟨ι5, A4, ρ', rh5, re4.mono ex5, ?_⟩
                    rw [hme]
                    refine fun ι6 H6 y ex6 rh6 ry => ?_
                    cases hA : A5[A1.length]? with
                    | none => rw [hA] at q3; exact q3.elim
                    | some o =>
                      rw [hA] at q3
                      cases o with
                      | lst acc =>
                        dsimp only at q3
                        by_cases hz : acc.length < 100000
                        · rw [if_pos hz] at q3
                          have exall : Ex (ι1 ++ [D]) (upd H1 D (.lst [])) ι6 H6 := ((ex3.trans ex24).trans ex5).trans ex6
                          have hD6 : ι6[A1.length]? = some D := pre_get exall.pre hat
                          obtain ⟨xs, hx, rvs⟩ := rh6.ob _ D _ hD6 hA
                          refine ⟨xs, hx, by rw [RVs.length rvs]; exact Nat.lt_of_lt_of_le hz (by decide), ι6, A5.set A1.length (.lst (acc ++ [v])), ?_, ?_, ?_⟩
                          · exact exall.trans ⟨List.prefix_refl _, .wr hx (fun _ z => by cases z) (fun _ _ z => by cases z)⟩
                          · have exw : Ex ι6 H6 ι6 (upd H6 D (.lst (xs ++ [y]))) := ⟨List.prefix_refl _, .wr hx (fun _ z => by cases z) (fun _ _ z => by cases z)⟩
                            exact (rh6.wr (o := .lst (acc ++ [v])) (u := .lst (xs ++ [y])) hD6 hx (fun _ z => by cases z) (fun _ _ z => by cases z) ⟨_, upd_same, RVs.mono exw _ (RVs.append rvs (RVs.cons ry rfl))⟩).2
                          · exact PoR.mono (((ex24.trans ex5).trans ex6).trans ⟨List.prefix_refl _, .wr hx (fun _ z => by cases z) (fun _ _ z => by cases z)⟩) q3
                        · rw [if_neg hz] at q3; exact q3.elim
                      | _ => exact q3.elim
                · rw [if_neg hkk]
                  simp only [MM.R.bind, if_neg hkk] at q3
                  exact ⟨ι5, A4, (ex3.trans ex24).trans ex5, rh5, PoR.mono (ex24.trans ex5) q3⟩
          · rw [hgx] at q3; exact q3.elim
      · rw [if_neg hst] at q3; exact q3.elim
    · have hi' : i = w.items.length := by omega
      subst hi'
      simp only [List.drop_length] at q3
      unfold compL at q3
      by_cases hst : w.still A2
      · rw [if_pos hst] at q3
        refine .inl ⟨wk.stop ι2 A2 H2 ex13 rh3 hst, q3 ι2 H2 (.ref D) (.refl ..) rh3 ?_⟩
        unfold RV
        exact ⟨D, pre_get ex3.pre hat, rfl⟩
      · rw [if_neg hst] at q3; exact q3.elim
end
end MM

/-! M9: dicts, sorted, comprehensions as values, a law's end. -/
namespace MM
open PySem L2 PyProof.Rows
section
variable {K : PySem.W.Frag} {ι : List Addr} {A : Mh} {H : Hp}
theorem key_of {v : MV} {k : Key} (h : RV K ι H v (kV k)) : (∃ i, v = .int i ∧ k = Sum.inl i) ∨ ∃ x, v = .str x ∧ k = Sum.inr x := by
  cases k with
  | inl i =>
    have h : RV K ι H v (.int i) := h
    cases v with
    | int j => cases rv_int h; exact .inl ⟨i, rfl, rfl⟩
    | non => cases rv_non h
    | bl _ => cases rv_bl h
    | str _ => cases rv_str h
    | tup _ => obtain ⟨_, _, h1, _⟩ := rv_tup h; cases h1
    | ctup _ => obtain ⟨_, _, h1, _⟩ := rv_ctup h; cases h1
    | scr _ => obtain ⟨_, _, h1, _⟩ := rv_scr h; cases h1
    | ref _ => obtain ⟨_, _, h1⟩ := rv_ref h; cases h1
    | fn _ => unfold RV at h; cases h
    | cls _ => unfold RV at h; cases h
    | ty _ => cases rv_ty h
  | inr x =>
    have h : RV K ι H v (.str x) := h
    cases v with
    | str j => cases rv_str h; exact .inr ⟨x, rfl, rfl⟩
    | non => cases rv_non h
    | bl _ => cases rv_bl h
    | int _ => cases rv_int h
    | tup _ => obtain ⟨_, _, h1, _⟩ := rv_tup h; cases h1
    | ctup _ => obtain ⟨_, _, h1, _⟩ := rv_ctup h; cases h1
    | scr _ => obtain ⟨_, _, h1, _⟩ := rv_scr h; cases h1
    | ref _ => obtain ⟨_, _, h1⟩ := rv_ref h; cases h1
    | fn _ => unfold RV at h; cases h
    | cls _ => unfold RV at h; cases h
    | ty _ => cases rv_ty h
theorem key_is {v : MV} {w : V} (h : RV K ι H v w) (e : isKey v = true) : ∃ k : Key, w = kV k ∧ RV K ι H v (kV k) := by
  cases v with
  | int i => cases rv_int h; exact ⟨Sum.inl i, rfl, h⟩
  | str i => cases rv_str h; exact ⟨Sum.inr i, rfl, h⟩
  | _ => cases e
theorem key_eq {v u : MV} {k l : Key} (h : RV K ι H v (kV k)) (g : RV K ι H u (kV l)) : fEq v u = decide (k = l) := by
  rcases key_of h with ⟨i, rfl, rfl⟩ | ⟨x, rfl, rfl⟩ <;> rcases key_of g with ⟨j, rfl, rfl⟩ | ⟨y, rfl, rfl⟩
  · rw [key_ll]; rfl
  · rw [key_lr]; rfl
  · rw [key_rl]; rfl
  · rw [key_rr]
    show (x == y) = decide (x = y)
    rw [Bool.beq_eq_decide_eq]
theorem dGet_ok {y : MV} {k : Key} (g : RV K ι H y (kV k)) : ∀ {kvs : List (MV × MV)} {ws : List (Key × V)}, RDk K ι H kvs ws → (∃ v w, dGet kvs y = some v ∧ valV ws k = some w ∧ RV K ι H v w) ∨ (dGet kvs y = none ∧ valV ws k = none)
  | [], _, h => by unfold RDk at h; subst h; exact .inr ⟨rfl, rfl⟩
  | (f, v) :: r, _, h => by
    unfold RDk at h
    obtain ⟨l, w, t, e1, h1, h2, h3⟩ := h
    subst e1
    have e := key_eq h1 g
    by_cases hk : l = k
    · refine .inl ⟨v, w, ?_, valV_pos hk, h2⟩
      unfold dGet
      rw [List.find?_cons, e, decide_eq_true hk]
      rfl
    · rw [valV_neg (p := (l, w)) hk]
      have e2 : dGet ((f, v) :: r) y = dGet r y := by
        unfold dGet
        rw [List.find?_cons, e, decide_eq_false hk]
      rw [e2]
      exact dGet_ok g h3
theorem any_ok {y : MV} {k : Key} (g : RV K ι H y (kV k)) : ∀ {kvs : List (MV × MV)} {ws : List (Key × V)}, RDk K ι H kvs ws → (kvs.any fun kv => fEq kv.1 y) = ws.any fun kv => decide (kv.1 = k)
  | [], _, h => by unfold RDk at h; subst h; rfl
  | (f, v) :: r, _, h => by
    unfold RDk at h
    obtain ⟨l, w, t, e1, h1, h2, h3⟩ := h
    subst e1
    rw [List.any_cons, List.any_cons, key_eq h1 g, any_ok g h3]
theorem map_ok {y d : MV} {k : Key} {z : V} (g : RV K ι H y (kV k)) (q : RV K ι H d z) : ∀ {kvs : List (MV × MV)} {ws : List (Key × V)}, RDk K ι H kvs ws → RDk K ι H (kvs.map fun kv => if fEq kv.1 y = true then (kv.1, d) else kv) (ws.map fun kv => if kv.1 = k then (kv.1, z) else kv)
  | [], _, h => by unfold RDk at h; subst h; rfl
  | (f, v) :: r, _, h => by
    unfold RDk at h
    obtain ⟨l, w, t, e1, h1, h2, h3⟩ := h
    subst e1
    have e := key_eq h1 g
    rw [List.map_cons, List.map_cons]
    by_cases hk : l = k
    · rw [if_pos (show fEq (f, v).1 y = true from e.trans (decide_eq_true hk)), if_pos (show (l, w).1 = k from hk)]
      unfold RDk
      exact ⟨l, z, _, rfl, h1, q, map_ok g q h3⟩
    · rw [if_neg (show ¬ fEq (f, v).1 y = true from fun x => hk (of_decide_eq_true (e.symm.trans x))), if_neg (show ¬ (l, w).1 = k from hk)]
      unfold RDk
      exact ⟨l, w, _, rfl, h1, h2, map_ok g q h3⟩
theorem app_ok' {y d : MV} {k : Key} {z : V} (g : RV K ι H y (kV k)) (q : RV K ι H d z) : ∀ {kvs : List (MV × MV)} {ws : List (Key × V)}, RDk K ι H kvs ws → RDk K ι H (kvs ++ [(y, d)]) (ws ++ [(k, z)])
  | [], _, h => by unfold RDk at h; subst h; exact ⟨k, z, [], rfl, g, q, rfl⟩
  | (f, v) :: r, _, h => by
    unfold RDk at h
    obtain ⟨l, w, t, e1, h1, h2, h3⟩ := h
    subst e1
    exact ⟨l, w, _, rfl, h1, h2, app_ok' g q h3⟩
theorem dPut_ok {y d : MV} {k : Key} {z : V} (g : RV K ι H y (kV k)) (q : RV K ι H d z) {kvs : List (MV × MV)} {ws : List (Key × V)} (h : RDk K ι H kvs ws) : RDk K ι H (dPut kvs y d) (putK ws k z) := by
  unfold dPut putK
  rw [any_ok g h]
  by_cases c : (ws.any fun kv => decide (kv.1 = k)) = true
  · rw [if_pos c, if_pos c]; exact map_ok g q h
  · rw [if_neg c, if_neg c]; exact app_ok' g q h
theorem RDk.length : ∀ {kvs : List (MV × MV)} {ws : List (Key × V)}, RDk K ι H kvs ws → ws.length = kvs.length
  | [], _, h => by unfold RDk at h; subst h; rfl
  | (f, v) :: r, _, h => by
    unfold RDk at h
    obtain ⟨l, w, t, e1, h1, h2, h3⟩ := h
    subst e1
    exact congrArg Nat.succ (RDk.length h3)
theorem dictAt_ok {x : MV} {w : V} {p : Nat} {kvs : List (MV × MV)} (rh : RH K ι A H) (r : RV K ι H x w) (e : dictAt x A = some (p, kvs)) : ∃ a ws, x = .ref p ∧ A[p]? = some (.dct kvs) ∧ ι[p]? = some a ∧ w = .ref a ∧ H a = some (.dK ws) ∧ RDk K ι H kvs ws := by
  unfold dictAt at e
  split at e
  · split at e
    · cases e
      rename_i hp
      obtain ⟨a, h1, h2⟩ := rv_ref r
      obtain ⟨ws, h3, h4⟩ := rh.ob _ a _ h1 hp
      exact ⟨a, ws, rfl, hp, h1, h2, h3, h4⟩
    · cases e
  · cases e
end
section
variable {X : Cx} {W : WX} {c : Ctx} {e e2 o t i : Expr} {es : List Expr} {mas : MA} {mo me me2 ma mb : ME} {pos p p2 cpos apos : Pos} {mi : MI} {g : MG} {mt : MT}
theorem _root_.L2.PE.or' {e : Expr} {t t' : TE} (h : PE X e t) (h' : PE X e t') : PE X e (fun σ H Q => t σ H Q ∨ t' σ H Q) := ⟨fun pins s σ H Q I hw => hw.elim (h.run pins s σ H Q I) (h'.run pins s σ H Q I)⟩
theorem _root_.L2.PT.or' {e : Expr} {t t' : TT} (h : PT X e t) (h' : PT X e t') : PT X e (fun σ H Q => t σ H Q ∨ t' σ H Q) := ⟨fun pins s σ H Q I hw => hw.elim (h.run pins s σ H Q I) (h'.run pins s σ H Q I)⟩
theorem pm_dict0 : PE X (.Dict [] [] pos) (tM X.K W c eDict0) := by
  refine pe_dnewK.weak fun σ H Q ⟨ι, A, ρ, rh, re, q⟩ => fun d hd => ?_
  have ex2 : Ex ι H (ι ++ [d]) (upd H d (.dK [])) := ⟨List.prefix_append _ _, .new hd⟩
  obtain ⟨_, rh2, hat⟩ := rh.new (o := .dct []) (u := .dK []) hd ⟨[], upd_same, rfl⟩
  exact q _ _ (.ref d) ex2 rh2 (by unfold RV; exact ⟨d, hat, rfl⟩)
/-- the two ways of an op that looks at a dict -/
theorem two_if {f h : B2} {fd : MV → MV → Mh → Option OV} (hf : ∀ x y A, f x y A = match fd x y A with
    | some r => r
    | none => h x y A) {σ : L2.St} {H : Hp} {Q : VK} (q : tM X.K W c (eB2 f ma mb) σ H Q) :
    tM X.K W c (eB2 h ma mb) σ H Q ∨ (∃ ι A ρ x A1 y A2 r, RH X.K ι A H ∧ RE X.K ι H ρ σ ∧ ma c ρ A = .ok x A1 ∧ mb c ρ A1 = .ok y A2 ∧ fd x y A2 = some r ∧ PoO X.K r ι H Q) := by
  obtain ⟨ι, A, ρ, rh, re, q⟩ := q
  cases h1 : ma c ρ A with
  | bad => unfold eB2 at q; rw [h1] at q; exact q.elim
  | exc C fs A1 => refine .inl ⟨ι, A, ρ, rh, re, ?_⟩; unfold eB2 at q ⊢; rw [h1] at q ⊢; exact q
  | ok x A1 =>
    cases h2 : mb c ρ A1 with
    | bad => unfold eB2 at q; rw [h1] at q; dsimp only [MM.R.bind] at q; rw [h2] at q; exact q.elim
    | exc C fs A2 => refine .inl ⟨ι, A, ρ, rh, re, ?_⟩; unfold eB2 at q ⊢; rw [h1] at q ⊢; dsimp only [MM.R.bind] at q ⊢; rw [h2] at q ⊢; exact q
    | ok y A2 =>
      have q' : PoR X.K W (RV X.K) (R.of (f x y A2)) ι H σ Q := by
        unfold eB2 at q; rw [h1] at q; dsimp only [MM.R.bind] at q; rw [h2] at q; exact q
      rw [hf] at q'
      cases h3 : fd x y A2 with
      | none =>
        rw [h3] at q'
        refine .inl ⟨ι, A, ρ, rh, re, ?_⟩
        unfold eB2; rw [h1]; dsimp only [MM.R.bind]; rw [h2]; exact q'
      | some r =>
        rw [h3] at q'
        exact .inr ⟨ι, A, ρ, x, A1, y, A2, r, rh, re, h1, h2, h3, PoO.of q'⟩
/-- both sides evaluated, from what they are -/
theorem both {σ : L2.St} {H : Hp} {ι A ρ x A1 y A2} {R2' : V → V → Hp → Prop} (rh : RH X.K ι A H) (re : RE X.K ι H ρ σ) (h1 : ma c ρ A = .ok x A1) (h2 : mb c ρ A1 = .ok y A2)
    (h : ∀ ι2 H2 v u, Ex ι H ι2 H2 → RH X.K ι2 A2 H2 → RV X.K ι2 H2 x v → RV X.K ι2 H2 y u → R2' v u H2) : tM X.K W c ma σ H fun v H1 => tM X.K W c mb σ H1 fun u H2 => R2' v u H2 := by
  refine ⟨ι, A, ρ, rh, re, ?_⟩
  rw [h1]
  refine fun ι1 H1 v ex1 rh1 rv => ⟨ι1, A1, ρ, rh1, re.mono ex1, ?_⟩
  rw [h2]
  exact fun ι2 H2 u ex2 rh2 ru => h ι2 H2 v u (ex1.trans ex2) rh2 (RV.mono ex2 x rv) ru
theorem pm_ixD (hu : X.A.units + 1 < cLine) (ha : PE X o (tM X.K W c ma)) (hb : PE X i (tM X.K W c mb)) (hs : PlainIx i) : PE X (.Subscript o i pos) (tM X.K W c (eB2 vIdxD ma mb)) := by
  refine ((pm_ix (pos := pos) om_idx ha hb hs).or' (pe_dget hu ha hb hs)).weak fun σ H Q q => ?_
  refine (two_if (h := vIdx) (fd := fun x y A => (dictAt x A).map fun d => if isKey y = true then (dGet d.2 y).map (·, A) else none) (fun x y A => by unfold vIdxD; cases dictAt x A <;> rfl) q).imp _root_.id ?_
  rintro ⟨ι, A, ρ, x, A1, y, A2, r, rh, re, h1, h2, h3, q⟩
  refine both rh re h1 h2 fun ι2 H2 v u ex rh2 rv ru => ?_
  cases hd : dictAt x A2 with
  | none => rw [hd] at h3; cases h3
  | some d =>
    rw [hd] at h3
    obtain ⟨p, kvs⟩ := d
    cases h3
    obtain ⟨a, ws, g1, g2, g3, rfl, g5, g6⟩ := dictAt_ok rh2 rv hd
    dsimp only at q
    by_cases hk : isKey y = true
    · rw [if_pos hk] at q
      obtain ⟨k, rfl, rk⟩ := key_is ru hk
      rcases dGet_ok rk g6 with ⟨z, w, e1, e2, rz⟩ | ⟨e1, e2⟩
      · rw [e1] at q
        exact ⟨a, w, rfl, .inl ⟨ws, k, .inl g5, rfl, e2.symm⟩, (PoO.mono ex q).here rh2 rz⟩
      · rw [e1] at q; exact q.elim
    · rw [if_neg hk] at q; exact q.elim
theorem in_dict {σ : L2.St} {H : Hp} {Q : VK} {ng : Bool → Bool} (q : ∃ ι A ρ x A1 y A2 r, RH X.K ι A H ∧ RE X.K ι H ρ σ ∧ ma c ρ A = .ok x A1 ∧ mb c ρ A1 = .ok y A2 ∧ (dictAt y A2).map (fun d => if isKey x = true then some (MV.bl (ng (dGet d.2 x).isSome), A2) else none) = some r ∧ PoO X.K r ι H Q) :
    tM X.K W c ma σ H fun v H1 => tM X.K W c mb σ H1 fun u H2 => ∃ a o, u = .ref a ∧ DGet H2 a v o ∧ Q (.bl (ng o.isSome)) H2 := by
  obtain ⟨ι, A, ρ, x, A1, y, A2, r, rh, re, h1, h2, h3, q⟩ := q
  refine both rh re h1 h2 fun ι2 H2 v u ex rh2 rv ru => ?_
  cases hd : dictAt y A2 with
  | none => rw [hd] at h3; cases h3
  | some d =>
    rw [hd] at h3
    obtain ⟨p, kvs⟩ := d
    cases h3
    obtain ⟨a, ws, g1, g2, g3, rfl, g5, g6⟩ := dictAt_ok rh2 ru hd
    dsimp only at q
    by_cases hk : isKey x = true
    · rw [if_pos hk] at q
      obtain ⟨k, rfl, rk⟩ := key_is rv hk
      have q2 := (PoO.mono ex q).here rh2 rv_of_bl
      rcases dGet_ok rk g6 with ⟨z, w, e1, e2, rz⟩ | ⟨e1, e2⟩
      · rw [e1] at q2
        exact ⟨a, some w, rfl, .inl ⟨ws, k, .inl g5, rfl, e2.symm⟩, q2⟩
      · rw [e1] at q2
        exact ⟨a, none, rfl, .inl ⟨ws, k, .inl g5, rfl, e2.symm⟩, q2⟩
    · rw [if_neg hk] at q; exact q.elim
theorem pm_inD (hu : X.A.units + 1 < cLine) (ha : PE X e (tM X.K W c ma)) (hb : PE X o (tM X.K W c mb)) (hm : behindInMarks .In o = false) : PE X (.Compare e [.In] [o] pos) (tM X.K W c (eB2 vInD ma mb)) := by
  refine ((pm_cmp (pos := pos) om_in ha hb hm).or' (pe_cmp (pc_din hu ha hb) hm)).weak fun σ H Q q => ?_
  exact (two_if (h := vIn) (fd := fun x y A => (dictAt y A).map fun d => if isKey x = true then some (MV.bl (dGet d.2 x).isSome, A) else none) (fun x y A => by unfold vInD; cases dictAt y A <;> rfl) q).imp _root_.id (in_dict (ng := fun b => b))
theorem pm_notInD (hu : X.A.units + 1 < cLine) (ha : PE X e (tM X.K W c ma)) (hb : PE X o (tM X.K W c mb)) (hm : behindInMarks .NotIn o = false) : PE X (.Compare e [.NotIn] [o] pos) (tM X.K W c (eB2 vNotInD ma mb)) := by
  refine ((pm_cmp (pos := pos) om_notIn ha hb hm).or' (pe_cmp (pc_dnotin hu ha hb) hm)).weak fun σ H Q q => ?_
  exact (two_if (h := vNotIn) (fd := fun x y A => (dictAt y A).map fun d => if isKey x = true then some (MV.bl (!(dGet d.2 x).isSome), A) else none) (fun x y A => by unfold vNotInD; cases dictAt y A <;> rfl) q).imp _root_.id (in_dict (ng := not))
theorem val_bl {σ : L2.St} {H : Hp} {Q : Bool → Hp → Prop} (h : tMT X.K W c (tVal me) σ H Q) : tM X.K W c me σ H fun x H1 => ∃ k, x = .bl k ∧ Q k H1 := by
  obtain ⟨ι, A, ρ, rh, re, p⟩ := h
  exact ⟨ι, A, ρ, rh, re, (PoR.bind p).imp fun x H1 ⟨ι1, A1, v, ex, rh1, rv, p1⟩ => by
    cases v with
    | bl k => exact ⟨k, bl_of rv, p1 ι1 H1 k (.refl ..) rh1 rfl⟩
    | _ => exact p1.elim⟩
theorem ptm_inD (hu : X.A.units + 1 < cLine) (ha : PE X e (tM X.K W c ma)) (hb : PE X o (tM X.K W c mb)) (hm : behindInMarks .In o = false) : PT X (.Compare e [.In] [o] pos) (tMT X.K W c (tVal (eB2 vInD ma mb))) := by
  refine ((pt_cmpR (pos := pos) om_in ha hb hm).or' (pt_cmp (pc_din hu ha hb) hm)).weak fun σ H Q q => ?_
  have q := val_bl q
  exact (two_if (h := vIn) (fd := fun x y A => (dictAt y A).map fun d => if isKey x = true then some (MV.bl (dGet d.2 x).isSome, A) else none) (fun x y A => by unfold vInD; cases dictAt y A <;> rfl) q).imp two (in_dict (ng := fun b => b))
theorem ptm_notInD (hu : X.A.units + 1 < cLine) (ha : PE X e (tM X.K W c ma)) (hb : PE X o (tM X.K W c mb)) (hm : behindInMarks .NotIn o = false) : PT X (.Compare e [.NotIn] [o] pos) (tMT X.K W c (tVal (eB2 vNotInD ma mb))) := by
  refine ((pt_cmpR (pos := pos) om_notIn ha hb hm).or' (pt_cmp (pc_dnotin hu ha hb) hm)).weak fun σ H Q q => ?_
  have q := val_bl q
  exact (two_if (h := vNotIn) (fd := fun x y A => (dictAt y A).map fun d => if isKey x = true then some (MV.bl (!(dGet d.2 x).isSome), A) else none) (fun x y A => by unfold vNotInD; cases dictAt y A <;> rfl) q).imp two (in_dict (ng := not))
theorem pm_get2 (hu : X.A.units + 1 < cLine) (ho : PE X o (tM X.K W c mo)) (he : PE X e (tM X.K W c me)) (hf : PE X e2 (tM X.K W c me2)) (m : M2 X o "get" apos e e2 cpos) : PE X (.Call (.Attribute o "get" apos) [e, e2] [] cpos) (tM X.K W c (eGet2 mo me me2)) := by
  refine (pe_dget2 hu ho he hf m).weak fun σ H Q ⟨ι, A, ρ, rh, re, q⟩ => ?_
  refine ⟨ι, A, ρ, rh, re, (PoR.bind q).imp fun x H1 ⟨ι1, A1, v, ex, rh1, rv, q1⟩ => ?_⟩
  by_cases ht : tyOf v A1 = some .dct
  · rw [if_pos ht] at q1
    have hx : ∃ a, x = .ref a ∧ IsD H1 a := by
      unfold tyOf at ht
      split at ht <;> first
        | (cases ht; done)
        | (exact absurd ht (by decide))
        | skip
      split at ht
      · exact absurd ht (by decide)
      · rename_i hp
        obtain ⟨a, h1, h2⟩ := rv_ref rv
        obtain ⟨ws, h3, h4⟩ := rh1.ob _ a _ h1 hp
        exact ⟨a, h2, .inl ⟨ws, .inl h3⟩⟩
      · rename_i hp
        obtain ⟨a, h1, h2⟩ := rv_ref rv
        obtain ⟨ws, h3, h4⟩ := rh1.ob _ a _ h1 hp
        exact ⟨a, h2, .inr ⟨ws, .inl h3⟩⟩
      · cases ht
    obtain ⟨a, rfl, hd⟩ := hx
    refine ⟨a, rfl, hd, ι1, A1, ρ, rh1, re.mono ex, (PoR.bind q1).imp fun y H2 ⟨ι2, A2, u, ex2, rh2, ru, q2⟩ => ?_⟩
    refine ⟨ι2, A2, ρ, rh2, (re.mono ex).mono ex2, (PoR.bind q2).imp fun z H3 ⟨ι3, A3, t, ex3, rh3, rt, q3⟩ => ?_⟩
    have rv3 := RV.mono (ex2.trans ex3) v rv
    have ru3 := RV.mono ex3 u ru
    cases hda : dictAt v A3 with
    | none => rw [hda] at q3; exact q3.elim
    | some d =>
      obtain ⟨p, kvs⟩ := d
      rw [hda] at q3
      obtain ⟨a', ws, g1, g2, g3, g4, g5, g6⟩ := dictAt_ok rh3 rv3 hda
      cases g4
      dsimp only at q3
      by_cases hk : isKey u = true
      · rw [if_pos hk] at q3
        obtain ⟨k, rfl, rk⟩ := key_is ru3 hk
        rcases dGet_ok rk g6 with ⟨z', w, e1, e2, rz⟩ | ⟨e1, e2⟩
        · rw [e1] at q3
          exact ⟨some w, .inl ⟨ws, k, .inl g5, rfl, e2.symm⟩, q3 ι3 H3 w (.refl ..) rh3 rz⟩
        · rw [e1] at q3
          exact ⟨none, .inl ⟨ws, k, .inl g5, rfl, e2.symm⟩, q3 ι3 H3 z (.refl ..) rh3 rt⟩
      · rw [if_neg hk] at q3; exact q3.elim
  · rw [if_neg ht] at q1; exact q1.elim
theorem _root_.L2.PSet.or {t t' : TSet} (h : PSet X t) (h' : PSet X t') : PSet X (fun o i v H Q => t o i v H Q ∨ t' o i v H Q) := fun pins s σ H o i v ov iv u Q I ro ri rv hw => hw.elim (h pins s σ H o i v ov iv u Q I ro ri rv) (h' pins s σ H o i v ov iv u Q I ro ri rv)
theorem sm_set (hu : X.A.units + 1 < cLine) : PSet X (uB3 X.K setD) := by
  intro pins s σ H o i v ov iv u Q I ro ri rv ⟨ι, A, a, b, d, rh, ra, rb, rd, A', e, q⟩
  unfold setD at e
  cases hd : dictAt a A with
  | none =>
    rw [hd] at e
    exact sm_setL pins s σ H o i v ov iv u Q I ro ri rv ⟨ι, A, a, b, d, rh, ra, rb, rd, A', e, q⟩
  | some dd =>
    obtain ⟨p, kvs⟩ := dd
    rw [hd] at e
    dsimp only at e
    obtain ⟨x, ws, g1, g2, g3, rfl, g5, g6⟩ := dictAt_ok rh ra hd
    split at e
    · rename_i hk
      cases e
      obtain ⟨k, rfl, rk⟩ := key_is rb hk.1
      have hl : ws.length < sizeLine := by rw [RDk.length g6]; exact bigL hk.2
      refine set_dict hu pins s σ H _ _ v ov iv u Q I ro ri rv ⟨x, _, rfl, DPut.k g5 hl, ?_⟩
      have ex : Ex ι H ι (upd H x (.dK (putK ws k v))) := ⟨List.prefix_refl _, .wr g5 (fun _ z => by cases z) (fun _ _ z => by cases z)⟩
      obtain ⟨e1, rh1⟩ := rh.wr (o := .dct (dPut kvs b d)) (u := .dK (putK ws k v)) g3 g5 (fun _ z => by cases z) (fun _ _ z => by cases z) ⟨_, upd_same, RDk.mono ex _ (dPut_ok rk rd g6)⟩
      exact q _ e1 rh1
    · cases e
/-! ### sorted -/
theorem strLe_iff {a b : Str} : strLe a b = true ↔ ¬ b.cps.toList < a.cps.toList := by
  unfold strLe
  rw [decide_eq_true_iff, List.not_lt]
theorem sort_pw (xs : List Str) : (sortS xs).Pairwise fun a b => strLe a b = true := by
  unfold sortS
  refine List.pairwise_mergeSort (fun a b d h1 h2 => ?_) (fun a b => ?_) xs
  · unfold strLe at *
    rw [decide_eq_true_iff] at *
    exact List.le_trans h1 h2
  · unfold strLe
    rw [Bool.or_eq_true, decide_eq_true_iff, decide_eq_true_iff]
    exact List.le_total _ _
theorem rising_pw : ∀ (xs : List Str) (p : Str), PyProof.Rows.risingS p xs = true → (p :: xs).Pairwise fun a b => strLe a b = true
  | [], p, _ => by simp
  | x :: r, p, h => by
    unfold PyProof.Rows.risingS at h
    simp only [Bool.and_eq_true, Bool.not_eq_true'] at h
    obtain ⟨h1, h2⟩ := h
    have ih := rising_pw r x h2
    have hpx : strLe p x = true := by
      rw [strLe_iff]
      intro z
      rw [PyProof.Rows.ltCps_eq] at h1
      exact absurd (decide_eq_true z) (by rw [h1]; decide)
    refine List.Pairwise.cons (fun y hy => ?_) ih
    rcases List.mem_cons.mp hy with rfl | hy
    · exact hpx
    · have hxy := (List.pairwise_cons.mp ih).1 y hy
      unfold strLe at *
      rw [decide_eq_true_iff] at *
      exact List.le_trans hpx hxy
theorem sorted_uniq {ys xs : List Str} (hp : ys.Perm xs) (hs : sortedS ys = true) : ys = sortS xs := by
  have h1 : ys.Pairwise fun a b => strLe a b = true := by
    cases ys with
    | nil => exact .nil
    | cons y r => exact rising_pw r y hs
  have hp2 : ys.Perm (sortS xs) := hp.trans (List.mergeSort_perm xs strLe).symm
  refine List.Perm.eq_of_pairwise (le := fun a b => strLe a b = true) (fun a b _ _ h g => ?_) h1 (sort_pw xs) hp2
  unfold strLe at h g
  rw [decide_eq_true_iff] at h g
  have e := List.le_antisymm h g
  cases a with
  | mk a => cases b with
    | mk b => exact congrArg Str.mk (by simpa using congrArg List.toArray e)
theorem keys_strs {K : PySem.W.Frag} {ι : List Addr} {H : Hp} : ∀ {kvs : List (MV × MV)} {ws : List (Key × V)} {ss : List Str}, RDk K ι H kvs ws → strsOf (kvs.map (·.1)) = some ss → ws.map (·.1) = ss.map Sum.inr
  | [], _, ss, h, e => by unfold RDk at h; subst h; cases e; rfl
  | (f, v) :: r, _, ss, h, e => by
    unfold RDk at h
    obtain ⟨l, w, t, e1, h1, h2, h3⟩ := h
    subst e1
    rcases key_of h1 with ⟨i, rfl, rfl⟩ | ⟨x, rfl, rfl⟩
    · cases e
    · have e2 : (strsOf (r.map (·.1))).map (x :: ·) = some ss := e
      cases h4 : strsOf (r.map (·.1)) with
      | none => rw [h4] at e2; cases e2
      | some cs => rw [h4] at e2; cases e2; rw [List.map_cons, keys_strs h3 h4]; rfl
theorem RVs.strs {K : PySem.W.Frag} {ι : List Addr} {H : Hp} : ∀ ss : List Str, RVs K ι H (ss.map .str) (ss.map V.str)
  | [] => rfl
  | s :: r => RVs.cons rv_of_str (RVs.strs r)
theorem cm_sorted (hc : X.calm = true) : CallR X (.builtin "sorted") (uBN X.K bSorted) := by
  intro pins s σ H xs us Q I r ⟨ι, A, vs, rh, rv, p⟩
  unfold bSorted at p
  split at p
  · rename_i v0
    obtain ⟨w, rfl, r1⟩ := rv.one
    split at p
    · rename_i pp kvs hd
      obtain ⟨a, ws, g1, g2, g3, rfl, g5, g6⟩ := dictAt_ok rh r1 hd
      split at p
      · rename_i ss hs
        split at p
        · rename_i hl
          refine call_sortedD hc pins s σ H _ us Q I r ⟨a, ws, ss, rfl, .inl g5, keys_strs g6 hs, hl, fun ys q hp hsr hq => ?_⟩
          rw [sorted_uniq hp hsr]
          exact (p.newL rh (RVs.strs _)).2 q hq
        · exact p.elim
      · exact p.elim
    · split at p
      · rename_i ys hy
        obtain ⟨q2, b2, zs2, rfl, g1, g2, rfl, g4, g5⟩ := listAt_ok rh r1 hy
        split at p
        · rename_i ss hs
          split at p
          · rename_i hl
            have e3 := strs_ok g5 hs
            subst e3
            refine cr_sortedS pins s σ H _ us Q I r ⟨b2, ss, rfl, .of g4, hl, fun ys q hp hsr hq => ?_⟩
            rw [sorted_uniq hp hsr]
            exact (p.newL rh (RVs.strs _)).2 q hq
          · exact p.elim
        · exact p.elim
      · exact p.elim
  · exact p.elim
/-! ### comprehensions -/
theorem pm_comp {elt tgt iter : Expr} {ifs : List Expr} {scope : Scope} {own : List (Str × Nat)} (hc : X.calm = true) (hN : X.N.Nodup) (hi : PI X tgt iter (tI X.K W c mi)) (ok : BlkOk X.N X.env.scope scope own) (hk : gOk g)
    (hg : ∀ (s : Shared) (H : Hp) (C : Addr) (cl : List (Str × Addr)) (fp : List Addr), PG (X.blk s H scope (compEnvC scope cl C X.env) fp) tgt (tg X.K c (SW (own.map (·.2))) g))
    (ht : ∀ (s : Shared) (H : Hp) (C : Addr) (cl : List (Str × Addr)) (fp : List Addr), PTs (X.blk s H scope (compEnvC scope cl C X.env) fp) ifs (tMT X.K W0 c mt))
    (he : ∀ (s : Shared) (H : Hp) (C : Addr) (cl : List (Str × Addr)) (fp : List Addr), PE (X.blk s H scope (compEnvC scope cl C X.env) fp) elt (tM X.K W0 c me)) (hs : ∀ x, foldedSetIterable iter X.env x = pure x) :
    PE X (.ListComp elt [⟨tgt, iter, ifs, 0⟩] scope pos) (tM X.K W c (eComp (own.map (·.2)) mi g mt me)) :=
  (pe_lc hc hN hi ok hg ht he hs).weak fun _ _ _ => tLc_of hk
theorem psm_setLc {i : Nat} {y : Str} {py : Pos} {elt tgt iter : Expr} {ifs : List Expr} {scope : Scope} {own : List (Str × Nat)} {pos spos : Pos} (hc : X.calm = true) (hN : X.N.Nodup) (hy : X.N[i]? = some y) (hyl : X.env.scope.names.lookup y = some .local)
    (hsw : swapsWith (.ListComp elt [⟨tgt, iter, ifs, 0⟩] scope pos) (some (.Name y py)) spos.line X.env = pure true) (hi : PI X tgt iter (tI X.K W c mi)) (ok : BlkOk X.N X.env.scope scope own) (hk : gOk g)
    (hg : ∀ (s : Shared) (H : Hp) (C : Addr) (cl : List (Str × Addr)) (fp : List Addr), PG (X.blk s H scope (compEnvC scope cl C X.env) fp) tgt (tg X.K c (SW (own.map (·.2))) g))
    (ht : ∀ (s : Shared) (H : Hp) (C : Addr) (cl : List (Str × Addr)) (fp : List Addr), PTs (X.blk s H scope (compEnvC scope cl C X.env) fp) ifs (tMT X.K W0 c mt))
    (he : ∀ (s : Shared) (H : Hp) (C : Addr) (cl : List (Str × Addr)) (fp : List Addr), PE (X.blk s H scope (compEnvC scope cl C X.env) fp) elt (tM X.K W0 c me)) (hs : ∀ x, foldedSetIterable iter X.env x = pure x) :
    PS X (.Assign [.Name y py] (.ListComp elt [⟨tgt, iter, ifs, 0⟩] scope pos) spos) (tS X.K W c (sAsg (eComp (own.map (·.2)) mi g mt me) (gV i))) := by
  refine (ps_setLc hc hN hy hyl hsw hi ok hg ht he hs).weak fun D σ H ⟨ι, A, ρ, rh, re, p⟩ => ?_
  refine tLc_of hk ⟨ι, A, ρ, rh, re, (PoS.bindS (Rel := RV X.K) re p).imp fun y H1 ⟨ι1, A1, v, ex, rh1, rv, p1⟩ => ?_⟩
  exact p1 ι1 H1 _ (.refl ..) rh1 ((re.mono ex).set i rv)
theorem ptsm_nil : PTs X [] (tMT X.K W c MM.tYes) := ⟨fun pins s σ H Q I ⟨ι, A, ρ, rh, re, q⟩ => pts_nil.run pins s σ H Q I (q ι H true (.refl ..) rh rfl)⟩
end
/-! ### a law's end -/
theorem walk_ofEB {l : PySem.W.OpenLaw} {n k : Nat} {q : Program} {loose : List Str} {XP : (Str → Option Value) → Heap → Prop} {YP : World → Heap → Prop} {d : DefRec} {CX : World → CXT} {x : Str}
    (hn : l.most = some n) (hn2 : n ≤ sizeLine) (hdf : d.params.defaults = []) (hr : Room k callerA)
    (F : ∀ (w : World) (mg : Str → Option Value) (fa : Addr) (h : Heap), YP w h → h.Ns mainGlobals mg → mg d.name = some (.ref fa) →
      ∃ (K : PySem.W.Frag) (fd : FuncData) (sp : Sp), K.In h ∧ (∀ (s : Shared) (u : Value), BindsTo s fd ⟨[u], []⟩ [(x, u)]) ∧
        (∀ (H : Hp) (a : Addr) (ns : List Int), ns.length ≤ n → (∀ z ∈ ns, Builtin.Int.intBits z ≤ 1048576) → Only H → SqL K H a (ns.map V.int) → sp [.ref a] H (fun v _ => v = .bl true) fun _ _ _ => False) ∧
        ∀ base : Heap, K.In base → base.Ns mainGlobals mg → FnOk l.prog w K mg base (CX w) k fa fd [x] sp)
    (hCX : ∀ (w : World) (H : Hp) (s : Shared) (e : Value) (s' : Shared), CX w [] H s (fun _ _ _ => False) e s' → False) :
    PySem.W.WalkO q loose XP YP l.row.toRowW d [] (fun f vs => PySem.call f vs) := by
  refine Att.attach_callB hn hdf fun w s₀ s₁ mg mb fa o pm cd doc a vs ns G Y ho hd hcd hmg hobj hints hlen hbits hg => ?_
  obtain ⟨K, fd, sp, KX, hb, hsp, hF⟩ := F w mg fa _ Y G.T.g hmg
  exact law_call KX G.T.g G.T.b G.T.builtins G.T.nolimit hg hobj hints (Nat.le_trans hlen hn2) hr hF hb (fun H hO hS => hsp H a ns hlen hbits hO hS) fun H e s' => hCX w H s₁ e s'
/-- the script as the reading has it, True as it wants it -/
theorem law_sp {K : PySem.W.Frag} {P : Prg} {k : Nat} {H : Hp} {a : Addr} {ns : List Int} (hO : Only H) (hS : SqL K H a (ns.map V.int)) (h : ∃ A, P.call k "law" [.scr (ns.map .int)] [] = .ok (.bl true) A) : spM K P k "law" [.ref a] H (fun v _ => v = .bl true) fun _ _ _ => False := by
  obtain ⟨A, h⟩ := h
  have hF : SqF K H a (ns.map V.int) := by
    rcases hS with (hS | ⟨o, hS⟩) | hS
    · rcases hO a with z | ⟨o, xs, z⟩
      · rw [hS] at z; cases z
      · rw [hS] at z; cases z
    · exact .inl ⟨o, hS⟩
    · exact .inr hS
  have hints : ∀ l : List Int, RVs K [] H (l.map .int) (l.map V.int) := by
    intro l
    induction l with
    | nil => rfl
    | cons i r ih => exact RVs.cons rv_of_int ih
  refine ⟨[], [], [.scr (ns.map .int)], ⟨rfl, List.nodup_nil, fun i a o h1 => by simp at h1⟩, RVs.cons ?_ rfl, ?_⟩
  · unfold RV
    exact ⟨a, _, rfl, hF, hints ns⟩
  · rw [h]
    exact fun ι' H' w _ _ rv => rv_bl rv
end MM

/-! M10: keyword calls, chains, constants, a def's body. -/
namespace MM
open PySem L2 PyProof.Rows
section
variable {K : PySem.W.Frag} {ι : List Addr} {H : Hp}
theorem RVs.getD : ∀ {xs : List MV} {vs : List V} (i : Nat), RVs K ι H xs vs → RV K ι H (xs.getD i .non) (vs.getD i .non)
  | [], _, i, h => by unfold RVs at h; subst h; exact rv_of_non
  | x :: xs, _, 0, h => by
    unfold RVs at h
    obtain ⟨w, r, h1, h2, h3⟩ := h
    subst h1
    exact h2
  | x :: xs, _, i + 1, h => by
    unfold RVs at h
    obtain ⟨w, r, h1, h2, h3⟩ := h
    subst h1
    exact RVs.getD i h3
theorem RVs.pick {xs zs ds : List MV} {vs ws es : List V} (h1 : RVs K ι H xs vs) (h2 : RVs K ι H zs ws) (h3 : RVs K ι H ds es) : ∀ sp : List Src, RVs K ι H (MM.pick .non sp xs zs ds) (MM.pick .non sp vs ws es)
  | [] => rfl
  | .pos i :: r => RVs.cons (RVs.getD i h1) (RVs.pick h1 h2 h3 r)
  | .kw i :: r => RVs.cons (RVs.getD i h2) (RVs.pick h1 h2 h3 r)
  | .dfl i :: r => RVs.cons (RVs.getD i h3) (RVs.pick h1 h2 h3 r)
end
theorem Vals.getD : ∀ {xs : List V} {us : List Value} (i : Nat), Vals xs us → RelV (xs.getD i .non) (us.getD i .none)
  | _, _, _, .nil => rfl
  | _, _, 0, .cons r _ => r
  | _, _, i + 1, .cons _ t => Vals.getD i t
theorem Vals.pick {xs zs ds : List V} {us ws es : List Value} (h1 : Vals xs us) (h2 : Vals zs ws) (h3 : Vals ds es) : ∀ sp : List Src, Vals (MM.pick .non sp xs zs ds) (MM.pick .none sp us ws es)
  | [] => .nil
  | .pos i :: r => .cons (Vals.getD i h1) (Vals.pick h1 h2 h3 r)
  | .kw i :: r => .cons (Vals.getD i h2) (Vals.pick h1 h2 h3 r)
  | .dfl i :: r => .cons (Vals.getD i h3) (Vals.pick h1 h2 h3 r)
/-- how a call's keywords bind, by where each parameter comes from -/
structure KB (K : PySem.W.Frag) (fd : FuncData) (ps : List Str) (n : Nat) (ks : List Str) (sp : List Src) (ds : List V) : Prop where
  ex : ∃ es : List Value, Vals ds es ∧ ∀ (s : Shared) (us ws : List Value), K.In s.heap → us.length = n → ws.length = ks.length → BindsTo s fd ⟨us, ks.zip ws⟩ (ps.zip (MM.pick .none sp us ws es))
section
variable {K : PySem.W.Frag} {x qual : Str} {params : Arguments} {body : List Stmt} {scope : Scope} {dvs : List V} {kws : List (Str × V)} {f : Addr} {fd : FuncData} {ps : List Str}
/-- no positional defaults; ms: the keyword-only parameters that lack -/
theorem kb0 (F : FunD K x qual params body scope [] kws f fd) (n : Nat) (ks : List Str) (ms : List (Str × V)) (sp : List Src) (hk : kws ≠ []) (hms : ∀ q ∈ ms, q ∈ kws)
    (h : ∀ (D : Addr) (doc pm : Value) (an : Option Addr) (cdv ct : Value) (us mv ws : List Value), us.length = n → mv.length = ms.length → ws.length = ks.length →
      KwChain D ((ms.map (·.1)).zip mv) (bindArgs (PySem.W.fnOf x qual params body scope .none (.ref D) doc pm an cdv ct) ⟨us, ks.zip ws⟩) (ps.zip (MM.pick .none sp us ws mv))) : KB K fd ps n ks sp (ms.map (·.2)) := by
  obtain ⟨oc, od, dV, kV, doc, pm, an, cdv, ct, osl, rfl, lk, hcd, hD, hK⟩ := F.ex
  rcases hD with ⟨_, rfl⟩ | ⟨e, _⟩
  · rcases hK with e | ⟨D, rfl, hq⟩
    · exact absurd e hk
    · obtain ⟨mv, hl, rk, hks⟩ := kwd_vals (ms := ms) fun q hm => hq q (hms q hm)
      refine ⟨mv, rk, fun s us ws X l1 l2 => ?_⟩
      exact BindsTo.of_looks fun M => KwChain.looks X hks (h D doc pm an cdv ct us mv ws l1 hl l2)
  · exact absurd rfl e
/-- keywords for plain parameters, no defaults at all -/
theorem kb1 (F : FunD K x qual params body scope [] kws f fd) (n : Nat) (ks : List Str) (sp : List Src)
    (h : ∀ (kV doc pm : Value) (an : Option Addr) (cdv ct : Value) (us ws : List Value), us.length = n → ws.length = ks.length →
      bindArgs (PySem.W.fnOf x qual params body scope .none kV doc pm an cdv ct) ⟨us, ks.zip ws⟩ = pure (ps.zip (MM.pick .none sp us ws []))) : KB K fd ps n ks sp [] := by
  obtain ⟨oc, od, dV, kV, doc, pm, an, cdv, ct, osl, rfl, lk, hcd, hD, hK⟩ := F.ex
  rcases hD with ⟨_, rfl⟩ | ⟨e, _⟩
  · exact ⟨[], .nil, fun s us ws X l1 l2 => .of_eq (h kV doc pm an cdv ct us ws l1 l2)⟩
  · exact absurd rfl e
end
section
variable {X : Cx} {W : WX} {P : Prg} {k n : Nat} {f : Addr} {fd : FuncData} {ps ks : List Str} {x : Str} {p pos : Pos} {e : Expr} {es : List Expr} {mas mks : MA} {kws : List Keyword} {sp : List Src} {ds : List V} {dm : List MV} {c : Ctx} {nm : Option Str} {kpos : Pos} {me : ME}
theorem pkm_nil : PK X [] (tMA X.K W c aN) := ⟨fun pos pins s σ H Q I ⟨ι, A, ρ, rh, re, p⟩ => pk_nil.run pos pins s σ H Q I (p ι H [] (.refl ..) rh rfl)⟩
theorem pkm_cons (ha : PE X e (tM X.K W c me)) (hr : PK X kws (tMA X.K W c mas)) : PK X (⟨nm, e, kpos⟩ :: kws) (tMA X.K W c (aC me mas)) := ⟨fun pos pins s σ H Q I ⟨ι, A, ρ, rh, re, p⟩ => (pk_cons ha hr).run pos pins s σ H Q I
  ⟨ι, A, ρ, rh, re, (PoR.bind p).imp fun x H1 ⟨ι1, A1, v, ex, rh1, rv, p1⟩ =>
    ⟨ι1, A1, ρ, rh1, re.mono ex, (PoR.bind p1).imp fun xs H2 ⟨ι2, A2, vs, ex2, rh2, rvs, p2⟩ => p2 ι2 H2 (x :: xs) (.refl ..) rh2 ⟨x, xs, rfl, RV.mono ex2 v rv, rvs⟩⟩⟩⟩
theorem pm_callK (F : Fn X P k f fd ps x) (hr : Room k X.A) (hg : Gl X x) (hm : X.mg x = some (.ref f)) (hk : PySem.W.keepIn X.K (.ref f) = true) (hb : KB X.K fd ps n ks sp ds) (hx : ∀ σ, PassesAt (L2.CX X.prog X.w) X σ (WE W σ)) (hd : ∀ ι H, RVs X.K ι H dm ds)
    (ha : PA X (e :: es) (tMA X.K W (P.ctx k) mas)) (hkw : PK X kws (tMA X.K W (P.ctx k) mks)) (hall : (backToKw pos (keywordEach kws X.env)).all (·.1.isSome) = true) (hks : (backToKw pos (keywordEach kws X.env)).filterMap (·.1) = ks)
    (hdb : (x == ("__debug__" : Str)) = false) (he : starEach (e :: es) X.env = (false, eval e X.env) :: starEach es X.env)
    (hpl : ((backTo pos (starEach (e :: es) X.env)).any (·.1) || (backToKw pos (keywordEach kws X.env)).any (·.1.isNone)) = false) :
    PE X (.Call (.Name x p) (e :: es) kws pos) (tM X.K W (P.ctx k) (eCallK x sp dm n ks.length mas mks)) := by
  obtain ⟨es', hv, hb⟩ := hb.ex
  have kb : KBn X.K fd ps n ks (fun us ws => MM.pick .none sp us ws es') (fun vs zs => MM.pick .non sp vs zs ds) := ⟨hb, fun r1 r2 => Vals.pick r1 r2 hv sp⟩
  refine (pe_callNS F hr hg hm hk kb hx ha hkw hall hks hdb he hpl).weak fun σ H Q ⟨ι, A, ρ, rh, re, q⟩ => ?_
  refine ⟨ι, A, ρ, rh, re, (PoR.bind q).imp fun vs H1 ⟨ι1, A1, xs, ex, rh1, rvs, p1⟩ => ?_⟩
  refine ⟨ι1, A1, ρ, rh1, re.mono ex, (PoR.bind p1).imp fun zs H2 ⟨ι2, A2, ys, ex2, rh2, rzs, p2⟩ => ?_⟩
  split at p2
  · rename_i hl
    have rvs2 := RVs.mono ex2 xs rvs
    exact ⟨(RVs.length rvs).trans hl.1, (RVs.length rzs).trans hl.2, ι2, A2, _, rh2, RVs.pick rvs2 rzs (hd _ _) sp, PoC.of p2⟩
  · exact p2.elim
/-! ### chains -/
variable {a b d : Expr} {ma mb md : ME} {o1 o2 : CmpOp} {f1 f2 : B2}
theorem ch_of {σ : L2.St} {H : Hp} {Q : VK} (q : tM X.K W c (eCh f1 f2 ma mb md) σ H Q) : tChain (uB2 X.K f1) (uB2 X.K f2) (tM X.K W c ma) (tM X.K W c mb) (tM X.K W c md) σ H Q := by
  obtain ⟨ι, A, ρ, rh, re, q⟩ := q
  refine ⟨ι, A, ρ, rh, re, (PoR.bind q).imp fun x H1 ⟨ι1, A1, v, ex, rh1, rv, q1⟩ => ?_⟩
  refine ⟨ι1, A1, ρ, rh1, re.mono ex, (PoR.bind q1).imp fun y H2 ⟨ι2, A2, u, ex2, rh2, ru, q2⟩ => ?_⟩
  refine ⟨ι2, A2, v, u, rh2, RV.mono ex2 v rv, ru, PoO.of ((PoR.bind q2).imp fun z H3 ⟨ι3, A3, t, ex3, rh3, rt, q3⟩ => ?_)⟩
  cases t with
  | bl k =>
    refine ⟨k, bl_of rt, ?_⟩
    cases k with
    | true =>
      rw [if_pos rfl]
      refine ⟨ι3, A3, ρ, rh3, ((re.mono ex).mono ex2).mono ex3, (PoR.bind q3).imp fun w H4 ⟨ι4, A4, r, ex4, rh4, rr, q4⟩ => ?_⟩
      exact ⟨ι4, A4, u, r, rh4, RV.mono (ex3.trans ex4) u ru, rr, PoO.of q4⟩
    | false =>
      rw [if_neg Bool.false_ne_true]
      exact q3 ι3 H3 _ (.refl ..) rh3 rv_of_bl
  | _ => exact q3.elim
theorem pm_ch (h1 : OpR X (compareOp o1) (uB2 X.K f1)) (h2 : OpR X (compareOp o2) (uB2 X.K f2)) (ha : PE X a (tM X.K W c ma)) (hb : PE X b (tM X.K W c mb)) (hd : PE X d (tM X.K W c md))
    (h : ∀ {r r' : R2} {ta tb tc : TE}, OpR X (compareOp o1) r → OpR X (compareOp o2) r' → PE X a ta → PE X b tb → PE X d tc → PE X (.Compare a [o1, o2] [b, d] pos) (tChain r r' ta tb tc)) : PE X (.Compare a [o1, o2] [b, d] pos) (tM X.K W c (eCh f1 f2 ma mb md)) :=
  (h h1 h2 ha hb hd).weak fun _ _ _ => ch_of
theorem ptm_ch (h1 : OpR X (compareOp o1) (uB2 X.K f1)) (h2 : OpR X (compareOp o2) (uB2 X.K f2)) (ha : PE X a (tM X.K W c ma)) (hb : PE X b (tM X.K W c mb)) (hd : PE X d (tM X.K W c md))
    (h : ∀ {r r' : R2} {ta tb tc : TE}, OpR X (compareOp o1) r → OpR X (compareOp o2) r' → PE X a ta → PE X b tb → PE X d tc → PT X (.Compare a [o1, o2] [b, d] pos) (tTest (tChain r r' ta tb tc))) : PT X (.Compare a [o1, o2] [b, d] pos) (tMT X.K W c (tVal (eCh f1 f2 ma mb md))) :=
  (h h1 h2 ha hb hd).weak fun _ _ _ q => ch_of (val_bl q)
/-! ### constants of the top -/
theorem pm_gint {y : Str} {i : Int} (h : ∃ t, X.mg y = some (.int i t)) (hg : Gl X y) (hd : (y == ("__debug__" : Str)) = false) : PE X (.Name y pos) (tM X.K W c (eC (.int i))) := by
  obtain ⟨t, h⟩ := h
  exact pm_c (pe_glob (v := .int i) hg h ⟨t, rfl⟩ hd) fun _ _ => rv_of_int
theorem pm_gstr {y z : Str} (h : ∃ t, X.mg y = some (.str z t)) (hg : Gl X y) (hd : (y == ("__debug__" : Str)) = false) : PE X (.Name y pos) (tM X.K W c (eC (.str z))) := by
  obtain ⟨t, h⟩ := h
  exact pm_c (pe_glob (v := .str z) hg h ⟨t, rfl⟩ hd) fun _ _ => rv_of_str
theorem pm_ty {y : Str} {n : TN} (hg : Gl X y) (hm : X.mg y = none) (hv : bootBuiltins y = some (.type n.nm)) (hn : y ≠ "__name__") (hd : (y == ("__debug__" : Str)) = false) : PE X (.Name y pos) (tM X.K W c (eC (.ty n))) :=
  pm_c (pe_bltn (v := .ty n.nm) hg hm hv rfl hn hd) fun _ _ => by unfold RV; rfl
/-! ### x += e -/
theorem ipm_add : PIp X .Add (uB2 X.K vAug) := by
  intro pins s σ H x y v u Q I rx ry ⟨ι, A, a, b, rh, ra, rb, p⟩
  unfold vAug at p
  split at p
  · cases rv_int ra; cases rv_int rb
    exact ip_add pins s σ H _ _ v u Q I rx ry ⟨_, _, rfl, rfl, p.here rh rv_of_int⟩
  · cases rv_str ra; cases rv_str rb
    split at p
    · rename_i hl
      exact iop_add_str pins s σ H _ _ v u Q I rx ry ⟨_, _, rfl, rfl, big hl, p.here rh rv_of_str⟩
    · exact p.elim
  · exact p.elim
theorem ipm_sub : PIp X .Sub (uB2 X.K vSub) := by
  intro pins s σ H x y v u Q I rx ry ⟨ι, A, a, b, rh, ra, rb, p⟩
  unfold vSub at p
  split at p
  · cases rv_int ra; cases rv_int rb
    exact ip_sub pins s σ H _ _ v u Q I rx ry ⟨_, _, rfl, rfl, p.here rh rv_of_int⟩
  · exact p.elim
end
/-! ### a def's body -/
theorem spM_len {K : PySem.W.Frag} {P : Prg} {k : Nat} {key : Str} {n : Nat} (hn : ∀ d, P.defs key = some d → d.arity = n) : ∀ vs H Q E, spM K P k key vs H Q E → vs.length = n := fun vs H Q E ⟨ι, A, xs, rh, rvs, q⟩ => by
  cases k with
  | zero => exact q.elim
  | succ k =>
    rw [Prg.call_succ] at q
    cases hd : P.defs key with
    | none => rw [hd] at q; exact q.elim
    | some d =>
      rw [hd] at q
      unfold runD at q
      dsimp only at q
      split at q
      · rename_i hl
        rw [RVs.length rvs, hl]
        exact hn d hd
      · exact q.elim
theorem start_ok {K : PySem.W.Frag} {ι : List Addr} {H : Hp} {N : List Str} : ∀ {xs : List MV} {vs : List V}, RVs K ι H xs vs → RE K ι H (xs.map some ++ List.replicate (N.length - xs.length) none) (L2.start N vs) := fun {xs vs} h => by
  unfold L2.start
  rw [RVs.length h]
  refine ⟨by simp [RVs.length h], fun i v e => ?_⟩
  by_cases hi : i < xs.length
  · rw [List.getElem?_append_left (by simpa using hi), List.getElem?_map] at e
    cases hx : xs[i]? with
    | none => rw [hx] at e; cases e
    | some x =>
      rw [hx] at e
      cases e
      obtain ⟨w, h1, h2⟩ := RVs.get h hx
      refine ⟨w, ?_, h2⟩
      rw [List.getElem?_append_left (by simpa [RVs.length h] using hi), List.getElem?_map, h1]
      rfl
  · rw [List.getElem?_append_right (by simpa using Nat.le_of_not_lt hi)] at e
    have := List.mem_of_getElem? e
    rw [List.mem_replicate] at this
    cases this.2
theorem body_ok {K : PySem.W.Frag} {P : Prg} {k : Nat} {key : Str} {d : MD} {N : List Str} {vs : List V} {H : Hp} {Q : VK} {E : XK} (hd : P.defs key = some d) (hs : d.slots = N.length) (h : spM K P (k + 1) key vs H Q E) :
    tS K (fun cls dd _ H' => E cls dd H') (P.ctx k) d.body { nx := fun _ H' => Q .non H', rt := Q } (L2.start N vs) H := by
  obtain ⟨ι, A, xs, rh, rvs, q⟩ := h
  rw [Prg.call_succ, hd] at q
  unfold runD at q
  dsimp only at q
  split at q
  · rw [hs] at q
    refine ⟨ι, A, _, rh, start_ok rvs, ?_⟩
    revert q
    cases d.body (P.ctx k) (xs.map some ++ List.replicate (N.length - xs.length) none) A with
    | nx ρ A1 => exact fun q ι' H' σ' ex rh' re' => q ι' H' .non ex rh' rv_of_non
    | rt v A1 => exact fun q => q
    | exc C fs ρ A1 => exact fun q ι' H' σ' dd ws ex rh' _ e1 e2 => q ι' H' dd ws ex rh' e1 e2
    | bk ρ A1 => exact fun q => q.elim
    | ct ρ A1 => exact fun q => q.elim
    | bad => exact fun q => q.elim
  · exact q.elim
theorem fn_zero {P : Program} {w : World} {K : PySem.W.Frag} {mg : Str → Option Value} {base : Heap} {R : Prg} {f : Addr} {fd : FuncData} {ps : List Str} {key : Str} : FnOk P w K mg base (L2.CX P w) 0 f fd ps (spM K R 0 key) :=
  ⟨fun vs H Q E ⟨ι, A, xs, rh, rvs, q⟩ => q.elim, fun A outer s H args us vs Q E hr he hb hv ⟨ι, A', xs, rh, rvs, q⟩ => q.elim⟩
end MM

/-! M11: facts of names, short forms for the printed proofs. -/
namespace MM
open PySem L2 PyProof.Rows
theorem mb_len : bootBuiltins "len" = some (.builtin "len") := by decide +kernel
theorem mb_all : bootBuiltins "all" = some (.builtin "all") := by decide +kernel
theorem mb_any : bootBuiltins "any" = some (.builtin "any") := by decide +kernel
theorem mb_sum : bootBuiltins "sum" = some (.builtin "sum") := by decide +kernel
theorem mb_sorted : bootBuiltins "sorted" = some (.builtin "sorted") := by decide +kernel
theorem mb_isi : bootBuiltins "isinstance" = some (.builtin "isinstance") := by decide +kernel
theorem mb_tlist : bootBuiltins "list" = some (.type "list") := by decide +kernel
theorem mb_ttuple : bootBuiltins "tuple" = some (.type "tuple") := by decide +kernel
theorem mb_tint : bootBuiltins "int" = some (.type "int") := by decide +kernel
theorem mb_tstr : bootBuiltins "str" = some (.type "str") := by decide +kernel
theorem mb_tbool : bootBuiltins "bool" = some (.type "bool") := by decide +kernel
theorem gOks_nil : ∀ g ∈ ([] : List MG), gOk g := fun _ h => by cases h
theorem gOks_cons {g : MG} {gs : List MG} (h : gOk g) (hs : ∀ g ∈ gs, gOk g) : ∀ g' ∈ g :: gs, gOk g' := fun g' hm => by
  rcases List.mem_cons.mp hm with rfl | hm
  · exact h
  · exact hs g' hm
theorem hx0 {X : Cx} (σ : L2.St) : PassesAt (L2.CX X.prog X.w) X σ (WE W0 σ) := passAt takes0 σ
end MM
namespace MM
open PySem L2 PyProof.Rows
section
variable {X : Cx} {W : WX} {c : Ctx} {x : Str} {pos : Pos}
theorem xv (i : Nat) (hN : X.N[i]? = some x) (hv : Vis X.env.scope x) (hd : (x == ("__debug__" : Str)) = false ∧ (x == ("__classdict__" : Str)) = false) : PE X (.Name x pos) (tM X.K W c (eV i)) := pm_v (pv i hN hv hd.1 hd.2)
end
section
variable {X : Cx} {W : WX} {c : Ctx} {elt tgt iter : Expr} {ifs : List Expr} {scope : Scope} {pos : Pos} {mi : MI} {g : MG} {mt : MT} {me : ME} {ol : List Nat}
theorem xcomp (own : List (Str × Nat)) (hol : own.map (·.2) = ol) (hc : X.calm = true) (hN : X.N.Nodup) (hi : PI X tgt iter (tI X.K W c mi)) (ok : BlkOk X.N X.env.scope scope own) (hk : gOk g)
    (hg : ∀ (s : Shared) (H : Hp) (C : Addr) (cl : List (Str × Addr)) (fp : List Addr), PG (X.blk s H scope (compEnvC scope cl C X.env) fp) tgt (tg X.K c (SW ol) g))
    (ht : ∀ (s : Shared) (H : Hp) (C : Addr) (cl : List (Str × Addr)) (fp : List Addr), PTs (X.blk s H scope (compEnvC scope cl C X.env) fp) ifs (tMT X.K W0 c mt))
    (he : ∀ (s : Shared) (H : Hp) (C : Addr) (cl : List (Str × Addr)) (fp : List Addr), PE (X.blk s H scope (compEnvC scope cl C X.env) fp) elt (tM X.K W0 c me)) (hs : ∀ x, foldedSetIterable iter X.env x = pure x) :
    PE X (.ListComp elt [⟨tgt, iter, ifs, 0⟩] scope pos) (tM X.K W c (eComp ol mi g mt me)) := by
  subst hol
  exact pm_comp hc hN hi ok hk hg ht he hs
theorem xsetLc {i : Nat} {y : Str} {py : Pos} {spos : Pos} (own : List (Str × Nat)) (hol : own.map (·.2) = ol) (hc : X.calm = true) (hN : X.N.Nodup) (hi : PI X tgt iter (tI X.K W c mi)) (ok : BlkOk X.N X.env.scope scope own) (hk : gOk g)
    (hg : ∀ (s : Shared) (H : Hp) (C : Addr) (cl : List (Str × Addr)) (fp : List Addr), PG (X.blk s H scope (compEnvC scope cl C X.env) fp) tgt (tg X.K c (SW ol) g))
    (ht : ∀ (s : Shared) (H : Hp) (C : Addr) (cl : List (Str × Addr)) (fp : List Addr), PTs (X.blk s H scope (compEnvC scope cl C X.env) fp) ifs (tMT X.K W0 c mt))
    (he : ∀ (s : Shared) (H : Hp) (C : Addr) (cl : List (Str × Addr)) (fp : List Addr), PE (X.blk s H scope (compEnvC scope cl C X.env) fp) elt (tM X.K W0 c me)) (hs : ∀ x, foldedSetIterable iter X.env x = pure x)
    (hy : X.N[i]? = some y) (hyl : X.env.scope.names.lookup y = some .local)
    (hsw : swapsWith (.ListComp elt [⟨tgt, iter, ifs, 0⟩] scope pos) (some (.Name y py)) spos.line X.env = pure true) :
    PS X (.Assign [.Name y py] (.ListComp elt [⟨tgt, iter, ifs, 0⟩] scope pos) spos) (tS X.K W c (sAsg (eComp ol mi g mt me) (gV i))) := by
  subst hol
  exact psm_setLc hc hN hy hyl hsw hi ok hk hg ht he hs
theorem mem_dec {i : Nat} {ol : List Nat} (h : decide (i ∈ ol) = true) : i ∈ ol := of_decide_eq_true h
end
end MM
namespace MM
open PySem L2 PyProof.Rows
section
variable {X : Cx} {W : WX} {P : Prg} {k n m : Nat} {f : Addr} {fd : FuncData} {ps ks : List Str} {x : Str} {p pos : Pos} {e : Expr} {es : List Expr} {mas mks : MA} {kws : List Keyword} {sp : List Src} {ds : List V} {dm : List MV}
theorem xcallK (hkl : ks.length = m) (F : Fn X P k f fd ps x) (hr : Room k X.A) (hg : Gl X x) (hm : X.mg x = some (.ref f)) (hk : PySem.W.keepIn X.K (.ref f) = true) (hb : KB X.K fd ps n ks sp ds) (hx : ∀ σ, PassesAt (L2.CX X.prog X.w) X σ (WE W σ)) (hd : ∀ ι H, RVs X.K ι H dm ds)
    (ha : PA X (e :: es) (tMA X.K W (P.ctx k) mas)) (hkw : PK X kws (tMA X.K W (P.ctx k) mks)) (hall : (backToKw pos (keywordEach kws X.env)).all (·.1.isSome) = true) (hks : (backToKw pos (keywordEach kws X.env)).filterMap (·.1) = ks)
    (hdb : (x == ("__debug__" : Str)) = false) (he : starEach (e :: es) X.env = (false, eval e X.env) :: starEach es X.env)
    (hpl : ((backTo pos (starEach (e :: es) X.env)).any (·.1) || (backToKw pos (keywordEach kws X.env)).any (·.1.isNone)) = false) :
    PE X (.Call (.Name x p) (e :: es) kws pos) (tM X.K W (P.ctx k) (eCallK x sp dm n m mas mks)) := by
  subst hkl
  exact pm_callK F hr hg hm hk hb hx hd ha hkw hall hks hdb he hpl
end
end MM
namespace MM
open PySem L2 PyProof.Rows
theorem cx_false {P : Program} {w : World} {o : List PySem.Env} {H : Hp} {s : Shared} {u : Value} {s' : Shared} (h : L2.CX P w o H s (fun _ _ _ => False) u s') : False := by
  obtain ⟨a, B, H', cls, d, _, _, _, _, _, _, _, h⟩ := h
  exact h
end MM

namespace Law_k10
open PySem MM
/-! the defs as the plain reading has them -/
noncomputable def m_row : MS := sSeq (sAsg (eDict0) (gV 3)) (sSeq (sFor (iVal (eV 0)) (gTup [gV 4, gV 5]) (sAsg (eB2 vAdd (eGet2 (eV 3) (eV 4) (eC (.int 0))) (eV 5)) (gSub setD (eV 3) (eV 4)))) (sSeq (sAsg (eBN bTuple (aC (eComp [4] (iVal (eBN bSorted (aC (eV 3) (aN)))) (gV 4) (tVal (eB2 vNe (eB2 vIdxD (eV 3) (eV 4)) (eC (.int 0)))) (eTup (aC (eV 4) (aC (eB2 vIdxD (eV 3) (eV 4)) (aN))))) (aN))) (gV 6)) (sRet (eTup (aC (eV 6) (aC (eV 1) (aC (eV 2) (aN))))))))
noncomputable def d_row : MD := ⟨3, 7, m_row⟩
noncomputable def m_summed : MS := sSeq (sAsg (eLst (aN)) (gV 1)) (sSeq (sAsg (eC (.int 0)) (gV 2)) (sSeq (sFor (iVal (eV 0)) (gTup [gTup [gV 3, gV 4, gV 5], gV 6]) (sSeq (sExp (eBM .lst mExtend (eV 1) (aC (eComp [7, 8] (iVal (eV 3)) (gTup [gV 7, gV 8]) (tYes) (eTup (aC (eV 7) (aC (eB2 vMul (eV 8) (eV 6)) (aN))))) (aN)))) (sAug 2 vAug (eB2 vMul (eV 4) (eV 6))))) (sRet (eCallK "row" [.pos 0, .pos 1, .kw 0] [] 2 1 (aC (eV 1) (aC (eV 2) (aN))) (aC (eBN bAll (aC (eComp [9, 6] (iVal (eV 0)) (gTup [gV 9, gV 6]) (tYes) (eB2 vIdxD (eV 9) (eC (.int 2)))) (aN))) (aN))))))
noncomputable def d_summed : MD := ⟨1, 10, m_summed⟩
noncomputable def m_divided : MS := sSeq (sAsg (eV 0) (gTup [gV 2, gV 3, gV 4])) (sSeq (sIf (tOr (tVal (eB2 vLt (eV 1) (eC (.int 2)))) (tVal (eBN bAny (aC (eComp [5, 6] (iVal (eV 2)) (gTup [gV 5, gV 6]) (tYes) (eB2 vNe (eB2 vMod (eV 6) (eV 1)) (eC (.int 0)))) (aN))))) (sRet (eC .non)) (sNil)) (sRet (eTup (aC (eBN bTuple (aC (eComp [5, 6] (iVal (eV 2)) (gTup [gV 5, gV 6]) (tYes) (eTup (aC (eV 5) (aC (eB2 vDiv (eV 6) (eV 1)) (aN))))) (aN))) (aC (eB2 vDiv (eV 3) (eV 1)) (aC (eC (.bl false)) (aN)))))))
noncomputable def d_divided : MD := ⟨2, 7, m_divided⟩
noncomputable def m__law_bag : MS := sRet (eLst (aC (eBN bList (aC (eSl (eV 0) (oN) (oS (eC (.int 63)))) (aN))) (aC (eC (.int 0)) (aC (eC (.int 0)) (aC (eC (.int 313)) (aN))))))
noncomputable def d__law_bag : MD := ⟨1, 1, m__law_bag⟩
noncomputable def m__law_pull : MS := sSeq (sIf (tVal (eB2 vGe (eB2 vIdxD (eV 0) (eC (.int 2))) (eV 1))) (sSeq (sAsg (eB2 vMod (eB2 vIdxD (eV 0) (eC (.int 2))) (eV 1)) (gV 2)) (sSeq (sAsg (eB2 vDiv (eB2 vIdxD (eV 0) (eC (.int 2))) (eV 1)) (gSub setD (eV 0) (eC (.int 2)))) (sRet (eV 2)))) (sNil)) (sSeq (sAsg (eC (.int 0)) (gV 3)) (sSeq (sIf (tVal (eB2 vLt (eB2 vIdxD (eV 0) (eC (.int 1))) (eBN bLen (aC (eB2 vIdxD (eV 0) (eC (.int 0))) (aN))))) (sAsg (eB2 vIdxD (eB2 vIdxD (eV 0) (eC (.int 0))) (eB2 vIdxD (eV 0) (eC (.int 1)))) (gV 3)) (sNil)) (sSeq (sAsg (eB2 vAdd (eB2 vIdxD (eV 0) (eC (.int 1))) (eC (.int 1))) (gSub setD (eV 0) (eC (.int 1)))) (sSeq (sIf (tVal (eB2 vGe (eV 3) (eB2 vPow (eC (.int 10)) (eC (.int 18))))) (sSeq (sAsg (eB2 vDiv (eV 3) (eV 1)) (gSub setD (eV 0) (eC (.int 2)))) (sRet (eB2 vMod (eV 3) (eV 1)))) (sNil)) (sSeq (sAsg (eB2 vMod (eB2 vAdd (eB2 vAdd (eB2 vAdd (eB2 vPow (eB2 vIdxD (eV 0) (eC (.int 3))) (eC (.int 5))) (eB2 vMul (eC (.int 69069)) (eB2 vIdxD (eV 0) (eC (.int 1))))) (eB2 vMod (eV 3) (eC (.int 1000003)))) (eC (.int 7))) (eC (.int 2147483629))) (gSub setD (eV 0) (eC (.int 3)))) (sRet (eB2 vMod (eB2 vAdd (eB2 vDiv (eB2 vIdxD (eV 0) (eC (.int 3))) (eC (.int 9))) (eV 3)) (eV 1))))))))
noncomputable def d__law_pull : MD := ⟨2, 4, m__law_pull⟩
noncomputable def m__law_like : MS := sSeq (sIf (tVal (eBN bIsi (aC (eV 1) (aC (eTup (aC (eC (.ty .tup)) (aC (eC (.ty .lst)) (aN)))) (aN))))) (sSeq (sIf (tVal (eB2 vNe (eBN bIsi (aC (eV 0) (aC (eC (.ty .tup)) (aN)))) (eBN bIsi (aC (eV 1) (aC (eC (.ty .tup)) (aN)))))) (sRet (eC (.bl false))) (sNil)) (sSeq (sIf (tOr (tNot (tVal (eBN bIsi (aC (eV 0) (aC (eTup (aC (eC (.ty .tup)) (aC (eC (.ty .lst)) (aN)))) (aN)))))) (tVal (eB2 vNe (eBN bLen (aC (eV 0) (aN))) (eBN bLen (aC (eV 1) (aN)))))) (sRet (eC (.bl false))) (sNil)) (sRet (eBN bAll (aC (eComp [2] (iRange1 (aC (eBN bLen (aC (eV 1) (aN))) (aN))) (gV 2) (tYes) (eCall "_law_like" (aC (eB2 vIdxD (eV 0) (eV 2)) (aC (eB2 vIdxD (eV 1) (eV 2)) (aN))) id)) (aN)))))) (sNil)) (sSeq (sIf (tVal (eBN bIsi (aC (eV 1) (aC (eC (.ty .bl)) (aN))))) (sRet (eAnd (eBN bIsi (aC (eV 0) (aC (eC (.ty .bl)) (aN)))) (eB2 vEq (eV 0) (eV 1)))) (sNil)) (sSeq (sIf (tVal (eBN bIsi (aC (eV 1) (aC (eC (.ty .int)) (aN))))) (sRet (eAnd (eBN bIsi (aC (eV 0) (aC (eC (.ty .int)) (aN)))) (eAnd (eNot (eBN bIsi (aC (eV 0) (aC (eC (.ty .bl)) (aN))))) (eB2 vEq (eV 0) (eV 1))))) (sNil)) (sSeq (sIf (tVal (eBN bIsi (aC (eV 1) (aC (eC (.ty .str)) (aN))))) (sRet (eAnd (eBN bIsi (aC (eV 0) (aC (eC (.ty .str)) (aN)))) (eB2 vEq (eV 0) (eV 1)))) (sNil)) (sRet (eAnd (eB2 vIsN (eV 1) (eC .non)) (eB2 vIsN (eV 0) (eC .non)))))))
noncomputable def d__law_like : MD := ⟨2, 3, m__law_like⟩
noncomputable def m__law_names : MS := sSeq (sAsg (eB2 vIdxD (eLst (aC (eC (.str "")) (aC (eC (.str "1")) (aC (eC (.str "x9")) (aC (eC (.str "longest")) (aC (eC (.str "zz")) (aN))))))) (eCall "_law_pull" (aC (eV 0) (aC (eC (.int 5)) (aN))) id)) (gV 2)) (sSeq (sAsg (eCall "_law_pull" (aC (eV 0) (aC (eC (.int 26)) (aN))) id) (gV 3)) (sSeq (sAsg (eC (.str "abcdefghijklmnopqrstuvwxyz")) (gV 4)) (sSeq (sAsg (eLst (aN)) (gV 5)) (sSeq (sFor (iRange1 (aC (eV 1) (aN))) (gV 6) (sSeq (sAsg (eB2 vIdxD (eV 4) (eB2 vMod (eB2 vAdd (eV 3) (eB2 vMul (eC (.int 5)) (eV 6))) (eC (.int 26)))) (gV 7)) (sExp (eBM .lst mAppend (eV 5) (aC (eIf (tVal (eB2 vLt (eV 6) (eC (.int 26)))) (eB2 vAdd (eV 7) (eV 2)) (eB2 vAdd (eB2 vAdd (eV 7) (eBN bStr (aC (eB2 vDiv (eV 6) (eC (.int 26))) (aN)))) (eSl (eV 2) (oN) (oS (eC (.int 6)))))) (aN)))))) (sRet (eV 5))))))
noncomputable def d__law_names : MD := ⟨2, 8, m__law_names⟩
noncomputable def m__law_total : MS := sSeq (sAsg (eLst (aN)) (gV 1)) (sSeq (sFor (iVal (eV 0)) (gTup [gV 2, gV 3]) (sIf (tVal (eB2 vNotInD (eV 2) (eV 1))) (sExp (eBM .lst mAppend (eV 1) (aC (eV 2) (aN)))) (sNil))) (sSeq (sAsg (eLst (aN)) (gV 4)) (sSeq (sFor (iVal (eBN bSorted (aC (eV 1) (aN)))) (gV 2) (sSeq (sAsg (eBN bSum (aC (eComp [6, 3] (iVal (eV 0)) (gTup [gV 6, gV 3]) (tVal (eB2 vEq (eV 6) (eV 2))) (eV 3)) (aN))) (gV 5)) (sIf (tVal (eB2 vNe (eV 5) (eC (.int 0)))) (sExp (eBM .lst mAppend (eV 4) (aC (eTup (aC (eV 2) (aC (eV 5) (aN)))) (aN)))) (sNil)))) (sRet (eBN bTuple (aC (eV 4) (aN)))))))
noncomputable def d__law_total : MD := ⟨1, 7, m__law_total⟩
noncomputable def m__law_parted : MS := sSeq (sIf (tVal (eB2 vLt (eV 1) (eC (.int 2)))) (sRet (eC .non)) (sNil)) (sSeq (sIf (tVal (eBN bAny (aC (eComp [2, 3] (iVal (eB2 vIdxD (eV 0) (eC (.int 0)))) (gTup [gV 2, gV 3]) (tYes) (eB2 vNe (eB2 vSub (eV 3) (eB2 vMul (eB2 vDiv (eV 3) (eV 1)) (eV 1))) (eC (.int 0)))) (aN)))) (sRet (eC .non)) (sNil)) (sRet (eTup (aC (eBN bTuple (aC (eComp [2, 3] (iVal (eB2 vIdxD (eV 0) (eC (.int 0)))) (gTup [gV 2, gV 3]) (tYes) (eTup (aC (eV 2) (aC (eB2 vDiv (eV 3) (eV 1)) (aN))))) (aN))) (aC (eB2 vDiv (eB2 vIdxD (eV 0) (eC (.int 1))) (eV 1)) (aC (eC (.bl false)) (aN)))))))
noncomputable def d__law_parted : MD := ⟨2, 4, m__law_parted⟩
noncomputable def m__law_some_pairs : MS := sSeq (sAsg (eLst (aN)) (gV 3)) (sSeq (sFor (iRange1 (aC (eCall "_law_pull" (aC (eV 0) (aC (eC (.int 7)) (aN))) id) (aN))) (gV 4) (sExp (eBM .lst mAppend (eV 3) (aC (eTup (aC (eB2 vIdxD (eV 1) (eCall "_law_pull" (aC (eV 0) (aC (eBN bLen (aC (eV 1) (aN))) (aN))) id)) (aC (eB2 vSub (eCall "_law_pull" (aC (eV 0) (aC (eV 2) (aN))) id) (eB2 vDiv (eV 2) (eC (.int 2)))) (aN)))) (aN))))) (sRet (eV 3)))
noncomputable def d__law_some_pairs : MD := ⟨3, 5, m__law_some_pairs⟩
noncomputable def m_law : MS := sSeq (sAsg (eCall "_law_bag" (aC (eV 0) (aN)) id) (gV 1)) (sSeq (sAsg (eCall "_law_names" (aC (eV 1) (aC (eC (.int 4)) (aN))) id) (gV 2)) (sSeq (sAsg (eB2 vIdxD (eLst (aC (eC (.int 3)) (aC (eC (.int 19)) (aC (eB2 vPow (eC (.int 10)) (eC (.int 21))) (aN))))) (eCall "_law_pull" (aC (eV 1) (aC (eC (.int 3)) (aN))) id)) (gV 3)) (sSeq (sAsg (eLst (aN)) (gV 4)) (sSeq (sFor (iRange1 (aC (eCall "_law_pull" (aC (eV 1) (aC (eC (.int 5)) (aN))) id) (aN))) (gV 5) (sSeq (sAsg (eCall "_law_some_pairs" (aC (eV 1) (aC (eV 2) (aC (eV 3) (aN)))) id) (gV 6)) (sSeq (sAsg (eBN bList (aC (eV 6) (aN))) (gV 7)) (sSeq (sAsg (eB2 vSub (eCall "_law_pull" (aC (eV 1) (aC (eV 3) (aN))) id) (eB2 vDiv (eV 3) (eC (.int 2)))) (gV 8)) (sSeq (sAsg (eB2 vEq (eCall "_law_pull" (aC (eV 1) (aC (eC (.int 2)) (aN))) id) (eC (.int 0))) (gV 9)) (sSeq (sAsg (eCallK "row" [.pos 0, .kw 1, .kw 0] [] 1 2 (aC (eV 6) (aN)) (aC (eV 9) (aC (eV 8) (aN)))) (gV 10)) (sSeq (sIf (tNot (tVal (eCall "_law_like" (aC (eLst (aC (eV 10) (aC (eV 6) (aN)))) (aC (eLst (aC (eTup (aC (eCall "_law_total" (aC (eV 7) (aN)) id) (aC (eV 8) (aC (eV 9) (aN))))) (aC (eV 7) (aN)))) (aN))) id))) (sRet (eC (.bl false))) (sNil)) (sSeq (sIf (tNot (tVal (eCall "_law_like" (aC (eCallK "row" [.pos 0, .pos 1, .dfl 0] [(.bl false)] 2 0 (aC (eV 6) (aC (eV 8) (aN))) (aN)) (aC (eTup (aC (eCall "_law_total" (aC (eV 7) (aN)) id) (aC (eV 8) (aC (eC (.bl false)) (aN))))) (aN))) id))) (sRet (eC (.bl false))) (sNil)) (sExp (eBM .lst mAppend (eV 4) (aC (eTup (aC (eV 10) (aC (eB2 vIdxD (eLst (aC (eC (.int 1)) (aC (eB1 vNeg (eC (.int 1))) (aC (eC (.int 2)) (aC (eC (.int 3)) (aC (eB1 vNeg (eC (.int 4))) (aC (eB2 vPow (eC (.int 10)) (eC (.int 6))) (aN)))))))) (eCall "_law_pull" (aC (eV 1) (aC (eC (.int 6)) (aN))) id)) (aN)))) (aN)))))))))))) (sSeq (sAsg (eLst (aN)) (gV 6)) (sSeq (sFor (iVal (eV 4)) (gTup [gV 10, gV 11]) (sExp (eBM .lst mExtend (eV 6) (aC (eComp [17, 18] (iVal (eB2 vIdxD (eV 10) (eC (.int 0)))) (gTup [gV 17, gV 18]) (tYes) (eTup (aC (eV 17) (aC (eB2 vMul (eV 18) (eV 11)) (aN))))) (aN))))) (sSeq (sAsg (eBN bList (aC (eV 4) (aN))) (gV 7)) (sSeq (sAsg (eBN bSum (aC (eComp [10, 11] (iVal (eV 4)) (gTup [gV 10, gV 11]) (tYes) (eB2 vMul (eB2 vIdxD (eV 10) (eC (.int 1))) (eV 11))) (aN))) (gV 8)) (sSeq (sAsg (eTup (aC (eCall "_law_total" (aC (eV 6) (aN)) id) (aC (eV 8) (aC (eBN bAll (aC (eComp [10, 11] (iVal (eV 4)) (gTup [gV 10, gV 11]) (tYes) (eB2 vIdxD (eV 10) (eC (.int 2)))) (aN))) (aN))))) (gV 12)) (sSeq (sIf (tNot (tVal (eCall "_law_like" (aC (eLst (aC (eCall "summed" (aC (eV 4) (aN)) id) (aC (eV 4) (aN)))) (aC (eLst (aC (eV 12) (aC (eV 7) (aN)))) (aN))) id))) (sRet (eC (.bl false))) (sNil)) (sSeq (sFor (iVal (eLst (aC (eB2 vSub (eCall "_law_pull" (aC (eV 1) (aC (eC (.int 8)) (aN))) id) (eC (.int 1))) (aC (eC (.int 2)) (aC (eC (.int 3)) (aN)))))) (gV 13) (sSeq (sAsg (eB2 vAdd (eC (.int 1)) (eCall "_law_pull" (aC (eV 1) (aC (eC (.int 5)) (aN))) id)) (gV 14)) (sSeq (sAsg (eTup (aC (eBN bTuple (aC (eComp [17, 18] (iVal (eB2 vIdxD (eV 12) (eC (.int 0)))) (gTup [gV 17, gV 18]) (tYes) (eTup (aC (eV 17) (aC (eB2 vMul (eV 18) (eV 14)) (aN))))) (aN))) (aC (eB2 vIdxD (eV 12) (eC (.int 1))) (aC (eB2 vIdxD (eV 12) (eC (.int 2))) (aN))))) (gV 15)) (sFor (iVal (eLst (aC (eV 12) (aC (eV 15) (aN))))) (gV 10) (sIf (tNot (tVal (eCall "_law_like" (aC (eCall "divided" (aC (eV 10) (aC (eV 13) (aN))) id) (aC (eCall "_law_parted" (aC (eV 10) (aC (eV 13) (aN))) id) (aN))) id))) (sRet (eC (.bl false))) (sNil)))))) (sSeq (sAsg (eCallK "row" [.pos 0, .pos 1, .dfl 0] [(.bl false)] 2 0 (aC (eLst (aC (eTup (aC (eC (.str "b")) (aC (eC (.int 1)) (aN)))) (aC (eTup (aC (eC (.str "ab")) (aC (eC (.int 1)) (aN)))) (aC (eTup (aC (eC (.str "a1")) (aC (eC (.int 1)) (aN)))) (aC (eTup (aC (eC (.str "a")) (aC (eC (.int 1)) (aN)))) (aN)))))) (aC (eC (.int 0)) (aN))) (aN)) (gV 16)) (sRet (eCall "_law_like" (aC (eV 16) (aC (eTup (aC (eTup (aC (eTup (aC (eC (.str "a")) (aC (eC (.int 1)) (aN)))) (aC (eTup (aC (eC (.str "a1")) (aC (eC (.int 1)) (aN)))) (aC (eTup (aC (eC (.str "ab")) (aC (eC (.int 1)) (aN)))) (aC (eTup (aC (eC (.str "b")) (aC (eC (.int 1)) (aN)))) (aN)))))) (aC (eC (.int 0)) (aC (eC (.bl false)) (aN))))) (aN))) id))))))))))))))
noncomputable def d_law : MD := ⟨1, 19, m_law⟩
noncomputable def defsL : List (Str × MD) := [("row", d_row), ("summed", d_summed), ("divided", d_divided), ("_law_bag", d__law_bag), ("_law_pull", d__law_pull), ("_law_like", d__law_like), ("_law_names", d__law_names), ("_law_total", d__law_total), ("_law_parted", d__law_parted), ("_law_some_pairs", d__law_some_pairs), ("law", d_law)]
noncomputable def Pr : Prg := ⟨fun x => defsL.lookup x, fun _ _ => none⟩
theorem pr_row : Pr.defs "row" = some d_row := by kernel_rfl
theorem pr_summed : Pr.defs "summed" = some d_summed := by kernel_rfl
theorem pr_divided : Pr.defs "divided" = some d_divided := by kernel_rfl
theorem pr__law_bag : Pr.defs "_law_bag" = some d__law_bag := by kernel_rfl
theorem pr__law_pull : Pr.defs "_law_pull" = some d__law_pull := by kernel_rfl
theorem pr__law_like : Pr.defs "_law_like" = some d__law_like := by kernel_rfl
theorem pr__law_names : Pr.defs "_law_names" = some d__law_names := by kernel_rfl
theorem pr__law_total : Pr.defs "_law_total" = some d__law_total := by kernel_rfl
theorem pr__law_parted : Pr.defs "_law_parted" = some d__law_parted := by kernel_rfl
theorem pr__law_some_pairs : Pr.defs "_law_some_pairs" = some d__law_some_pairs := by kernel_rfl
theorem pr_law : Pr.defs "law" = some d_law := by kernel_rfl
end Law_k10
namespace Law_k10
open PySem PySem.Spec PyProof.Rows L2 MM
def top (i : Nat) : Stmt := PySem.Challenge.pw_webassize_k10_rows_added_and_divided.main.body.getD i (.Pass ⟨0, 0, 0, 0⟩)
theorem nv_at : (("at" : Str) == ("__debug__" : Str)) = false ∧ (("at" : Str) == ("__classdict__" : Str)) = false := ⟨by decide, by decide⟩
theorem nv_bag : (("bag" : Str) == ("__debug__" : Str)) = false ∧ (("bag" : Str) == ("__classdict__" : Str)) = false := ⟨by decide, by decide⟩
theorem nv_bound : (("bound" : Str) == ("__debug__" : Str)) = false ∧ (("bound" : Str) == ("__classdict__" : Str)) = false := ⟨by decide, by decide⟩
theorem nv_cap : (("cap" : Str) == ("__debug__" : Str)) = false ∧ (("cap" : Str) == ("__classdict__" : Str)) = false := ⟨by decide, by decide⟩
theorem nv_cell : (("cell" : Str) == ("__debug__" : Str)) = false ∧ (("cell" : Str) == ("__classdict__" : Str)) = false := ⟨by decide, by decide⟩
theorem nv_divisor : (("divisor" : Str) == ("__debug__" : Str)) = false ∧ (("divisor" : Str) == ("__classdict__" : Str)) = false := ⟨by decide, by decide⟩
theorem nv_due : (("due" : Str) == ("__debug__" : Str)) = false ∧ (("due" : Str) == ("__classdict__" : Str)) = false := ⟨by decide, by decide⟩
theorem nv_equal : (("equal" : Str) == ("__debug__" : Str)) = false ∧ (("equal" : Str) == ("__classdict__" : Str)) = false := ⟨by decide, by decide⟩
theorem nv_figure : (("figure" : Str) == ("__debug__" : Str)) = false ∧ (("figure" : Str) == ("__classdict__" : Str)) = false := ⟨by decide, by decide⟩
theorem nv_first : (("first" : Str) == ("__debug__" : Str)) = false ∧ (("first" : Str) == ("__classdict__" : Str)) = false := ⟨by decide, by decide⟩
theorem nv_flat : (("flat" : Str) == ("__debug__" : Str)) = false ∧ (("flat" : Str) == ("__classdict__" : Str)) = false := ⟨by decide, by decide⟩
theorem nv_found : (("found" : Str) == ("__debug__" : Str)) = false ∧ (("found" : Str) == ("__classdict__" : Str)) = false := ⟨by decide, by decide⟩
theorem nv_got : (("got" : Str) == ("__debug__" : Str)) = false ∧ (("got" : Str) == ("__classdict__" : Str)) = false := ⟨by decide, by decide⟩
theorem nv_great : (("great" : Str) == ("__debug__" : Str)) = false ∧ (("great" : Str) == ("__classdict__" : Str)) = false := ⟨by decide, by decide⟩
theorem nv_kept : (("kept" : Str) == ("__debug__" : Str)) = false ∧ (("kept" : Str) == ("__classdict__" : Str)) = false := ⟨by decide, by decide⟩
theorem nv_many : (("many" : Str) == ("__debug__" : Str)) = false ∧ (("many" : Str) == ("__classdict__" : Str)) = false := ⟨by decide, by decide⟩
theorem nv_mixed : (("mixed" : Str) == ("__debug__" : Str)) = false ∧ (("mixed" : Str) == ("__classdict__" : Str)) = false := ⟨by decide, by decide⟩
theorem nv_more : (("more" : Str) == ("__debug__" : Str)) = false ∧ (("more" : Str) == ("__classdict__" : Str)) = false := ⟨by decide, by decide⟩
theorem nv_name : (("name" : Str) == ("__debug__" : Str)) = false ∧ (("name" : Str) == ("__classdict__" : Str)) = false := ⟨by decide, by decide⟩
theorem nv_names : (("names" : Str) == ("__debug__" : Str)) = false ∧ (("names" : Str) == ("__classdict__" : Str)) = false := ⟨by decide, by decide⟩
theorem nv_number : (("number" : Str) == ("__debug__" : Str)) = false ∧ (("number" : Str) == ("__classdict__" : Str)) = false := ⟨by decide, by decide⟩
theorem nv_one : (("one" : Str) == ("__debug__" : Str)) = false ∧ (("one" : Str) == ("__classdict__" : Str)) = false := ⟨by decide, by decide⟩
theorem nv_other : (("other" : Str) == ("__debug__" : Str)) = false ∧ (("other" : Str) == ("__classdict__" : Str)) = false := ⟨by decide, by decide⟩
theorem nv_pairs : (("pairs" : Str) == ("__debug__" : Str)) = false ∧ (("pairs" : Str) == ("__classdict__" : Str)) = false := ⟨by decide, by decide⟩
theorem nv_row : (("row" : Str) == ("__debug__" : Str)) = false ∧ (("row" : Str) == ("__classdict__" : Str)) = false := ⟨by decide, by decide⟩
theorem nv_rows : (("rows" : Str) == ("__debug__" : Str)) = false ∧ (("rows" : Str) == ("__classdict__" : Str)) = false := ⟨by decide, by decide⟩
theorem nv_script : (("script" : Str) == ("__debug__" : Str)) = false ∧ (("script" : Str) == ("__classdict__" : Str)) = false := ⟨by decide, by decide⟩
theorem nv_signs : (("signs" : Str) == ("__debug__" : Str)) = false ∧ (("signs" : Str) == ("__classdict__" : Str)) = false := ⟨by decide, by decide⟩
theorem nv_size : (("size" : Str) == ("__debug__" : Str)) = false ∧ (("size" : Str) == ("__classdict__" : Str)) = false := ⟨by decide, by decide⟩
theorem nv_some : (("some" : Str) == ("__debug__" : Str)) = false ∧ (("some" : Str) == ("__classdict__" : Str)) = false := ⟨by decide, by decide⟩
theorem nv_start : (("start" : Str) == ("__debug__" : Str)) = false ∧ (("start" : Str) == ("__classdict__" : Str)) = false := ⟨by decide, by decide⟩
theorem nv_tail : (("tail" : Str) == ("__debug__" : Str)) = false ∧ (("tail" : Str) == ("__classdict__" : Str)) = false := ⟨by decide, by decide⟩
theorem nv_top : (("top" : Str) == ("__debug__" : Str)) = false ∧ (("top" : Str) == ("__classdict__" : Str)) = false := ⟨by decide, by decide⟩
theorem nv_total : (("total" : Str) == ("__debug__" : Str)) = false ∧ (("total" : Str) == ("__classdict__" : Str)) = false := ⟨by decide, by decide⟩
theorem nv_totals : (("totals" : Str) == ("__debug__" : Str)) = false ∧ (("totals" : Str) == ("__classdict__" : Str)) = false := ⟨by decide, by decide⟩
theorem nv_weight : (("weight" : Str) == ("__debug__" : Str)) = false ∧ (("weight" : Str) == ("__classdict__" : Str)) = false := ⟨by decide, by decide⟩
theorem nv_wide : (("wide" : Str) == ("__debug__" : Str)) = false ∧ (("wide" : Str) == ("__classdict__" : Str)) = false := ⟨by decide, by decide⟩
theorem nb__law_bag : (("_law_bag" : Str) == ("__debug__" : Str)) = false := by decide
theorem nb__law_like : (("_law_like" : Str) == ("__debug__" : Str)) = false := by decide
theorem nb__law_names : (("_law_names" : Str) == ("__debug__" : Str)) = false := by decide
theorem nb__law_parted : (("_law_parted" : Str) == ("__debug__" : Str)) = false := by decide
theorem nb__law_pull : (("_law_pull" : Str) == ("__debug__" : Str)) = false := by decide
theorem nb__law_some_pairs : (("_law_some_pairs" : Str) == ("__debug__" : Str)) = false := by decide
theorem nb__law_total : (("_law_total" : Str) == ("__debug__" : Str)) = false := by decide
theorem nb_all : (("all" : Str) == ("__debug__" : Str)) = false := by decide
theorem nb_any : (("any" : Str) == ("__debug__" : Str)) = false := by decide
theorem nb_bool : (("bool" : Str) == ("__debug__" : Str)) = false := by decide
theorem nb_divided : (("divided" : Str) == ("__debug__" : Str)) = false := by decide
theorem nb_int : (("int" : Str) == ("__debug__" : Str)) = false := by decide
theorem nb_isinstance : (("isinstance" : Str) == ("__debug__" : Str)) = false := by decide
theorem nb_len : (("len" : Str) == ("__debug__" : Str)) = false := by decide
theorem nb_list : (("list" : Str) == ("__debug__" : Str)) = false := by decide
theorem nb_row : (("row" : Str) == ("__debug__" : Str)) = false := by decide
theorem nb_sorted : (("sorted" : Str) == ("__debug__" : Str)) = false := by decide
theorem nb_str : (("str" : Str) == ("__debug__" : Str)) = false := by decide
theorem nb_sum : (("sum" : Str) == ("__debug__" : Str)) = false := by decide
theorem nb_summed : (("summed" : Str) == ("__debug__" : Str)) = false := by decide
theorem nb_tuple : (("tuple" : Str) == ("__debug__" : Str)) = false := by decide
theorem nn_all : ("all" : Str) ≠ "__name__" := by decide
theorem nn_any : ("any" : Str) ≠ "__name__" := by decide
theorem nn_bool : ("bool" : Str) ≠ "__name__" := by decide
theorem nn_int : ("int" : Str) ≠ "__name__" := by decide
theorem nn_isinstance : ("isinstance" : Str) ≠ "__name__" := by decide
theorem nn_len : ("len" : Str) ≠ "__name__" := by decide
theorem nn_list : ("list" : Str) ≠ "__name__" := by decide
theorem nn_sorted : ("sorted" : Str) ≠ "__name__" := by decide
theorem nn_str : ("str" : Str) ≠ "__name__" := by decide
theorem nn_sum : ("sum" : Str) ≠ "__name__" := by decide
theorem nn_tuple : ("tuple" : Str) ≠ "__name__" := by decide
abbrev N_row : List Str := ["pairs", "bound", "equal", "totals", "name", "number", "found"]
theorem sc_row : FnScope N_row ["pairs", "bound", "equal"] (defScope (top 1)) := ⟨rfl, rfl, rfl, by decide +kernel, rfl, by decide +kernel, by decide +kernel⟩
abbrev N_summed : List Str := ["rows", "pairs", "bound", "some", "top", "equal", "weight", "name", "number", "one"]
theorem sc_summed : FnScope N_summed ["rows"] (defScope (top 2)) := ⟨rfl, rfl, rfl, by decide +kernel, rfl, by decide +kernel, by decide +kernel⟩
abbrev N_divided : List Str := ["row", "divisor", "pairs", "bound", "equal", "name", "number"]
theorem sc_divided : FnScope N_divided ["row", "divisor"] (defScope (top 3)) := ⟨rfl, rfl, rfl, by decide +kernel, rfl, by decide +kernel, by decide +kernel⟩
abbrev N__law_bag : List Str := ["script"]
theorem sc__law_bag : FnScope N__law_bag ["script"] (defScope (top 5)) := ⟨rfl, rfl, rfl, by decide +kernel, rfl, by decide +kernel, by decide +kernel⟩
abbrev N__law_pull : List Str := ["bag", "size", "got", "cell"]
theorem sc__law_pull : FnScope N__law_pull ["bag", "size"] (defScope (top 6)) := ⟨rfl, rfl, rfl, by decide +kernel, rfl, by decide +kernel, by decide +kernel⟩
abbrev N__law_like : List Str := ["one", "due", "at"]
theorem sc__law_like : FnScope N__law_like ["one", "due"] (defScope (top 7)) := ⟨rfl, rfl, rfl, by decide +kernel, rfl, by decide +kernel, by decide +kernel⟩
abbrev N__law_names : List Str := ["bag", "many", "tail", "start", "signs", "some", "at", "first"]
theorem sc__law_names : FnScope N__law_names ["bag", "many"] (defScope (top 8)) := ⟨rfl, rfl, rfl, by decide +kernel, rfl, by decide +kernel, by decide +kernel⟩
abbrev N__law_total : List Str := ["pairs", "names", "name", "figure", "some", "total", "other"]
theorem sc__law_total : FnScope N__law_total ["pairs"] (defScope (top 9)) := ⟨rfl, rfl, rfl, by decide +kernel, rfl, by decide +kernel, by decide +kernel⟩
abbrev N__law_parted : List Str := ["one", "divisor", "name", "figure"]
theorem sc__law_parted : FnScope N__law_parted ["one", "divisor"] (defScope (top 10)) := ⟨rfl, rfl, rfl, by decide +kernel, rfl, by decide +kernel, by decide +kernel⟩
abbrev N__law_some_pairs : List Str := ["bag", "names", "great", "some", "at"]
theorem sc__law_some_pairs : FnScope N__law_some_pairs ["bag", "names", "great"] (defScope (top 11)) := ⟨rfl, rfl, rfl, by decide +kernel, rfl, by decide +kernel, by decide +kernel⟩
abbrev N_law : List Str := ["script", "bag", "names", "great", "rows", "at", "pairs", "kept", "cap", "flat", "one", "weight", "due", "divisor", "more", "wide", "mixed", "name", "figure"]
theorem sc_law : FnScope N_law ["script"] (defScope (top 12)) := ⟨rfl, rfl, rfl, by decide +kernel, rfl, by decide +kernel, by decide +kernel⟩
structure Fx (K : PySem.W.Frag) (mg : Str → Option Value) where
  fd_row : FuncData
  F_row : FunD K "row" "row" (defArgs (top 1)) (defBody (top 1)) (defScope (top 1)) [] [("equal", .bl false)] (He.ga K "row") fd_row
  g_row : mg "row" = some (.ref (He.ga K "row"))
  fd_summed : FuncData
  F_summed : FunD K "summed" "summed" (defArgs (top 2)) (defBody (top 2)) (defScope (top 2)) [] [] (He.ga K "summed") fd_summed
  g_summed : mg "summed" = some (.ref (He.ga K "summed"))
  fd_divided : FuncData
  F_divided : FunD K "divided" "divided" (defArgs (top 3)) (defBody (top 3)) (defScope (top 3)) [] [] (He.ga K "divided") fd_divided
  g_divided : mg "divided" = some (.ref (He.ga K "divided"))
  fd__law_bag : FuncData
  F__law_bag : FunD K "_law_bag" "_law_bag" (defArgs (top 5)) (defBody (top 5)) (defScope (top 5)) [] [] (He.ga K "_law_bag") fd__law_bag
  g__law_bag : mg "_law_bag" = some (.ref (He.ga K "_law_bag"))
  fd__law_pull : FuncData
  F__law_pull : FunD K "_law_pull" "_law_pull" (defArgs (top 6)) (defBody (top 6)) (defScope (top 6)) [] [] (He.ga K "_law_pull") fd__law_pull
  g__law_pull : mg "_law_pull" = some (.ref (He.ga K "_law_pull"))
  fd__law_like : FuncData
  F__law_like : FunD K "_law_like" "_law_like" (defArgs (top 7)) (defBody (top 7)) (defScope (top 7)) [] [] (He.ga K "_law_like") fd__law_like
  g__law_like : mg "_law_like" = some (.ref (He.ga K "_law_like"))
  fd__law_names : FuncData
  F__law_names : FunD K "_law_names" "_law_names" (defArgs (top 8)) (defBody (top 8)) (defScope (top 8)) [] [] (He.ga K "_law_names") fd__law_names
  g__law_names : mg "_law_names" = some (.ref (He.ga K "_law_names"))
  fd__law_total : FuncData
  F__law_total : FunD K "_law_total" "_law_total" (defArgs (top 9)) (defBody (top 9)) (defScope (top 9)) [] [] (He.ga K "_law_total") fd__law_total
  g__law_total : mg "_law_total" = some (.ref (He.ga K "_law_total"))
  fd__law_parted : FuncData
  F__law_parted : FunD K "_law_parted" "_law_parted" (defArgs (top 10)) (defBody (top 10)) (defScope (top 10)) [] [] (He.ga K "_law_parted") fd__law_parted
  g__law_parted : mg "_law_parted" = some (.ref (He.ga K "_law_parted"))
  fd__law_some_pairs : FuncData
  F__law_some_pairs : FunD K "_law_some_pairs" "_law_some_pairs" (defArgs (top 11)) (defBody (top 11)) (defScope (top 11)) [] [] (He.ga K "_law_some_pairs") fd__law_some_pairs
  g__law_some_pairs : mg "_law_some_pairs" = some (.ref (He.ga K "_law_some_pairs"))
  fd_law : FuncData
  F_law : FunD K "law" "law" (defArgs (top 12)) (defBody (top 12)) (defScope (top 12)) [] [] (He.ga K "law") fd_law
  g_law : mg "law" = some (.ref (He.ga K "law"))
  b_all : mg "all" = none
  b_any : mg "any" = none
  b_bool : mg "bool" = none
  b_int : mg "int" = none
  b_isinstance : mg "isinstance" = none
  b_len : mg "len" = none
  b_list : mg "list" = none
  b_range : mg "range" = none
  b_sorted : mg "sorted" = none
  b_str : mg "str" = none
  b_sum : mg "sum" = none
  b_tuple : mg "tuple" = none
section
variable {P : Program} {w : World} {K : PySem.W.Frag} {mg : Str → Option Value} {base : Heap} {k : Nat}
theorem bn_summed (T : Fx K mg) : Binds K T.fd_summed ["rows"] [] := T.F_summed.bindsN fun _ _ _ _ _ _ us hl => match us, hl with | [_], _ => rfl
theorem bn_divided (T : Fx K mg) : Binds K T.fd_divided ["row", "divisor"] [] := T.F_divided.bindsN fun _ _ _ _ _ _ us hl => match us, hl with | [_, _], _ => rfl
theorem bn__law_bag (T : Fx K mg) : Binds K T.fd__law_bag ["script"] [] := T.F__law_bag.bindsN fun _ _ _ _ _ _ us hl => match us, hl with | [_], _ => rfl
theorem bn__law_pull (T : Fx K mg) : Binds K T.fd__law_pull ["bag", "size"] [] := T.F__law_pull.bindsN fun _ _ _ _ _ _ us hl => match us, hl with | [_, _], _ => rfl
theorem bn__law_like (T : Fx K mg) : Binds K T.fd__law_like ["one", "due"] [] := T.F__law_like.bindsN fun _ _ _ _ _ _ us hl => match us, hl with | [_, _], _ => rfl
theorem bn__law_names (T : Fx K mg) : Binds K T.fd__law_names ["bag", "many"] [] := T.F__law_names.bindsN fun _ _ _ _ _ _ us hl => match us, hl with | [_, _], _ => rfl
theorem bn__law_total (T : Fx K mg) : Binds K T.fd__law_total ["pairs"] [] := T.F__law_total.bindsN fun _ _ _ _ _ _ us hl => match us, hl with | [_], _ => rfl
theorem bn__law_parted (T : Fx K mg) : Binds K T.fd__law_parted ["one", "divisor"] [] := T.F__law_parted.bindsN fun _ _ _ _ _ _ us hl => match us, hl with | [_, _], _ => rfl
theorem bn__law_some_pairs (T : Fx K mg) : Binds K T.fd__law_some_pairs ["bag", "names", "great"] [] := T.F__law_some_pairs.bindsN fun _ _ _ _ _ _ us hl => match us, hl with | [_, _, _], _ => rfl
theorem bn_law (T : Fx K mg) : Binds K T.fd_law ["script"] [] := T.F_law.bindsN fun _ _ _ _ _ _ us hl => match us, hl with | [_], _ => rfl
theorem kb_row_0 (T : Fx K mg) : KB K T.fd_row ["pairs", "bound", "equal"] 2 ["equal"] [.pos 0, .pos 1, .kw 0] [] := kb0 T.F_row 2 ["equal"] [] [.pos 0, .pos 1, .kw 0] (by simp) (by simp) fun D doc pm an cdv ct us mv ws h1 h2 h3 => match us, mv, ws, h1, h2, h3 with | [_, _], [], [_], _, _, _ => rfl
theorem kb_row_1 (T : Fx K mg) : KB K T.fd_row ["pairs", "bound", "equal"] 1 ["equal", "bound"] [.pos 0, .kw 1, .kw 0] [] := kb0 T.F_row 1 ["equal", "bound"] [] [.pos 0, .kw 1, .kw 0] (by simp) (by simp) fun D doc pm an cdv ct us mv ws h1 h2 h3 => match us, mv, ws, h1, h2, h3 with | [_], [], [_, _], _, _, _ => rfl
theorem kb_row_2 (T : Fx K mg) : KB K T.fd_row ["pairs", "bound", "equal"] 2 [] [.pos 0, .pos 1, .dfl 0] [(.bl false)] := kb0 T.F_row 2 [] [("equal", .bl false)] [.pos 0, .pos 1, .dfl 0] (by simp) (by simp) fun D doc pm an cdv ct us mv ws h1 h2 h3 => match us, mv, ws, h1, h2, h3 with | [_, _], [_], [], _, _, _ => ⟨_, _, _, _, _, _, rfl, rfl, rfl⟩
structure Oks (P : Program) (w : World) (K : PySem.W.Frag) (mg : Str → Option Value) (base : Heap) (T : Fx K mg) (k : Nat) : Prop where
  row : FnOk P w K mg base (L2.CX P w) k (He.ga K "row") T.fd_row ["pairs", "bound", "equal"] (spM K Pr k "row")
  summed : FnOk P w K mg base (L2.CX P w) k (He.ga K "summed") T.fd_summed ["rows"] (spM K Pr k "summed")
  divided : FnOk P w K mg base (L2.CX P w) k (He.ga K "divided") T.fd_divided ["row", "divisor"] (spM K Pr k "divided")
  _law_bag : FnOk P w K mg base (L2.CX P w) k (He.ga K "_law_bag") T.fd__law_bag ["script"] (spM K Pr k "_law_bag")
  _law_pull : FnOk P w K mg base (L2.CX P w) k (He.ga K "_law_pull") T.fd__law_pull ["bag", "size"] (spM K Pr k "_law_pull")
  _law_like : FnOk P w K mg base (L2.CX P w) k (He.ga K "_law_like") T.fd__law_like ["one", "due"] (spM K Pr k "_law_like")
  _law_names : FnOk P w K mg base (L2.CX P w) k (He.ga K "_law_names") T.fd__law_names ["bag", "many"] (spM K Pr k "_law_names")
  _law_total : FnOk P w K mg base (L2.CX P w) k (He.ga K "_law_total") T.fd__law_total ["pairs"] (spM K Pr k "_law_total")
  _law_parted : FnOk P w K mg base (L2.CX P w) k (He.ga K "_law_parted") T.fd__law_parted ["one", "divisor"] (spM K Pr k "_law_parted")
  _law_some_pairs : FnOk P w K mg base (L2.CX P w) k (He.ga K "_law_some_pairs") T.fd__law_some_pairs ["bag", "names", "great"] (spM K Pr k "_law_some_pairs")
  law : FnOk P w K mg base (L2.CX P w) k (He.ga K "law") T.fd_law ["script"] (spM K Pr k "law")
theorem ok_row (T : Fx K mg) (O : Oks P w K mg base T k) : FnOk P w K mg base (L2.CX P w) (k + 1) (He.ga K "row") T.fd_row ["pairs", "bound", "equal"] (spM K Pr (k + 1) "row") := by
  refine T.F_row.ok sc_row (spM_len (fun d h => by rw [pr_row] at h; cases h; rfl)) (fun cdv A outer s H vs Q E hr h => ⟨_, ?_, body_ok (d := d_row) pr_row rfl h⟩)
  have hu := hu_of hr
  have hp := passes_of (X := cxOf (L2.CX P w) P w K mg base N_row "row" (defScope (top 1)) (He.ga K "row") cdv A outer s H E) rfl
  have hx := passAt (takes_of (X := cxOf (L2.CX P w) P w K mg base N_row "row" (defScope (top 1)) (He.ga K "row") cdv A outer s H E) rfl rfl rfl rfl)
  show PSs _ _ (tS K (fun cls dd _ H' => E cls dd H') (Pr.ctx k) m_row)
  exact psm_cons (psm_set (fun _ h => ps_set sc_row.nd rfl (.inr rfl) h rfl (.inl rfl)) (pm_dict0)) (psm_cons (psm_for hp rfl (pim_val (xv 0 rfl (.inl rfl) nv_pairs)) (pgm_tup rfl (tgs_cons slAny (pgm_v (pg_name sc_row.nd rfl (.inl rfl) (.inl rfl)) (fun _ _ => trivial)) (tgs_cons slAny (pgm_v (pg_name sc_row.nd rfl (.inl rfl) (.inl rfl)) (fun _ _ => trivial)) (tgs_nil slAny) rfl) rfl) rfl rfl rfl) (gOk_tup (gOks_cons (gOk_v) (gOks_cons (gOk_v) (gOks_nil)))) (psm_one (psm_asg' (pm_op om_add (pm_get2 hu (xv 3 rfl (.inr (.inl rfl)) nv_totals) (xv 4 rfl (.inl rfl) nv_name) (pm_int) ⟨rfl, rfl, rfl, rfl⟩) (xv 5 rfl (.inl rfl) nv_number)) (pgm_sub (W := W0) (xv 3 rfl (.inr (.inl rfl)) nv_totals) (xv 4 rfl (.inl rfl) nv_name) slAny (sm_set hu) (fun _ => rfl)) (gOk_sub) rfl rfl rfl)) (fun _ => rfl)) (psm_cons (psm_set (fun _ h => ps_set sc_row.nd rfl (.inl rfl) h rfl (.inl rfl)) (pm_callTy cm_tuple rfl T.b_tuple mb_ttuple (pa_c (xcomp [("name", 4)] rfl rfl sc_row.nd (pim_val (pm_callB (cm_sorted rfl) rfl T.b_sorted mb_sorted (pa_c (xv 3 rfl (.inr (.inl rfl)) nv_totals) (pa_n) rfl) nn_sorted nb_sorted rfl rfl)) (blkOk_by (N := N_row) (sc := defScope (top 1)) (by decide +kernel)) (gOk_v) (fun _ _ _ _ _ => pgm_v (pg_name sc_row.nd rfl (.inl rfl) (.inr rfl)) (SW_set (by decide))) (fun _ _ _ _ _ => pts_one (ptm_cmp om_ne (pm_ixD hu (xv 3 rfl (.inr (.inl rfl)) nv_totals) (xv 4 rfl (.inl rfl) nv_name) (fun _ _ => rfl)) (pm_int) (nomark _))) (fun _ _ _ _ _ => pm_tup (pa_c (xv 4 rfl (.inl rfl) nv_name) (pa_c (pm_ixD hu (xv 3 rfl (.inr (.inl rfl)) nv_totals) (xv 4 rfl (.inl rfl) nv_name) (fun _ _ => rfl)) (pa_n) rfl) rfl)) (fun _ => rfl)) (pa_n) rfl) nn_tuple nb_tuple rfl rfl)) (psm_one (psm_ret (pm_tup (pa_c (xv 6 rfl (.inl rfl) nv_found) (pa_c (xv 1 rfl (.inl rfl) nv_bound) (pa_c (xv 2 rfl (.inl rfl) nv_equal) (pa_n) rfl) rfl) rfl))))))
theorem ok_summed (T : Fx K mg) (O : Oks P w K mg base T k) : FnOk P w K mg base (L2.CX P w) (k + 1) (He.ga K "summed") T.fd_summed ["rows"] (spM K Pr (k + 1) "summed") := by
  refine T.F_summed.ok sc_summed (spM_len (fun d h => by rw [pr_summed] at h; cases h; rfl)) (fun cdv A outer s H vs Q E hr h => ⟨_, ?_, body_ok (d := d_summed) pr_summed rfl h⟩)
  have hu := hu_of hr
  have hp := passes_of (X := cxOf (L2.CX P w) P w K mg base N_summed "summed" (defScope (top 2)) (He.ga K "summed") cdv A outer s H E) rfl
  have hx := passAt (takes_of (X := cxOf (L2.CX P w) P w K mg base N_summed "summed" (defScope (top 2)) (He.ga K "summed") cdv A outer s H E) rfl rfl rfl rfl)
  show PSs _ _ (tS K (fun cls dd _ H' => E cls dd H') (Pr.ctx k) m_summed)
  exact psm_cons (psm_set (fun _ h => ps_set sc_summed.nd rfl (.inl rfl) h rfl (.inl rfl)) (pm_lst (pa_n))) (psm_cons (psm_set (fun _ h => ps_set sc_summed.nd rfl (.inl rfl) h rfl (.inl rfl)) (pm_int)) (psm_cons (psm_for hp rfl (pim_val (xv 0 rfl (.inl rfl) nv_rows)) (pgm_tup rfl (tgs_cons slAny (pgm_tup rfl (tgs_cons slAny (pgm_v (pg_name sc_summed.nd rfl (.inl rfl) (.inl rfl)) (fun _ _ => trivial)) (tgs_cons slAny (pgm_v (pg_name sc_summed.nd rfl (.inl rfl) (.inl rfl)) (fun _ _ => trivial)) (tgs_cons slAny (pgm_v (pg_name sc_summed.nd rfl (.inl rfl) (.inl rfl)) (fun _ _ => trivial)) (tgs_nil slAny) rfl) rfl) rfl) rfl rfl rfl) (tgs_cons slAny (pgm_v (pg_name sc_summed.nd rfl (.inr rfl) (.inl rfl)) (fun _ _ => trivial)) (tgs_nil slAny) rfl) rfl) rfl rfl rfl) (gOk_tup (gOks_cons (gOk_tup (gOks_cons (gOk_v) (gOks_cons (gOk_v) (gOks_cons (gOk_v) (gOks_nil))))) (gOks_cons (gOk_v) (gOks_nil)))) (psm_cons (psm_expr (pm_bm (.inl rfl) PySem.F.plainAttrs_list PySem.F.slot_list_extend PySem.F.type_list_extend mm_extend (xv 1 rfl (.inl rfl) nv_pairs) (pa_c (xcomp [("name", 7), ("number", 8)] rfl rfl sc_summed.nd (pim_val (xv 3 rfl (.inl rfl) nv_some)) (blkOk_by (N := N_summed) (sc := defScope (top 2)) (by decide +kernel)) (gOk_tup (gOks_cons (gOk_v) (gOks_cons (gOk_v) (gOks_nil)))) (fun _ _ _ _ _ => pgm_tup rfl (tgs_cons (slW _) (pgm_v (pg_name sc_summed.nd rfl (.inl rfl) (.inr rfl)) (SW_set (by decide))) (tgs_cons (slW _) (pgm_v (pg_name sc_summed.nd rfl (.inl rfl) (.inr rfl)) (SW_set (by decide))) (tgs_nil (slW _)) rfl) rfl) rfl rfl rfl) (fun _ _ _ _ _ => ptsm_nil) (fun _ _ _ _ _ => pm_tup (pa_c (xv 7 rfl (.inl rfl) nv_name) (pa_c (pm_op om_mul (xv 8 rfl (.inl rfl) nv_number) (xv 6 rfl (.inr (.inl rfl)) nv_weight)) (pa_n) rfl) rfl)) (fun _ => rfl)) (pa_n) rfl) rfl rfl rfl rfl rfl) rfl) (psm_one (psm_aug sc_summed.nd rfl (.inl rfl) (pm_op om_mul (xv 4 rfl (.inl rfl) nv_top) (xv 6 rfl (.inr (.inl rfl)) nv_weight)) ipm_add (.inl rfl)))) (fun _ => rfl)) (psm_one (psm_ret (xcallK rfl (O.row) hr rfl T.g_row T.F_row.kp (kb_row_0 T) hx (fun _ _ => rfl) (pa_c (xv 1 rfl (.inl rfl) nv_pairs) (pa_c (xv 2 rfl (.inl rfl) nv_bound) (pa_n) rfl) rfl) (pkm_cons (pm_callB (cm_all rfl) rfl T.b_all mb_all (pa_c (xcomp [("one", 9), ("weight", 6)] rfl rfl sc_summed.nd (pim_val (xv 0 rfl (.inl rfl) nv_rows)) (blkOk_by (N := N_summed) (sc := defScope (top 2)) (by decide +kernel)) (gOk_tup (gOks_cons (gOk_v) (gOks_cons (gOk_v) (gOks_nil)))) (fun _ _ _ _ _ => pgm_tup rfl (tgs_cons (slW _) (pgm_v (pg_name sc_summed.nd rfl (.inl rfl) (.inr rfl)) (SW_set (by decide))) (tgs_cons (slW _) (pgm_v (pg_name sc_summed.nd rfl (.inl rfl) (.inr rfl)) (SW_set (by decide))) (tgs_nil (slW _)) rfl) rfl) rfl rfl rfl) (fun _ _ _ _ _ => ptsm_nil) (fun _ _ _ _ _ => pm_ixD hu (xv 9 rfl (.inl rfl) nv_one) (pm_int) (fun _ _ => rfl)) (fun _ => rfl)) (pa_n) rfl) nn_all nb_all rfl rfl) (pkm_nil)) rfl rfl nb_row rfl rfl)))))
theorem ok_divided (T : Fx K mg) (O : Oks P w K mg base T k) : FnOk P w K mg base (L2.CX P w) (k + 1) (He.ga K "divided") T.fd_divided ["row", "divisor"] (spM K Pr (k + 1) "divided") := by
  refine T.F_divided.ok sc_divided (spM_len (fun d h => by rw [pr_divided] at h; cases h; rfl)) (fun cdv A outer s H vs Q E hr h => ⟨_, ?_, body_ok (d := d_divided) pr_divided rfl h⟩)
  have hu := hu_of hr
  have hp := passes_of (X := cxOf (L2.CX P w) P w K mg base N_divided "divided" (defScope (top 3)) (He.ga K "divided") cdv A outer s H E) rfl
  have hx := passAt (takes_of (X := cxOf (L2.CX P w) P w K mg base N_divided "divided" (defScope (top 3)) (He.ga K "divided") cdv A outer s H E) rfl rfl rfl rfl)
  show PSs _ _ (tS K (fun cls dd _ H' => E cls dd H') (Pr.ctx k) m_divided)
  exact psm_cons (psm_asg' (xv 0 rfl (.inl rfl) nv_row) (pgm_tup rfl (tgs_cons slAny (pgm_v (pg_name sc_divided.nd rfl (.inl rfl) (.inl rfl)) (fun _ _ => trivial)) (tgs_cons slAny (pgm_v (pg_name sc_divided.nd rfl (.inl rfl) (.inl rfl)) (fun _ _ => trivial)) (tgs_cons slAny (pgm_v (pg_name sc_divided.nd rfl (.inl rfl) (.inl rfl)) (fun _ _ => trivial)) (tgs_nil slAny) rfl) rfl) rfl) rfl rfl rfl) (gOk_tup (gOks_cons (gOk_v) (gOks_cons (gOk_v) (gOks_cons (gOk_v) (gOks_nil))))) rfl rfl rfl) (psm_cons (psm_if (PW.pt (pwm_or (ptm_cmp om_lt (xv 1 rfl (.inr (.inl rfl)) nv_divisor) (pm_int) (nomark _)) (pwm_or1 (pt_val' (pm_callB (cm_any rfl) rfl T.b_any mb_any (pa_c (xcomp [("name", 5), ("number", 6)] rfl rfl sc_divided.nd (pim_val (xv 2 rfl (.inl rfl) nv_pairs)) (blkOk_by (N := N_divided) (sc := defScope (top 3)) (by decide +kernel)) (gOk_tup (gOks_cons (gOk_v) (gOks_cons (gOk_v) (gOks_nil)))) (fun _ _ _ _ _ => pgm_tup rfl (tgs_cons (slW _) (pgm_v (pg_name sc_divided.nd rfl (.inl rfl) (.inr rfl)) (SW_set (by decide))) (tgs_cons (slW _) (pgm_v (pg_name sc_divided.nd rfl (.inl rfl) (.inr rfl)) (SW_set (by decide))) (tgs_nil (slW _)) rfl) rfl) rfl rfl rfl) (fun _ _ _ _ _ => ptsm_nil) (fun _ _ _ _ _ => pm_cmp om_ne (pm_op om_mod (xv 6 rfl (.inl rfl) nv_number) (xv 1 rfl (.inr (.inl rfl)) nv_divisor)) (pm_int) (nomark _)) (fun _ => rfl)) (pa_n) rfl) nn_any nb_any rfl rfl) (fun _ => rfl))))) (psm_one (psm_ret (pm_non))) (psm_nil)) (psm_one (psm_ret (pm_tup (pa_c (pm_callTy cm_tuple rfl T.b_tuple mb_ttuple (pa_c (xcomp [("name", 5), ("number", 6)] rfl rfl sc_divided.nd (pim_val (xv 2 rfl (.inl rfl) nv_pairs)) (blkOk_by (N := N_divided) (sc := defScope (top 3)) (by decide +kernel)) (gOk_tup (gOks_cons (gOk_v) (gOks_cons (gOk_v) (gOks_nil)))) (fun _ _ _ _ _ => pgm_tup rfl (tgs_cons (slW _) (pgm_v (pg_name sc_divided.nd rfl (.inl rfl) (.inr rfl)) (SW_set (by decide))) (tgs_cons (slW _) (pgm_v (pg_name sc_divided.nd rfl (.inl rfl) (.inr rfl)) (SW_set (by decide))) (tgs_nil (slW _)) rfl) rfl) rfl rfl rfl) (fun _ _ _ _ _ => ptsm_nil) (fun _ _ _ _ _ => pm_tup (pa_c (xv 5 rfl (.inl rfl) nv_name) (pa_c (pm_op om_div (xv 6 rfl (.inl rfl) nv_number) (xv 1 rfl (.inr (.inl rfl)) nv_divisor)) (pa_n) rfl) rfl)) (fun _ => rfl)) (pa_n) rfl) nn_tuple nb_tuple rfl rfl) (pa_c (pm_op om_div (xv 3 rfl (.inl rfl) nv_bound) (xv 1 rfl (.inr (.inl rfl)) nv_divisor)) (pa_c (pm_bl) (pa_n) rfl) rfl) rfl)))))
theorem ok__law_bag (T : Fx K mg) (O : Oks P w K mg base T k) : FnOk P w K mg base (L2.CX P w) (k + 1) (He.ga K "_law_bag") T.fd__law_bag ["script"] (spM K Pr (k + 1) "_law_bag") := by
  refine T.F__law_bag.ok sc__law_bag (spM_len (fun d h => by rw [pr__law_bag] at h; cases h; rfl)) (fun cdv A outer s H vs Q E hr h => ⟨_, ?_, body_ok (d := d__law_bag) pr__law_bag rfl h⟩)
  have hu := hu_of hr
  have hp := passes_of (X := cxOf (L2.CX P w) P w K mg base N__law_bag "_law_bag" (defScope (top 5)) (He.ga K "_law_bag") cdv A outer s H E) rfl
  have hx := passAt (takes_of (X := cxOf (L2.CX P w) P w K mg base N__law_bag "_law_bag" (defScope (top 5)) (He.ga K "_law_bag") cdv A outer s H E) rfl rfl rfl rfl)
  show PSs _ _ (tS K (fun cls dd _ H' => E cls dd H') (Pr.ctx k) m__law_bag)
  exact psm_one (psm_ret (pm_lst (pa_c (pm_callTy cm_list rfl T.b_list mb_tlist (pa_c (pm_sl (xv 0 rfl (.inl rfl) nv_script) (om_n) (om_s (pm_int))) (pa_n) rfl) nn_list nb_list rfl rfl) (pa_c (pm_int) (pa_c (pm_int) (pa_c (pm_int) (pa_n) rfl) rfl) rfl) rfl)))
theorem ok__law_pull (T : Fx K mg) (O : Oks P w K mg base T k) : FnOk P w K mg base (L2.CX P w) (k + 1) (He.ga K "_law_pull") T.fd__law_pull ["bag", "size"] (spM K Pr (k + 1) "_law_pull") := by
  refine T.F__law_pull.ok sc__law_pull (spM_len (fun d h => by rw [pr__law_pull] at h; cases h; rfl)) (fun cdv A outer s H vs Q E hr h => ⟨_, ?_, body_ok (d := d__law_pull) pr__law_pull rfl h⟩)
  have hu := hu_of hr
  have hp := passes_of (X := cxOf (L2.CX P w) P w K mg base N__law_pull "_law_pull" (defScope (top 6)) (He.ga K "_law_pull") cdv A outer s H E) rfl
  have hx := passAt (takes_of (X := cxOf (L2.CX P w) P w K mg base N__law_pull "_law_pull" (defScope (top 6)) (He.ga K "_law_pull") cdv A outer s H E) rfl rfl rfl rfl)
  show PSs _ _ (tS K (fun cls dd _ H' => E cls dd H') (Pr.ctx k) m__law_pull)
  exact psm_cons (psm_if (ptm_cmp om_ge (pm_ixD hu (xv 0 rfl (.inl rfl) nv_bag) (pm_int) (fun _ _ => rfl)) (xv 1 rfl (.inl rfl) nv_size) (nomark _)) (psm_cons (psm_set (fun _ h => ps_set sc__law_pull.nd rfl (.inl rfl) h rfl (.inl rfl)) (pm_op om_mod (pm_ixD hu (xv 0 rfl (.inl rfl) nv_bag) (pm_int) (fun _ _ => rfl)) (xv 1 rfl (.inl rfl) nv_size))) (psm_cons (psm_asg' (pm_op om_div (pm_ixD hu (xv 0 rfl (.inl rfl) nv_bag) (pm_int) (fun _ _ => rfl)) (xv 1 rfl (.inl rfl) nv_size)) (pgm_sub (W := W0) (xv 0 rfl (.inl rfl) nv_bag) (pm_int) slAny (sm_set hu) (fun _ => rfl)) (gOk_sub) rfl rfl rfl) (psm_one (psm_ret (xv 2 rfl (.inl rfl) nv_got))))) (psm_nil)) (psm_cons (psm_set (fun _ h => ps_set sc__law_pull.nd rfl (.inl rfl) h rfl (.inl rfl)) (pm_int)) (psm_cons (psm_if (ptm_cmp om_lt (pm_ixD hu (xv 0 rfl (.inl rfl) nv_bag) (pm_int) (fun _ _ => rfl)) (pm_callB cm_len rfl T.b_len mb_len (pa_c (pm_ixD hu (xv 0 rfl (.inl rfl) nv_bag) (pm_int) (fun _ _ => rfl)) (pa_n) rfl) nn_len nb_len rfl rfl) (nomark _)) (psm_one (psm_set (fun _ h => ps_set sc__law_pull.nd rfl (.inl rfl) h rfl (.inl rfl)) (pm_ixD hu (pm_ixD hu (xv 0 rfl (.inl rfl) nv_bag) (pm_int) (fun _ _ => rfl)) (pm_ixD hu (xv 0 rfl (.inl rfl) nv_bag) (pm_int) (fun _ _ => rfl)) (fun _ _ => rfl)))) (psm_nil)) (psm_cons (psm_asg' (pm_op om_add (pm_ixD hu (xv 0 rfl (.inl rfl) nv_bag) (pm_int) (fun _ _ => rfl)) (pm_int)) (pgm_sub (W := W0) (xv 0 rfl (.inl rfl) nv_bag) (pm_int) slAny (sm_set hu) (fun _ => rfl)) (gOk_sub) rfl rfl rfl) (psm_cons (psm_if (ptm_cmp om_ge (xv 3 rfl (.inl rfl) nv_cell) (pm_op om_pow (pm_int) (pm_int)) (nomark _)) (psm_cons (psm_asg' (pm_op om_div (xv 3 rfl (.inl rfl) nv_cell) (xv 1 rfl (.inl rfl) nv_size)) (pgm_sub (W := W0) (xv 0 rfl (.inl rfl) nv_bag) (pm_int) slAny (sm_set hu) (fun _ => rfl)) (gOk_sub) rfl rfl rfl) (psm_one (psm_ret (pm_op om_mod (xv 3 rfl (.inl rfl) nv_cell) (xv 1 rfl (.inl rfl) nv_size))))) (psm_nil)) (psm_cons (psm_asg' (pm_op om_mod (pm_op om_add (pm_op om_add (pm_op om_add (pm_op om_pow (pm_ixD hu (xv 0 rfl (.inl rfl) nv_bag) (pm_int) (fun _ _ => rfl)) (pm_int)) (pm_op om_mul (pm_int) (pm_ixD hu (xv 0 rfl (.inl rfl) nv_bag) (pm_int) (fun _ _ => rfl)))) (pm_op om_mod (xv 3 rfl (.inl rfl) nv_cell) (pm_int))) (pm_int)) (pm_int)) (pgm_sub (W := W0) (xv 0 rfl (.inl rfl) nv_bag) (pm_int) slAny (sm_set hu) (fun _ => rfl)) (gOk_sub) rfl rfl rfl) (psm_one (psm_ret (pm_op om_mod (pm_op om_add (pm_op om_div (pm_ixD hu (xv 0 rfl (.inl rfl) nv_bag) (pm_int) (fun _ _ => rfl)) (pm_int)) (xv 3 rfl (.inl rfl) nv_cell)) (xv 1 rfl (.inl rfl) nv_size)))))))))
theorem ok__law_like (T : Fx K mg) (O : Oks P w K mg base T k) : FnOk P w K mg base (L2.CX P w) (k + 1) (He.ga K "_law_like") T.fd__law_like ["one", "due"] (spM K Pr (k + 1) "_law_like") := by
  refine T.F__law_like.ok sc__law_like (spM_len (fun d h => by rw [pr__law_like] at h; cases h; rfl)) (fun cdv A outer s H vs Q E hr h => ⟨_, ?_, body_ok (d := d__law_like) pr__law_like rfl h⟩)
  have hu := hu_of hr
  have hp := passes_of (X := cxOf (L2.CX P w) P w K mg base N__law_like "_law_like" (defScope (top 7)) (He.ga K "_law_like") cdv A outer s H E) rfl
  have hx := passAt (takes_of (X := cxOf (L2.CX P w) P w K mg base N__law_like "_law_like" (defScope (top 7)) (He.ga K "_law_like") cdv A outer s H E) rfl rfl rfl rfl)
  show PSs _ _ (tS K (fun cls dd _ H' => E cls dd H') (Pr.ctx k) m__law_like)
  exact psm_cons (psm_if (pt_val' (pm_callB cm_isi rfl T.b_isinstance mb_isi (pa_c (xv 1 rfl (.inr (.inl rfl)) nv_due) (pa_c (pm_tup (pa_c (pm_ty rfl T.b_tuple mb_ttuple nn_tuple nb_tuple) (pa_c (pm_ty rfl T.b_list mb_tlist nn_list nb_list) (pa_n) rfl) rfl)) (pa_n) rfl) rfl) nn_isinstance nb_isinstance rfl rfl) (fun _ => rfl)) (psm_cons (psm_if (ptm_cmp om_ne (pm_callB cm_isi rfl T.b_isinstance mb_isi (pa_c (xv 0 rfl (.inr (.inl rfl)) nv_one) (pa_c (pm_ty rfl T.b_tuple mb_ttuple nn_tuple nb_tuple) (pa_n) rfl) rfl) nn_isinstance nb_isinstance rfl rfl) (pm_callB cm_isi rfl T.b_isinstance mb_isi (pa_c (xv 1 rfl (.inr (.inl rfl)) nv_due) (pa_c (pm_ty rfl T.b_tuple mb_ttuple nn_tuple nb_tuple) (pa_n) rfl) rfl) nn_isinstance nb_isinstance rfl rfl) (nomark _)) (psm_one (psm_ret (pm_bl))) (psm_nil)) (psm_cons (psm_if (PW.pt (pwm_or (ptm_not (pt_val' (pm_callB cm_isi rfl T.b_isinstance mb_isi (pa_c (xv 0 rfl (.inr (.inl rfl)) nv_one) (pa_c (pm_tup (pa_c (pm_ty rfl T.b_tuple mb_ttuple nn_tuple nb_tuple) (pa_c (pm_ty rfl T.b_list mb_tlist nn_list nb_list) (pa_n) rfl) rfl)) (pa_n) rfl) rfl) nn_isinstance nb_isinstance rfl rfl) (fun _ => rfl))) (pwm_or1 (ptm_cmp om_ne (pm_callB cm_len rfl T.b_len mb_len (pa_c (xv 0 rfl (.inr (.inl rfl)) nv_one) (pa_n) rfl) nn_len nb_len rfl rfl) (pm_callB cm_len rfl T.b_len mb_len (pa_c (xv 1 rfl (.inr (.inl rfl)) nv_due) (pa_n) rfl) nn_len nb_len rfl rfl) (nomark _))))) (psm_one (psm_ret (pm_bl))) (psm_nil)) (psm_one (psm_ret (pm_callB (cm_all rfl) rfl T.b_all mb_all (pa_c (xcomp [("at", 2)] rfl rfl sc__law_like.nd (pim_range1 rfl T.b_range (pa_c (pm_callB cm_len rfl T.b_len mb_len (pa_c (xv 1 rfl (.inr (.inl rfl)) nv_due) (pa_n) rfl) nn_len nb_len rfl rfl) (pa_n) rfl) rfl) (blkOk_by (N := N__law_like) (sc := defScope (top 7)) (by decide +kernel)) (gOk_v) (fun _ _ _ _ _ => pgm_v (pg_name sc__law_like.nd rfl (.inl rfl) (.inr rfl)) (SW_set (by decide))) (fun _ _ _ _ _ => ptsm_nil) (fun _ _ _ _ _ => pm_call (O._law_like) hr rfl T.g__law_like T.F__law_like.kp (bn__law_like T) hx0 (pa_c (pm_ixD hu (xv 0 rfl (.inr (.inl rfl)) nv_one) (xv 2 rfl (.inl rfl) nv_at) (fun _ _ => rfl)) (pa_c (pm_ixD hu (xv 1 rfl (.inr (.inl rfl)) nv_due) (xv 2 rfl (.inl rfl) nv_at) (fun _ _ => rfl)) (pa_n) rfl) rfl) nb__law_like rfl rfl) (fun _ => rfl)) (pa_n) rfl) nn_all nb_all rfl rfl))))) (psm_nil)) (psm_cons (psm_if (pt_val' (pm_callB cm_isi rfl T.b_isinstance mb_isi (pa_c (xv 1 rfl (.inr (.inl rfl)) nv_due) (pa_c (pm_ty rfl T.b_bool mb_tbool nn_bool nb_bool) (pa_n) rfl) rfl) nn_isinstance nb_isinstance rfl rfl) (fun _ => rfl)) (psm_one (psm_ret (pm_and (pm_callB cm_isi rfl T.b_isinstance mb_isi (pa_c (xv 0 rfl (.inr (.inl rfl)) nv_one) (pa_c (pm_ty rfl T.b_bool mb_tbool nn_bool nb_bool) (pa_n) rfl) rfl) nn_isinstance nb_isinstance rfl rfl) (pm_and1 (pm_cmp om_eq (xv 0 rfl (.inr (.inl rfl)) nv_one) (xv 1 rfl (.inr (.inl rfl)) nv_due) (nomark _)))))) (psm_nil)) (psm_cons (psm_if (pt_val' (pm_callB cm_isi rfl T.b_isinstance mb_isi (pa_c (xv 1 rfl (.inr (.inl rfl)) nv_due) (pa_c (pm_ty rfl T.b_int mb_tint nn_int nb_int) (pa_n) rfl) rfl) nn_isinstance nb_isinstance rfl rfl) (fun _ => rfl)) (psm_one (psm_ret (pm_and (pm_callB cm_isi rfl T.b_isinstance mb_isi (pa_c (xv 0 rfl (.inr (.inl rfl)) nv_one) (pa_c (pm_ty rfl T.b_int mb_tint nn_int nb_int) (pa_n) rfl) rfl) nn_isinstance nb_isinstance rfl rfl) (pm_and (pm_not (pm_callB cm_isi rfl T.b_isinstance mb_isi (pa_c (xv 0 rfl (.inr (.inl rfl)) nv_one) (pa_c (pm_ty rfl T.b_bool mb_tbool nn_bool nb_bool) (pa_n) rfl) rfl) nn_isinstance nb_isinstance rfl rfl)) (pm_and1 (pm_cmp om_eq (xv 0 rfl (.inr (.inl rfl)) nv_one) (xv 1 rfl (.inr (.inl rfl)) nv_due) (nomark _))))))) (psm_nil)) (psm_cons (psm_if (pt_val' (pm_callB cm_isi rfl T.b_isinstance mb_isi (pa_c (xv 1 rfl (.inr (.inl rfl)) nv_due) (pa_c (pm_ty rfl T.b_str mb_tstr nn_str nb_str) (pa_n) rfl) rfl) nn_isinstance nb_isinstance rfl rfl) (fun _ => rfl)) (psm_one (psm_ret (pm_and (pm_callB cm_isi rfl T.b_isinstance mb_isi (pa_c (xv 0 rfl (.inr (.inl rfl)) nv_one) (pa_c (pm_ty rfl T.b_str mb_tstr nn_str nb_str) (pa_n) rfl) rfl) nn_isinstance nb_isinstance rfl rfl) (pm_and1 (pm_cmp om_eq (xv 0 rfl (.inr (.inl rfl)) nv_one) (xv 1 rfl (.inr (.inl rfl)) nv_due) (nomark _)))))) (psm_nil)) (psm_one (psm_ret (pm_and (pm_cmp om_isN (xv 1 rfl (.inr (.inl rfl)) nv_due) (pm_non) (nomark _)) (pm_and1 (pm_cmp om_isN (xv 0 rfl (.inr (.inl rfl)) nv_one) (pm_non) (nomark _)))))))))
theorem ok__law_names (T : Fx K mg) (O : Oks P w K mg base T k) : FnOk P w K mg base (L2.CX P w) (k + 1) (He.ga K "_law_names") T.fd__law_names ["bag", "many"] (spM K Pr (k + 1) "_law_names") := by
  refine T.F__law_names.ok sc__law_names (spM_len (fun d h => by rw [pr__law_names] at h; cases h; rfl)) (fun cdv A outer s H vs Q E hr h => ⟨_, ?_, body_ok (d := d__law_names) pr__law_names rfl h⟩)
  have hu := hu_of hr
  have hp := passes_of (X := cxOf (L2.CX P w) P w K mg base N__law_names "_law_names" (defScope (top 8)) (He.ga K "_law_names") cdv A outer s H E) rfl
  have hx := passAt (takes_of (X := cxOf (L2.CX P w) P w K mg base N__law_names "_law_names" (defScope (top 8)) (He.ga K "_law_names") cdv A outer s H E) rfl rfl rfl rfl)
  show PSs _ _ (tS K (fun cls dd _ H' => E cls dd H') (Pr.ctx k) m__law_names)
  exact psm_cons (psm_set (fun _ h => ps_set sc__law_names.nd rfl (.inl rfl) h rfl (.inl rfl)) (pm_ixD hu (pm_lst (pa_c (pm_str) (pa_c (pm_str) (pa_c (pm_str) (pa_c (pm_str) (pa_c (pm_str) (pa_n) rfl) rfl) rfl) rfl) rfl)) (pm_call (O._law_pull) hr rfl T.g__law_pull T.F__law_pull.kp (bn__law_pull T) hx (pa_c (xv 0 rfl (.inl rfl) nv_bag) (pa_c (pm_int) (pa_n) rfl) rfl) nb__law_pull rfl rfl) (fun _ _ => rfl))) (psm_cons (psm_set (fun _ h => ps_set sc__law_names.nd rfl (.inl rfl) h rfl (.inl rfl)) (pm_call (O._law_pull) hr rfl T.g__law_pull T.F__law_pull.kp (bn__law_pull T) hx (pa_c (xv 0 rfl (.inl rfl) nv_bag) (pa_c (pm_int) (pa_n) rfl) rfl) nb__law_pull rfl rfl)) (psm_cons (psm_set (fun _ h => ps_set sc__law_names.nd rfl (.inl rfl) h rfl (.inl rfl)) (pm_str)) (psm_cons (psm_set (fun _ h => ps_set sc__law_names.nd rfl (.inl rfl) h rfl (.inl rfl)) (pm_lst (pa_n))) (psm_cons (psm_for hp rfl (pim_range1 rfl T.b_range (pa_c (xv 1 rfl (.inl rfl) nv_many) (pa_n) rfl) rfl) (pgm_v (pg_name sc__law_names.nd rfl (.inl rfl) (.inl rfl)) (fun _ _ => trivial)) (gOk_v) (psm_cons (psm_set (fun _ h => ps_set sc__law_names.nd rfl (.inl rfl) h rfl (.inl rfl)) (pm_ixD hu (xv 4 rfl (.inl rfl) nv_signs) (pm_op om_mod (pm_op om_add (xv 3 rfl (.inl rfl) nv_start) (pm_op om_mul (pm_int) (xv 6 rfl (.inl rfl) nv_at))) (pm_int)) (fun _ _ => rfl))) (psm_one (psm_expr (pm_bm (.inl rfl) PySem.F.plainAttrs_list PySem.F.slot_list_append PySem.F.type_list_append mm_append (xv 5 rfl (.inl rfl) nv_some) (pa_c (pm_if (ptm_cmp om_lt (xv 6 rfl (.inl rfl) nv_at) (pm_int) (nomark _)) (pm_op om_add (xv 7 rfl (.inl rfl) nv_first) (xv 2 rfl (.inl rfl) nv_tail)) (pm_op om_add (pm_op om_add (xv 7 rfl (.inl rfl) nv_first) (pm_callTy cm_str rfl T.b_str mb_tstr (pa_c (pm_op om_div (xv 6 rfl (.inl rfl) nv_at) (pm_int)) (pa_n) rfl) nn_str nb_str rfl rfl)) (pm_sl (xv 2 rfl (.inl rfl) nv_tail) (om_n) (om_s (pm_int))))) (pa_n) rfl) rfl rfl rfl rfl rfl) rfl))) (fun _ => rfl)) (psm_one (psm_ret (xv 5 rfl (.inl rfl) nv_some)))))))
theorem ok__law_total (T : Fx K mg) (O : Oks P w K mg base T k) : FnOk P w K mg base (L2.CX P w) (k + 1) (He.ga K "_law_total") T.fd__law_total ["pairs"] (spM K Pr (k + 1) "_law_total") := by
  refine T.F__law_total.ok sc__law_total (spM_len (fun d h => by rw [pr__law_total] at h; cases h; rfl)) (fun cdv A outer s H vs Q E hr h => ⟨_, ?_, body_ok (d := d__law_total) pr__law_total rfl h⟩)
  have hu := hu_of hr
  have hp := passes_of (X := cxOf (L2.CX P w) P w K mg base N__law_total "_law_total" (defScope (top 9)) (He.ga K "_law_total") cdv A outer s H E) rfl
  have hx := passAt (takes_of (X := cxOf (L2.CX P w) P w K mg base N__law_total "_law_total" (defScope (top 9)) (He.ga K "_law_total") cdv A outer s H E) rfl rfl rfl rfl)
  show PSs _ _ (tS K (fun cls dd _ H' => E cls dd H') (Pr.ctx k) m__law_total)
  exact psm_cons (psm_set (fun _ h => ps_set sc__law_total.nd rfl (.inl rfl) h rfl (.inl rfl)) (pm_lst (pa_n))) (psm_cons (psm_for hp rfl (pim_val (xv 0 rfl (.inl rfl) nv_pairs)) (pgm_tup rfl (tgs_cons slAny (pgm_v (pg_name sc__law_total.nd rfl (.inr rfl) (.inl rfl)) (fun _ _ => trivial)) (tgs_cons slAny (pgm_v (pg_name sc__law_total.nd rfl (.inl rfl) (.inl rfl)) (fun _ _ => trivial)) (tgs_nil slAny) rfl) rfl) rfl rfl rfl) (gOk_tup (gOks_cons (gOk_v) (gOks_cons (gOk_v) (gOks_nil)))) (psm_one (psm_if (ptm_notInD hu (xv 2 rfl (.inr (.inl rfl)) nv_name) (xv 1 rfl (.inl rfl) nv_names) (by with_unfolding_all rfl)) (psm_one (psm_expr (pm_bm (.inl rfl) PySem.F.plainAttrs_list PySem.F.slot_list_append PySem.F.type_list_append mm_append (xv 1 rfl (.inl rfl) nv_names) (pa_c (xv 2 rfl (.inr (.inl rfl)) nv_name) (pa_n) rfl) rfl rfl rfl rfl rfl) rfl)) (psm_nil))) (fun _ => rfl)) (psm_cons (psm_set (fun _ h => ps_set sc__law_total.nd rfl (.inl rfl) h rfl (.inl rfl)) (pm_lst (pa_n))) (psm_cons (psm_for hp rfl (pim_val (pm_callB (cm_sorted rfl) rfl T.b_sorted mb_sorted (pa_c (xv 1 rfl (.inl rfl) nv_names) (pa_n) rfl) nn_sorted nb_sorted rfl rfl)) (pgm_v (pg_name sc__law_total.nd rfl (.inr rfl) (.inl rfl)) (fun _ _ => trivial)) (gOk_v) (psm_cons (psm_set (fun _ h => ps_set sc__law_total.nd rfl (.inl rfl) h rfl (.inl rfl)) (pm_callB (cm_sum rfl) rfl T.b_sum mb_sum (pa_c (xcomp [("other", 6), ("figure", 3)] rfl rfl sc__law_total.nd (pim_val (xv 0 rfl (.inl rfl) nv_pairs)) (blkOk_by (N := N__law_total) (sc := defScope (top 9)) (by decide +kernel)) (gOk_tup (gOks_cons (gOk_v) (gOks_cons (gOk_v) (gOks_nil)))) (fun _ _ _ _ _ => pgm_tup rfl (tgs_cons (slW _) (pgm_v (pg_name sc__law_total.nd rfl (.inl rfl) (.inr rfl)) (SW_set (by decide))) (tgs_cons (slW _) (pgm_v (pg_name sc__law_total.nd rfl (.inl rfl) (.inr rfl)) (SW_set (by decide))) (tgs_nil (slW _)) rfl) rfl) rfl rfl rfl) (fun _ _ _ _ _ => pts_one (ptm_cmp om_eq (xv 6 rfl (.inl rfl) nv_other) (xv 2 rfl (.inr (.inl rfl)) nv_name) (nomark _))) (fun _ _ _ _ _ => xv 3 rfl (.inl rfl) nv_figure) (fun _ => rfl)) (pa_n) rfl) nn_sum nb_sum rfl rfl)) (psm_one (psm_if (ptm_cmp om_ne (xv 5 rfl (.inl rfl) nv_total) (pm_int) (nomark _)) (psm_one (psm_expr (pm_bm (.inl rfl) PySem.F.plainAttrs_list PySem.F.slot_list_append PySem.F.type_list_append mm_append (xv 4 rfl (.inl rfl) nv_some) (pa_c (pm_tup (pa_c (xv 2 rfl (.inr (.inl rfl)) nv_name) (pa_c (xv 5 rfl (.inl rfl) nv_total) (pa_n) rfl) rfl)) (pa_n) rfl) rfl rfl rfl rfl rfl) rfl)) (psm_nil)))) (fun _ => rfl)) (psm_one (psm_ret (pm_callTy cm_tuple rfl T.b_tuple mb_ttuple (pa_c (xv 4 rfl (.inl rfl) nv_some) (pa_n) rfl) nn_tuple nb_tuple rfl rfl))))))
theorem ok__law_parted (T : Fx K mg) (O : Oks P w K mg base T k) : FnOk P w K mg base (L2.CX P w) (k + 1) (He.ga K "_law_parted") T.fd__law_parted ["one", "divisor"] (spM K Pr (k + 1) "_law_parted") := by
  refine T.F__law_parted.ok sc__law_parted (spM_len (fun d h => by rw [pr__law_parted] at h; cases h; rfl)) (fun cdv A outer s H vs Q E hr h => ⟨_, ?_, body_ok (d := d__law_parted) pr__law_parted rfl h⟩)
  have hu := hu_of hr
  have hp := passes_of (X := cxOf (L2.CX P w) P w K mg base N__law_parted "_law_parted" (defScope (top 10)) (He.ga K "_law_parted") cdv A outer s H E) rfl
  have hx := passAt (takes_of (X := cxOf (L2.CX P w) P w K mg base N__law_parted "_law_parted" (defScope (top 10)) (He.ga K "_law_parted") cdv A outer s H E) rfl rfl rfl rfl)
  show PSs _ _ (tS K (fun cls dd _ H' => E cls dd H') (Pr.ctx k) m__law_parted)
  exact psm_cons (psm_if (ptm_cmp om_lt (xv 1 rfl (.inr (.inl rfl)) nv_divisor) (pm_int) (nomark _)) (psm_one (psm_ret (pm_non))) (psm_nil)) (psm_cons (psm_if (pt_val' (pm_callB (cm_any rfl) rfl T.b_any mb_any (pa_c (xcomp [("name", 2), ("figure", 3)] rfl rfl sc__law_parted.nd (pim_val (pm_ixD hu (xv 0 rfl (.inl rfl) nv_one) (pm_int) (fun _ _ => rfl))) (blkOk_by (N := N__law_parted) (sc := defScope (top 10)) (by decide +kernel)) (gOk_tup (gOks_cons (gOk_v) (gOks_cons (gOk_v) (gOks_nil)))) (fun _ _ _ _ _ => pgm_tup rfl (tgs_cons (slW _) (pgm_v (pg_name sc__law_parted.nd rfl (.inl rfl) (.inr rfl)) (SW_set (by decide))) (tgs_cons (slW _) (pgm_v (pg_name sc__law_parted.nd rfl (.inl rfl) (.inr rfl)) (SW_set (by decide))) (tgs_nil (slW _)) rfl) rfl) rfl rfl rfl) (fun _ _ _ _ _ => ptsm_nil) (fun _ _ _ _ _ => pm_cmp om_ne (pm_op om_sub (xv 3 rfl (.inl rfl) nv_figure) (pm_op om_mul (pm_op om_div (xv 3 rfl (.inl rfl) nv_figure) (xv 1 rfl (.inr (.inl rfl)) nv_divisor)) (xv 1 rfl (.inr (.inl rfl)) nv_divisor))) (pm_int) (nomark _)) (fun _ => rfl)) (pa_n) rfl) nn_any nb_any rfl rfl) (fun _ => rfl)) (psm_one (psm_ret (pm_non))) (psm_nil)) (psm_one (psm_ret (pm_tup (pa_c (pm_callTy cm_tuple rfl T.b_tuple mb_ttuple (pa_c (xcomp [("name", 2), ("figure", 3)] rfl rfl sc__law_parted.nd (pim_val (pm_ixD hu (xv 0 rfl (.inl rfl) nv_one) (pm_int) (fun _ _ => rfl))) (blkOk_by (N := N__law_parted) (sc := defScope (top 10)) (by decide +kernel)) (gOk_tup (gOks_cons (gOk_v) (gOks_cons (gOk_v) (gOks_nil)))) (fun _ _ _ _ _ => pgm_tup rfl (tgs_cons (slW _) (pgm_v (pg_name sc__law_parted.nd rfl (.inl rfl) (.inr rfl)) (SW_set (by decide))) (tgs_cons (slW _) (pgm_v (pg_name sc__law_parted.nd rfl (.inl rfl) (.inr rfl)) (SW_set (by decide))) (tgs_nil (slW _)) rfl) rfl) rfl rfl rfl) (fun _ _ _ _ _ => ptsm_nil) (fun _ _ _ _ _ => pm_tup (pa_c (xv 2 rfl (.inl rfl) nv_name) (pa_c (pm_op om_div (xv 3 rfl (.inl rfl) nv_figure) (xv 1 rfl (.inr (.inl rfl)) nv_divisor)) (pa_n) rfl) rfl)) (fun _ => rfl)) (pa_n) rfl) nn_tuple nb_tuple rfl rfl) (pa_c (pm_op om_div (pm_ixD hu (xv 0 rfl (.inl rfl) nv_one) (pm_int) (fun _ _ => rfl)) (xv 1 rfl (.inr (.inl rfl)) nv_divisor)) (pa_c (pm_bl) (pa_n) rfl) rfl) rfl)))))
theorem ok__law_some_pairs (T : Fx K mg) (O : Oks P w K mg base T k) : FnOk P w K mg base (L2.CX P w) (k + 1) (He.ga K "_law_some_pairs") T.fd__law_some_pairs ["bag", "names", "great"] (spM K Pr (k + 1) "_law_some_pairs") := by
  refine T.F__law_some_pairs.ok sc__law_some_pairs (spM_len (fun d h => by rw [pr__law_some_pairs] at h; cases h; rfl)) (fun cdv A outer s H vs Q E hr h => ⟨_, ?_, body_ok (d := d__law_some_pairs) pr__law_some_pairs rfl h⟩)
  have hu := hu_of hr
  have hp := passes_of (X := cxOf (L2.CX P w) P w K mg base N__law_some_pairs "_law_some_pairs" (defScope (top 11)) (He.ga K "_law_some_pairs") cdv A outer s H E) rfl
  have hx := passAt (takes_of (X := cxOf (L2.CX P w) P w K mg base N__law_some_pairs "_law_some_pairs" (defScope (top 11)) (He.ga K "_law_some_pairs") cdv A outer s H E) rfl rfl rfl rfl)
  show PSs _ _ (tS K (fun cls dd _ H' => E cls dd H') (Pr.ctx k) m__law_some_pairs)
  exact psm_cons (psm_set (fun _ h => ps_set sc__law_some_pairs.nd rfl (.inl rfl) h rfl (.inl rfl)) (pm_lst (pa_n))) (psm_cons (psm_for hp rfl (pim_range1 rfl T.b_range (pa_c (pm_call (O._law_pull) hr rfl T.g__law_pull T.F__law_pull.kp (bn__law_pull T) hx (pa_c (xv 0 rfl (.inl rfl) nv_bag) (pa_c (pm_int) (pa_n) rfl) rfl) nb__law_pull rfl rfl) (pa_n) rfl) rfl) (pgm_v (pg_name sc__law_some_pairs.nd rfl (.inl rfl) (.inl rfl)) (fun _ _ => trivial)) (gOk_v) (psm_one (psm_expr (pm_bm (.inl rfl) PySem.F.plainAttrs_list PySem.F.slot_list_append PySem.F.type_list_append mm_append (xv 3 rfl (.inl rfl) nv_some) (pa_c (pm_tup (pa_c (pm_ixD hu (xv 1 rfl (.inl rfl) nv_names) (pm_call (O._law_pull) hr rfl T.g__law_pull T.F__law_pull.kp (bn__law_pull T) hx (pa_c (xv 0 rfl (.inl rfl) nv_bag) (pa_c (pm_callB cm_len rfl T.b_len mb_len (pa_c (xv 1 rfl (.inl rfl) nv_names) (pa_n) rfl) nn_len nb_len rfl rfl) (pa_n) rfl) rfl) nb__law_pull rfl rfl) (fun _ _ => rfl)) (pa_c (pm_op om_sub (pm_call (O._law_pull) hr rfl T.g__law_pull T.F__law_pull.kp (bn__law_pull T) hx (pa_c (xv 0 rfl (.inl rfl) nv_bag) (pa_c (xv 2 rfl (.inl rfl) nv_great) (pa_n) rfl) rfl) nb__law_pull rfl rfl) (pm_op om_div (xv 2 rfl (.inl rfl) nv_great) (pm_int))) (pa_n) rfl) rfl)) (pa_n) rfl) rfl rfl rfl rfl rfl) rfl)) (fun _ => rfl)) (psm_one (psm_ret (xv 3 rfl (.inl rfl) nv_some))))
theorem ok_law (T : Fx K mg) (O : Oks P w K mg base T k) : FnOk P w K mg base (L2.CX P w) (k + 1) (He.ga K "law") T.fd_law ["script"] (spM K Pr (k + 1) "law") := by
  refine T.F_law.ok sc_law (spM_len (fun d h => by rw [pr_law] at h; cases h; rfl)) (fun cdv A outer s H vs Q E hr h => ⟨_, ?_, body_ok (d := d_law) pr_law rfl h⟩)
  have hu := hu_of hr
  have hp := passes_of (X := cxOf (L2.CX P w) P w K mg base N_law "law" (defScope (top 12)) (He.ga K "law") cdv A outer s H E) rfl
  have hx := passAt (takes_of (X := cxOf (L2.CX P w) P w K mg base N_law "law" (defScope (top 12)) (He.ga K "law") cdv A outer s H E) rfl rfl rfl rfl)
  show PSs _ _ (tS K (fun cls dd _ H' => E cls dd H') (Pr.ctx k) m_law)
  exact psm_cons (psm_set (fun _ h => ps_set sc_law.nd rfl (.inl rfl) h rfl (.inl rfl)) (pm_call (O._law_bag) hr rfl T.g__law_bag T.F__law_bag.kp (bn__law_bag T) hx (pa_c (xv 0 rfl (.inl rfl) nv_script) (pa_n) rfl) nb__law_bag rfl rfl)) (psm_cons (psm_set (fun _ h => ps_set sc_law.nd rfl (.inl rfl) h rfl (.inl rfl)) (pm_call (O._law_names) hr rfl T.g__law_names T.F__law_names.kp (bn__law_names T) hx (pa_c (xv 1 rfl (.inl rfl) nv_bag) (pa_c (pm_int) (pa_n) rfl) rfl) nb__law_names rfl rfl)) (psm_cons (psm_set (fun _ h => ps_set sc_law.nd rfl (.inl rfl) h rfl (.inl rfl)) (pm_ixD hu (pm_lst (pa_c (pm_int) (pa_c (pm_int) (pa_c (pm_op om_pow (pm_int) (pm_int)) (pa_n) rfl) rfl) rfl)) (pm_call (O._law_pull) hr rfl T.g__law_pull T.F__law_pull.kp (bn__law_pull T) hx (pa_c (xv 1 rfl (.inl rfl) nv_bag) (pa_c (pm_int) (pa_n) rfl) rfl) nb__law_pull rfl rfl) (fun _ _ => rfl))) (psm_cons (psm_set (fun _ h => ps_set sc_law.nd rfl (.inl rfl) h rfl (.inl rfl)) (pm_lst (pa_n))) (psm_cons (psm_for hp rfl (pim_range1 rfl T.b_range (pa_c (pm_call (O._law_pull) hr rfl T.g__law_pull T.F__law_pull.kp (bn__law_pull T) hx (pa_c (xv 1 rfl (.inl rfl) nv_bag) (pa_c (pm_int) (pa_n) rfl) rfl) nb__law_pull rfl rfl) (pa_n) rfl) rfl) (pgm_v (pg_name sc_law.nd rfl (.inl rfl) (.inl rfl)) (fun _ _ => trivial)) (gOk_v) (psm_cons (psm_set (fun _ h => ps_set sc_law.nd rfl (.inl rfl) h rfl (.inl rfl)) (pm_call (O._law_some_pairs) hr rfl T.g__law_some_pairs T.F__law_some_pairs.kp (bn__law_some_pairs T) hx (pa_c (xv 1 rfl (.inl rfl) nv_bag) (pa_c (xv 2 rfl (.inl rfl) nv_names) (pa_c (xv 3 rfl (.inl rfl) nv_great) (pa_n) rfl) rfl) rfl) nb__law_some_pairs rfl rfl)) (psm_cons (psm_set (fun _ h => ps_set sc_law.nd rfl (.inl rfl) h rfl (.inl rfl)) (pm_callTy cm_list rfl T.b_list mb_tlist (pa_c (xv 6 rfl (.inl rfl) nv_pairs) (pa_n) rfl) nn_list nb_list rfl rfl)) (psm_cons (psm_set (fun _ h => ps_set sc_law.nd rfl (.inl rfl) h rfl (.inl rfl)) (pm_op om_sub (pm_call (O._law_pull) hr rfl T.g__law_pull T.F__law_pull.kp (bn__law_pull T) hx (pa_c (xv 1 rfl (.inl rfl) nv_bag) (pa_c (xv 3 rfl (.inl rfl) nv_great) (pa_n) rfl) rfl) nb__law_pull rfl rfl) (pm_op om_div (xv 3 rfl (.inl rfl) nv_great) (pm_int)))) (psm_cons (psm_set (fun _ h => ps_set sc_law.nd rfl (.inl rfl) h rfl (.inl rfl)) (pm_cmp om_eq (pm_call (O._law_pull) hr rfl T.g__law_pull T.F__law_pull.kp (bn__law_pull T) hx (pa_c (xv 1 rfl (.inl rfl) nv_bag) (pa_c (pm_int) (pa_n) rfl) rfl) nb__law_pull rfl rfl) (pm_int) (nomark _))) (psm_cons (psm_set (fun _ h => ps_set sc_law.nd rfl (.inl rfl) h rfl (.inl rfl)) (xcallK rfl (O.row) hr rfl T.g_row T.F_row.kp (kb_row_1 T) hx (fun _ _ => rfl) (pa_c (xv 6 rfl (.inl rfl) nv_pairs) (pa_n) rfl) (pkm_cons (xv 9 rfl (.inl rfl) nv_flat) (pkm_cons (xv 8 rfl (.inl rfl) nv_cap) (pkm_nil))) rfl rfl nb_row rfl rfl)) (psm_cons (psm_if (ptm_not (pt_val' (pm_call (O._law_like) hr rfl T.g__law_like T.F__law_like.kp (bn__law_like T) hx (pa_c (pm_lst (pa_c (xv 10 rfl (.inl rfl) nv_one) (pa_c (xv 6 rfl (.inl rfl) nv_pairs) (pa_n) rfl) rfl)) (pa_c (pm_lst (pa_c (pm_tup (pa_c (pm_call (O._law_total) hr rfl T.g__law_total T.F__law_total.kp (bn__law_total T) hx (pa_c (xv 7 rfl (.inl rfl) nv_kept) (pa_n) rfl) nb__law_total rfl rfl) (pa_c (xv 8 rfl (.inl rfl) nv_cap) (pa_c (xv 9 rfl (.inl rfl) nv_flat) (pa_n) rfl) rfl) rfl)) (pa_c (xv 7 rfl (.inl rfl) nv_kept) (pa_n) rfl) rfl)) (pa_n) rfl) rfl) nb__law_like rfl rfl) (fun _ => rfl))) (psm_one (psm_ret (pm_bl))) (psm_nil)) (psm_cons (psm_if (ptm_not (pt_val' (pm_call (O._law_like) hr rfl T.g__law_like T.F__law_like.kp (bn__law_like T) hx (pa_c (xcallK rfl (O.row) hr rfl T.g_row T.F_row.kp (kb_row_2 T) hx (fun _ _ => RVs.cons rv_of_bl (rfl)) (pa_c (xv 6 rfl (.inl rfl) nv_pairs) (pa_c (xv 8 rfl (.inl rfl) nv_cap) (pa_n) rfl) rfl) (pkm_nil) rfl rfl nb_row rfl rfl) (pa_c (pm_tup (pa_c (pm_call (O._law_total) hr rfl T.g__law_total T.F__law_total.kp (bn__law_total T) hx (pa_c (xv 7 rfl (.inl rfl) nv_kept) (pa_n) rfl) nb__law_total rfl rfl) (pa_c (xv 8 rfl (.inl rfl) nv_cap) (pa_c (pm_bl) (pa_n) rfl) rfl) rfl)) (pa_n) rfl) rfl) nb__law_like rfl rfl) (fun _ => rfl))) (psm_one (psm_ret (pm_bl))) (psm_nil)) (psm_one (psm_expr (pm_bm (.inl rfl) PySem.F.plainAttrs_list PySem.F.slot_list_append PySem.F.type_list_append mm_append (xv 4 rfl (.inl rfl) nv_rows) (pa_c (pm_tup (pa_c (xv 10 rfl (.inl rfl) nv_one) (pa_c (pm_ixD hu (pm_lst (pa_c (pm_int) (pa_c (pm_un om_neg (pm_int)) (pa_c (pm_int) (pa_c (pm_int) (pa_c (pm_un om_neg (pm_int)) (pa_c (pm_op om_pow (pm_int) (pm_int)) (pa_n) rfl) rfl) rfl) rfl) rfl) rfl)) (pm_call (O._law_pull) hr rfl T.g__law_pull T.F__law_pull.kp (bn__law_pull T) hx (pa_c (xv 1 rfl (.inl rfl) nv_bag) (pa_c (pm_int) (pa_n) rfl) rfl) nb__law_pull rfl rfl) (fun _ _ => rfl)) (pa_n) rfl) rfl)) (pa_n) rfl) rfl rfl rfl rfl rfl) rfl))))))))) (fun _ => rfl)) (psm_cons (psm_set (fun _ h => ps_set sc_law.nd rfl (.inl rfl) h rfl (.inl rfl)) (pm_lst (pa_n))) (psm_cons (psm_for hp rfl (pim_val (xv 4 rfl (.inl rfl) nv_rows)) (pgm_tup rfl (tgs_cons slAny (pgm_v (pg_name sc_law.nd rfl (.inl rfl) (.inl rfl)) (fun _ _ => trivial)) (tgs_cons slAny (pgm_v (pg_name sc_law.nd rfl (.inr rfl) (.inl rfl)) (fun _ _ => trivial)) (tgs_nil slAny) rfl) rfl) rfl rfl rfl) (gOk_tup (gOks_cons (gOk_v) (gOks_cons (gOk_v) (gOks_nil)))) (psm_one (psm_expr (pm_bm (.inl rfl) PySem.F.plainAttrs_list PySem.F.slot_list_extend PySem.F.type_list_extend mm_extend (xv 6 rfl (.inl rfl) nv_pairs) (pa_c (xcomp [("name", 17), ("figure", 18)] rfl rfl sc_law.nd (pim_val (pm_ixD hu (xv 10 rfl (.inl rfl) nv_one) (pm_int) (fun _ _ => rfl))) (blkOk_by (N := N_law) (sc := defScope (top 12)) (by decide +kernel)) (gOk_tup (gOks_cons (gOk_v) (gOks_cons (gOk_v) (gOks_nil)))) (fun _ _ _ _ _ => pgm_tup rfl (tgs_cons (slW _) (pgm_v (pg_name sc_law.nd rfl (.inl rfl) (.inr rfl)) (SW_set (by decide))) (tgs_cons (slW _) (pgm_v (pg_name sc_law.nd rfl (.inl rfl) (.inr rfl)) (SW_set (by decide))) (tgs_nil (slW _)) rfl) rfl) rfl rfl rfl) (fun _ _ _ _ _ => ptsm_nil) (fun _ _ _ _ _ => pm_tup (pa_c (xv 17 rfl (.inl rfl) nv_name) (pa_c (pm_op om_mul (xv 18 rfl (.inl rfl) nv_figure) (xv 11 rfl (.inr (.inl rfl)) nv_weight)) (pa_n) rfl) rfl)) (fun _ => rfl)) (pa_n) rfl) rfl rfl rfl rfl rfl) rfl)) (fun _ => rfl)) (psm_cons (psm_set (fun _ h => ps_set sc_law.nd rfl (.inl rfl) h rfl (.inl rfl)) (pm_callTy cm_list rfl T.b_list mb_tlist (pa_c (xv 4 rfl (.inl rfl) nv_rows) (pa_n) rfl) nn_list nb_list rfl rfl)) (psm_cons (psm_set (fun _ h => ps_set sc_law.nd rfl (.inl rfl) h rfl (.inl rfl)) (pm_callB (cm_sum rfl) rfl T.b_sum mb_sum (pa_c (xcomp [("one", 10), ("weight", 11)] rfl rfl sc_law.nd (pim_val (xv 4 rfl (.inl rfl) nv_rows)) (blkOk_by (N := N_law) (sc := defScope (top 12)) (by decide +kernel)) (gOk_tup (gOks_cons (gOk_v) (gOks_cons (gOk_v) (gOks_nil)))) (fun _ _ _ _ _ => pgm_tup rfl (tgs_cons (slW _) (pgm_v (pg_name sc_law.nd rfl (.inl rfl) (.inr rfl)) (SW_set (by decide))) (tgs_cons (slW _) (pgm_v (pg_name sc_law.nd rfl (.inl rfl) (.inr rfl)) (SW_set (by decide))) (tgs_nil (slW _)) rfl) rfl) rfl rfl rfl) (fun _ _ _ _ _ => ptsm_nil) (fun _ _ _ _ _ => pm_op om_mul (pm_ixD hu (xv 10 rfl (.inl rfl) nv_one) (pm_int) (fun _ _ => rfl)) (xv 11 rfl (.inl rfl) nv_weight)) (fun _ => rfl)) (pa_n) rfl) nn_sum nb_sum rfl rfl)) (psm_cons (psm_set (fun _ h => ps_set sc_law.nd rfl (.inl rfl) h rfl (.inl rfl)) (pm_tup (pa_c (pm_call (O._law_total) hr rfl T.g__law_total T.F__law_total.kp (bn__law_total T) hx (pa_c (xv 6 rfl (.inl rfl) nv_pairs) (pa_n) rfl) nb__law_total rfl rfl) (pa_c (xv 8 rfl (.inl rfl) nv_cap) (pa_c (pm_callB (cm_all rfl) rfl T.b_all mb_all (pa_c (xcomp [("one", 10), ("weight", 11)] rfl rfl sc_law.nd (pim_val (xv 4 rfl (.inl rfl) nv_rows)) (blkOk_by (N := N_law) (sc := defScope (top 12)) (by decide +kernel)) (gOk_tup (gOks_cons (gOk_v) (gOks_cons (gOk_v) (gOks_nil)))) (fun _ _ _ _ _ => pgm_tup rfl (tgs_cons (slW _) (pgm_v (pg_name sc_law.nd rfl (.inl rfl) (.inr rfl)) (SW_set (by decide))) (tgs_cons (slW _) (pgm_v (pg_name sc_law.nd rfl (.inl rfl) (.inr rfl)) (SW_set (by decide))) (tgs_nil (slW _)) rfl) rfl) rfl rfl rfl) (fun _ _ _ _ _ => ptsm_nil) (fun _ _ _ _ _ => pm_ixD hu (xv 10 rfl (.inl rfl) nv_one) (pm_int) (fun _ _ => rfl)) (fun _ => rfl)) (pa_n) rfl) nn_all nb_all rfl rfl) (pa_n) rfl) rfl) rfl))) (psm_cons (psm_if (ptm_not (pt_val' (pm_call (O._law_like) hr rfl T.g__law_like T.F__law_like.kp (bn__law_like T) hx (pa_c (pm_lst (pa_c (pm_call (O.summed) hr rfl T.g_summed T.F_summed.kp (bn_summed T) hx (pa_c (xv 4 rfl (.inl rfl) nv_rows) (pa_n) rfl) nb_summed rfl rfl) (pa_c (xv 4 rfl (.inl rfl) nv_rows) (pa_n) rfl) rfl)) (pa_c (pm_lst (pa_c (xv 12 rfl (.inl rfl) nv_due) (pa_c (xv 7 rfl (.inl rfl) nv_kept) (pa_n) rfl) rfl)) (pa_n) rfl) rfl) nb__law_like rfl rfl) (fun _ => rfl))) (psm_one (psm_ret (pm_bl))) (psm_nil)) (psm_cons (psm_for hp rfl (pim_val (pm_lst (pa_c (pm_op om_sub (pm_call (O._law_pull) hr rfl T.g__law_pull T.F__law_pull.kp (bn__law_pull T) hx (pa_c (xv 1 rfl (.inl rfl) nv_bag) (pa_c (pm_int) (pa_n) rfl) rfl) nb__law_pull rfl rfl) (pm_int)) (pa_c (pm_int) (pa_c (pm_int) (pa_n) rfl) rfl) rfl))) (pgm_v (pg_name sc_law.nd rfl (.inl rfl) (.inl rfl)) (fun _ _ => trivial)) (gOk_v) (psm_cons (psm_set (fun _ h => ps_set sc_law.nd rfl (.inr rfl) h rfl (.inl rfl)) (pm_op om_add (pm_int) (pm_call (O._law_pull) hr rfl T.g__law_pull T.F__law_pull.kp (bn__law_pull T) hx (pa_c (xv 1 rfl (.inl rfl) nv_bag) (pa_c (pm_int) (pa_n) rfl) rfl) nb__law_pull rfl rfl))) (psm_cons (psm_set (fun _ h => ps_set sc_law.nd rfl (.inl rfl) h rfl (.inl rfl)) (pm_tup (pa_c (pm_callTy cm_tuple rfl T.b_tuple mb_ttuple (pa_c (xcomp [("name", 17), ("figure", 18)] rfl rfl sc_law.nd (pim_val (pm_ixD hu (xv 12 rfl (.inl rfl) nv_due) (pm_int) (fun _ _ => rfl))) (blkOk_by (N := N_law) (sc := defScope (top 12)) (by decide +kernel)) (gOk_tup (gOks_cons (gOk_v) (gOks_cons (gOk_v) (gOks_nil)))) (fun _ _ _ _ _ => pgm_tup rfl (tgs_cons (slW _) (pgm_v (pg_name sc_law.nd rfl (.inl rfl) (.inr rfl)) (SW_set (by decide))) (tgs_cons (slW _) (pgm_v (pg_name sc_law.nd rfl (.inl rfl) (.inr rfl)) (SW_set (by decide))) (tgs_nil (slW _)) rfl) rfl) rfl rfl rfl) (fun _ _ _ _ _ => ptsm_nil) (fun _ _ _ _ _ => pm_tup (pa_c (xv 17 rfl (.inl rfl) nv_name) (pa_c (pm_op om_mul (xv 18 rfl (.inl rfl) nv_figure) (xv 14 rfl (.inr (.inl rfl)) nv_more)) (pa_n) rfl) rfl)) (fun _ => rfl)) (pa_n) rfl) nn_tuple nb_tuple rfl rfl) (pa_c (pm_ixD hu (xv 12 rfl (.inl rfl) nv_due) (pm_int) (fun _ _ => rfl)) (pa_c (pm_ixD hu (xv 12 rfl (.inl rfl) nv_due) (pm_int) (fun _ _ => rfl)) (pa_n) rfl) rfl) rfl))) (psm_one (psm_for hp rfl (pim_val (pm_lst (pa_c (xv 12 rfl (.inl rfl) nv_due) (pa_c (xv 15 rfl (.inl rfl) nv_wide) (pa_n) rfl) rfl))) (pgm_v (pg_name sc_law.nd rfl (.inl rfl) (.inl rfl)) (fun _ _ => trivial)) (gOk_v) (psm_one (psm_if (ptm_not (pt_val' (pm_call (O._law_like) hr rfl T.g__law_like T.F__law_like.kp (bn__law_like T) hx (pa_c (pm_call (O.divided) hr rfl T.g_divided T.F_divided.kp (bn_divided T) hx (pa_c (xv 10 rfl (.inl rfl) nv_one) (pa_c (xv 13 rfl (.inl rfl) nv_divisor) (pa_n) rfl) rfl) nb_divided rfl rfl) (pa_c (pm_call (O._law_parted) hr rfl T.g__law_parted T.F__law_parted.kp (bn__law_parted T) hx (pa_c (xv 10 rfl (.inl rfl) nv_one) (pa_c (xv 13 rfl (.inl rfl) nv_divisor) (pa_n) rfl) rfl) nb__law_parted rfl rfl) (pa_n) rfl) rfl) nb__law_like rfl rfl) (fun _ => rfl))) (psm_one (psm_ret (pm_bl))) (psm_nil))) (fun _ => rfl))))) (fun _ => rfl)) (psm_cons (psm_set (fun _ h => ps_set sc_law.nd rfl (.inl rfl) h rfl (.inl rfl)) (xcallK rfl (O.row) hr rfl T.g_row T.F_row.kp (kb_row_2 T) hx (fun _ _ => RVs.cons rv_of_bl (rfl)) (pa_c (pm_lst (pa_c (pm_tup (pa_c (pm_str) (pa_c (pm_int) (pa_n) rfl) rfl)) (pa_c (pm_tup (pa_c (pm_str) (pa_c (pm_int) (pa_n) rfl) rfl)) (pa_c (pm_tup (pa_c (pm_str) (pa_c (pm_int) (pa_n) rfl) rfl)) (pa_c (pm_tup (pa_c (pm_str) (pa_c (pm_int) (pa_n) rfl) rfl)) (pa_n) rfl) rfl) rfl) rfl)) (pa_c (pm_int) (pa_n) rfl) rfl) (pkm_nil) rfl rfl nb_row rfl rfl)) (psm_one (psm_ret (pm_call (O._law_like) hr rfl T.g__law_like T.F__law_like.kp (bn__law_like T) hx (pa_c (xv 16 rfl (.inl rfl) nv_mixed) (pa_c (pm_tup (pa_c (pm_tup (pa_c (pm_tup (pa_c (pm_str) (pa_c (pm_int) (pa_n) rfl) rfl)) (pa_c (pm_tup (pa_c (pm_str) (pa_c (pm_int) (pa_n) rfl) rfl)) (pa_c (pm_tup (pa_c (pm_str) (pa_c (pm_int) (pa_n) rfl) rfl)) (pa_c (pm_tup (pa_c (pm_str) (pa_c (pm_int) (pa_n) rfl) rfl)) (pa_n) rfl) rfl) rfl) rfl)) (pa_c (pm_int) (pa_c (pm_bl) (pa_n) rfl) rfl) rfl)) (pa_n) rfl) rfl) nb__law_like rfl rfl)))))))))))))))
theorem oks (T : Fx K mg) : ∀ k, Oks P w K mg base T k
  | 0 => ⟨fn_zero, fn_zero, fn_zero, fn_zero, fn_zero, fn_zero, fn_zero, fn_zero, fn_zero, fn_zero, fn_zero⟩
  | k + 1 => ⟨ok_row T (oks T k), ok_summed T (oks T k), ok_divided T (oks T k), ok__law_bag T (oks T k), ok__law_pull T (oks T k), ok__law_like T (oks T k), ok__law_names T (oks T k), ok__law_total T (oks T k), ok__law_parted T (oks T k), ok__law_some_pairs T (oks T k), ok_law T (oks T k)⟩
end
def dd_row : He.DefD := ⟨("row", none), "row", "row", defArgs (top 1), defBody (top 1), defScope (top 1), [], [("equal", .bl false)]⟩
def dd_summed : He.DefD := ⟨("summed", none), "summed", "summed", defArgs (top 2), defBody (top 2), defScope (top 2), [], []⟩
def dd_divided : He.DefD := ⟨("divided", none), "divided", "divided", defArgs (top 3), defBody (top 3), defScope (top 3), [], []⟩
def dd__law_bag : He.DefD := ⟨("_law_bag", none), "_law_bag", "_law_bag", defArgs (top 5), defBody (top 5), defScope (top 5), [], []⟩
def dd__law_pull : He.DefD := ⟨("_law_pull", none), "_law_pull", "_law_pull", defArgs (top 6), defBody (top 6), defScope (top 6), [], []⟩
def dd__law_like : He.DefD := ⟨("_law_like", none), "_law_like", "_law_like", defArgs (top 7), defBody (top 7), defScope (top 7), [], []⟩
def dd__law_names : He.DefD := ⟨("_law_names", none), "_law_names", "_law_names", defArgs (top 8), defBody (top 8), defScope (top 8), [], []⟩
def dd__law_total : He.DefD := ⟨("_law_total", none), "_law_total", "_law_total", defArgs (top 9), defBody (top 9), defScope (top 9), [], []⟩
def dd__law_parted : He.DefD := ⟨("_law_parted", none), "_law_parted", "_law_parted", defArgs (top 10), defBody (top 10), defScope (top 10), [], []⟩
def dd__law_some_pairs : He.DefD := ⟨("_law_some_pairs", none), "_law_some_pairs", "_law_some_pairs", defArgs (top 11), defBody (top 11), defScope (top 11), [], []⟩
def dd_law : He.DefD := ⟨("law", none), "law", "law", defArgs (top 12), defBody (top 12), defScope (top 12), [], []⟩
def fn : List He.DefD := [dd_row, dd_summed, dd_divided, dd__law_bag, dd__law_pull, dd__law_like, dd__law_names, dd__law_total, dd__law_parted, dd__law_some_pairs, dd_law]
def fa0 : List He.Fa := [.glo "row", .glo "summed", .glo "divided", .glo "_law_bag", .glo "_law_pull", .glo "_law_like", .glo "_law_names", .glo "_law_total", .glo "_law_parted", .glo "_law_some_pairs", .glo "law", .free "all", .free "any", .free "bool", .free "int", .free "isinstance", .free "len", .free "list", .free "range", .free "sorted"]
def fa1 : List He.Fa := [.free "str", .free "sum", .free "tuple"]
def fa : List He.Fa := fa0 ++ (fa1)
def names0 : List PySem.Str := ["row", "summed", "divided", "_law_bag", "_law_pull", "_law_like", "_law_names", "_law_total", "_law_parted", "_law_some_pairs"]
def names : List PySem.Str := names0
abbrev R : PySem.W.OpenRow := PySem.W.OpenLaw.row PySem.Challenge.rw_webassize_k10_rows_added_and_divided
abbrev hk : PySem.W.Hook := He.hookD 4 fa fn
def ob (s : PySem.W.SharedT) : He.AlD := He.obsDG 4 fa fn (HandSHeadRun.getT s)
theorem ob_eq (s : PySem.W.SharedT) : ob s = hk.obs s.abs := He.obsDG_eq (HandSHeadRun.getT_eq s)
theorem run (w : World) : HandSHeadRun.RunEq R (PySem.W.view R.prog [12]) hk ob 800 names w := by
  intro os
  kernel_rfl
theorem fx_of {K : PySem.W.Frag} {h : Heap} {mg : Str → Option Value} (X : K.In h) (G : h.Ns mainGlobals mg) (c : He.SaysD fa fn K) : Nonempty (Fx K mg) := by
  obtain ⟨fd0, F0⟩ := c.def_ 0 (d := dd_row) rfl
  obtain ⟨fd1, F1⟩ := c.def_ 1 (d := dd_summed) rfl
  obtain ⟨fd2, F2⟩ := c.def_ 2 (d := dd_divided) rfl
  obtain ⟨fd3, F3⟩ := c.def_ 3 (d := dd__law_bag) rfl
  obtain ⟨fd4, F4⟩ := c.def_ 4 (d := dd__law_pull) rfl
  obtain ⟨fd5, F5⟩ := c.def_ 5 (d := dd__law_like) rfl
  obtain ⟨fd6, F6⟩ := c.def_ 6 (d := dd__law_names) rfl
  obtain ⟨fd7, F7⟩ := c.def_ 7 (d := dd__law_total) rfl
  obtain ⟨fd8, F8⟩ := c.def_ 8 (d := dd__law_parted) rfl
  obtain ⟨fd9, F9⟩ := c.def_ 9 (d := dd__law_some_pairs) rfl
  obtain ⟨fd10, F10⟩ := c.def_ 10 (d := dd_law) rfl
  exact ⟨{ fd_row := fd0, F_row := F0, g_row := He.glo_ok X G (c.fact 0 (f := .glo "row") rfl), fd_summed := fd1, F_summed := F1, g_summed := He.glo_ok X G (c.fact 1 (f := .glo "summed") rfl), fd_divided := fd2, F_divided := F2, g_divided := He.glo_ok X G (c.fact 2 (f := .glo "divided") rfl), fd__law_bag := fd3, F__law_bag := F3, g__law_bag := He.glo_ok X G (c.fact 3 (f := .glo "_law_bag") rfl), fd__law_pull := fd4, F__law_pull := F4, g__law_pull := He.glo_ok X G (c.fact 4 (f := .glo "_law_pull") rfl), fd__law_like := fd5, F__law_like := F5, g__law_like := He.glo_ok X G (c.fact 5 (f := .glo "_law_like") rfl), fd__law_names := fd6, F__law_names := F6, g__law_names := He.glo_ok X G (c.fact 6 (f := .glo "_law_names") rfl), fd__law_total := fd7, F__law_total := F7, g__law_total := He.glo_ok X G (c.fact 7 (f := .glo "_law_total") rfl), fd__law_parted := fd8, F__law_parted := F8, g__law_parted := He.glo_ok X G (c.fact 8 (f := .glo "_law_parted") rfl), fd__law_some_pairs := fd9, F__law_some_pairs := F9, g__law_some_pairs := He.glo_ok X G (c.fact 9 (f := .glo "_law_some_pairs") rfl), fd_law := fd10, F_law := F10, g_law := He.glo_ok X G (c.fact 10 (f := .glo "law") rfl), b_all := He.free_ok X G (c.fact 11 (f := .free "all") rfl), b_any := He.free_ok X G (c.fact 12 (f := .free "any") rfl), b_bool := He.free_ok X G (c.fact 13 (f := .free "bool") rfl), b_int := He.free_ok X G (c.fact 14 (f := .free "int") rfl), b_isinstance := He.free_ok X G (c.fact 15 (f := .free "isinstance") rfl), b_len := He.free_ok X G (c.fact 16 (f := .free "len") rfl), b_list := He.free_ok X G (c.fact 17 (f := .free "list") rfl), b_range := He.free_ok X G (c.fact 18 (f := .free "range") rfl), b_sorted := He.free_ok X G (c.fact 19 (f := .free "sorted") rfl), b_str := He.free_ok X G (c.fact 20 (f := .free "str") rfl), b_sum := He.free_ok X G (c.fact 21 (f := .free "sum") rfl), b_tuple := He.free_ok X G (c.fact 22 (f := .free "tuple") rfl) }⟩
end Law_k10
/-- the law, once the plain reading answers True -/
theorem Law_k10.close (hl : ∀ ns : List Int, ns.length ≤ 63 → (∀ z ∈ ns, PySem.Builtin.Int.intBits z ≤ 1048576) → ∃ A, MM.Prg.call Law_k10.Pr 60 "law" [.scr (ns.map .int)] [] = .ok (.bl true) A) : PySem.Challenge.rw_webassize_k10_rows_added_and_divided.Holds := by
  open PySem PySem.W PySem.Calls PyProof.Rows in
  w_on; o_law
  refine HandSHeadRun.head_any (r := OpenLaw.row PySem.Challenge.rw_webassize_k10_rows_added_and_divided) (q := view (OpenLaw.row PySem.Challenge.rw_webassize_k10_rows_added_and_divided).prog [12]) (H := Law_k10.hk) (ob := Law_k10.ob) (M := 800) (loose := Law_k10.names) (d := HandSHeadRun.topDef (OpenLaw.row PySem.Challenge.rw_webassize_k10_rows_added_and_divided).prog 12) (kwd := []) Law_k10.ob_eq
    (by kernel_rfl) (fun s => by kernel_rfl) Law_k10.run (by kernel_rfl) (by kernel_rfl) (by kernel_rfl) (by rfl) (by first | assumption | decide +kernel) (by decide +kernel) ⟨rfl, rfl, rfl, rfl, rfl, by decide +kernel⟩ ?hw ?hc
  case hw => w_witness2
  case hc =>
    refine MM.walk_ofEB (l := PySem.Challenge.rw_webassize_k10_rows_added_and_divided) (n := 63) (k := 60) (x := "script") (CX := fun w => L2.CX (PySem.Challenge.rw_webassize_k10_rows_added_and_divided).prog w) rfl (by decide) (by kernel_rfl) ⟨rfl, by decide, by decide⟩ ?F ?G
    case G =>
      intro w H s e s' h
      exact MM.cx_false h
    case F =>
      intro w mg fa h Y G hmg0
      obtain ⟨K, KX, c⟩ := Y
      have hmg : mg ("law" : PySem.Str) = some (.ref fa) := by
        have e : (HandSHeadRun.topDef (OpenLaw.row PySem.Challenge.rw_webassize_k10_rows_added_and_divided).prog 12).name = ("law" : PySem.Str) := by kernel_rfl
        rw [← e]
        exact hmg0
      obtain ⟨T⟩ := Law_k10.fx_of KX G c
      have e := hmg.symm.trans T.g_law
      cases e
      exact ⟨K, T.fd_law, MM.spM K Law_k10.Pr 60 "law", KX, fun s u => L2.FunD.bindsA (ps := ["script"]) T.F_law (fun _ _ _ _ _ _ us hl => match us, hl with | [_], _ => rfl) s [u] rfl, fun H a ns hl' hb hO hS => MM.law_sp hO hS (hl ns hl' hb), fun base _ _ => (Law_k10.oks T 60).law⟩

/-! S0: running the plain reading. -/
namespace MM
open PySem
/-! ### evaluation: what follows a step stands as a name of its own, so that it is looked at when its turn comes -/
@[simp] theorem R.bind_ok {α β : Type} (a : α) (A : Mh) (k : α → Mh → R β) : (R.ok a A).bind k = k a A := rfl
@[simp] theorem R.bind_bad {α β : Type} (k : α → Mh → R β) : (R.bad : R α).bind k = .bad := rfl
@[simp] theorem R.bindS_ok {α : Type} (a : α) (A : Mh) (ρ : Env) (k : α → Mh → RS) : (R.ok a A).bindS ρ k = k a A := rfl
@[simp] theorem RS.bind_nx (ρ : Env) (A : Mh) (k : Env → Mh → RS) : (RS.nx ρ A).bind k = k ρ A := rfl
@[simp] theorem RS.bind_rt (v : MV) (A : Mh) (k : Env → Mh → RS) : (RS.rt v A).bind k = .rt v A := rfl
@[simp] theorem RS.bind_ct (v : Env) (A : Mh) (k : Env → Mh → RS) : (RS.ct v A).bind k = .ct v A := rfl
@[simp] theorem RS.bind_bk (v : Env) (A : Mh) (k : Env → Mh → RS) : (RS.bk v A).bind k = .bk v A := rfl
@[simp] theorem R.of_some (v : MV) (A : Mh) : R.of (some (v, A)) = .ok v A := rfl
def pk2 {α : Type} (f g : Mh → α) (k : Bool) (A : Mh) : α := if k = true then f A else g A
@[simp] theorem pk2_t {α : Type} (f g : Mh → α) (A : Mh) : pk2 f g true A = f A := rfl
@[simp] theorem pk2_f {α : Type} (f g : Mh → α) (A : Mh) : pk2 f g false A = g A := rfl
section
variable (c : Ctx) (ρ : Env) (A : Mh)
@[simp] theorem eV_ap (i : Nat) : eV i c ρ A = match ρ[i]? with
  | some (some v) => .ok v A
  | _ => .bad := rfl
@[simp] theorem eC_ap (v : MV) : eC v c ρ A = .ok v A := rfl
def kB2r (f : B2) (x y : MV) (A : Mh) : R MV := .of (f x y A)
@[simp] theorem kB2r_ap (f : B2) (x y : MV) : kB2r f x y A = .of (f x y A) := rfl
def kB2 (f : B2) (b : ME) (c : Ctx) (ρ : Env) (x : MV) (A : Mh) : R MV := (b c ρ A).bind (kB2r f x)
@[simp] theorem kB2_ap (f : B2) (b : ME) (x : MV) : kB2 f b c ρ x A = (b c ρ A).bind (kB2r f x) := rfl
@[simp] theorem eB2_ap (f : B2) (a b : ME) : eB2 f a b c ρ A = (a c ρ A).bind (kB2 f b c ρ) := rfl
def kB1 (f : B1) (x : MV) (A : Mh) : R MV := .of (f x A)
@[simp] theorem kB1_ap (f : B1) (x : MV) : kB1 f x A = .of (f x A) := rfl
@[simp] theorem eB1_ap (f : B1) (a : ME) : eB1 f a c ρ A = (a c ρ A).bind (kB1 f) := rfl
@[simp] theorem aN_ap : aN c ρ A = .ok [] A := rfl
def kCr (x : MV) (xs : List MV) (A : Mh) : R (List MV) := .ok (x :: xs) A
@[simp] theorem kCr_ap (x : MV) (xs : List MV) : kCr x xs A = .ok (x :: xs) A := rfl
def kC (r : MA) (c : Ctx) (ρ : Env) (x : MV) (A : Mh) : R (List MV) := (r c ρ A).bind (kCr x)
@[simp] theorem kC_ap (r : MA) (x : MV) : kC r c ρ x A = (r c ρ A).bind (kCr x) := rfl
@[simp] theorem aC_ap (a : ME) (r : MA) : aC a r c ρ A = (a c ρ A).bind (kC r c ρ) := rfl
def kBN (f : BN) (xs : List MV) (A : Mh) : R MV := .of (f xs A)
@[simp] theorem kBN_ap (f : BN) (xs : List MV) : kBN f xs A = .of (f xs A) := rfl
@[simp] theorem eBN_ap (f : BN) (as : MA) : eBN f as c ρ A = (as c ρ A).bind (kBN f) := rfl
def kTup (xs : List MV) (A : Mh) : R MV := if xs.length ≤ 1000 then .ok (.tup xs) A else .bad
@[simp] theorem kTup_ap (xs : List MV) : kTup xs A = if xs.length ≤ 1000 then .ok (.tup xs) A else .bad := rfl
@[simp] theorem eTup_ap (as : MA) : eTup as c ρ A = (as c ρ A).bind kTup := rfl
def kLst (xs : List MV) (A : Mh) : R MV := if xs.length ≤ 1000 then .ok (.ref A.length) (A ++ [.lst xs]) else .bad
@[simp] theorem kLst_ap (xs : List MV) : kLst xs A = if xs.length ≤ 1000 then .ok (.ref A.length) (A ++ [.lst xs]) else .bad := rfl
@[simp] theorem eLst_ap (as : MA) : eLst as c ρ A = (as c ρ A).bind kLst := rfl
@[simp] theorem eIf_ap (t : MT) (a b : ME) : eIf t a b c ρ A = (t c ρ A).bind (pk2 (a c ρ) (b c ρ)) := rfl
def kNotv (x : MV) (A : Mh) : R MV := match x with
  | .bl k => .ok (.bl (!k)) A
  | _ => .bad
@[simp] theorem kNotv_ap (k : Bool) : kNotv (.bl k) A = .ok (.bl (!k)) A := rfl
@[simp] theorem eNot_ap (a : ME) : eNot a c ρ A = (a c ρ A).bind kNotv := rfl
def kAnd (b : ME) (c : Ctx) (ρ : Env) (x : MV) (A : Mh) : R MV := match x with
  | .bl k => pk2 (b c ρ) (.ok (.bl false)) k A
  | _ => .bad
@[simp] theorem kAnd_ap (b : ME) (k : Bool) : kAnd b c ρ (.bl k) A = pk2 (b c ρ) (.ok (.bl false)) k A := rfl
@[simp] theorem eAnd_ap (a b : ME) : eAnd a b c ρ A = (a c ρ A).bind (kAnd b c ρ) := by
  unfold eAnd
  congr
  funext x A1
  cases x <;> try rfl
  rename_i k
  cases k <;> rfl
def kOr (b : ME) (c : Ctx) (ρ : Env) (x : MV) (A : Mh) : R MV := match x with
  | .bl k => pk2 (.ok (.bl true)) (b c ρ) k A
  | _ => .bad
@[simp] theorem kOr_ap (b : ME) (k : Bool) : kOr b c ρ (.bl k) A = pk2 (.ok (.bl true)) (b c ρ) k A := rfl
@[simp] theorem eOr_ap (a b : ME) : eOr a b c ρ A = (a c ρ A).bind (kOr b c ρ) := by
  unfold eOr
  congr
  funext x A1
  cases x <;> try rfl
  rename_i k
  cases k <;> rfl
def kChz (g : B2) (y z : MV) (A : Mh) : R MV := .of (g y z A)
@[simp] theorem kChz_ap (g : B2) (y z : MV) : kChz g y z A = .of (g y z A) := rfl
def kChd (g : B2) (d : ME) (c : Ctx) (ρ : Env) (y : MV) (A : Mh) : R MV := (d c ρ A).bind (kChz g y)
@[simp] theorem kChd_ap (g : B2) (d : ME) (y : MV) : kChd g d c ρ y A = (d c ρ A).bind (kChz g y) := rfl
def kChk (g : B2) (d : ME) (c : Ctx) (ρ : Env) (y : MV) (k : MV) (A : Mh) : R MV := match k with
  | .bl k => pk2 (kChd g d c ρ y) (.ok (.bl false)) k A
  | _ => .bad
@[simp] theorem kChk_ap (g : B2) (d : ME) (y : MV) (k : Bool) : kChk g d c ρ y (.bl k) A = pk2 (kChd g d c ρ y) (.ok (.bl false)) k A := rfl
def kChy (f g : B2) (d : ME) (c : Ctx) (ρ : Env) (x y : MV) (A : Mh) : R MV := (R.of (f x y A)).bind (kChk g d c ρ y)
@[simp] theorem kChy_ap (f g : B2) (d : ME) (x y : MV) : kChy f g d c ρ x y A = (R.of (f x y A)).bind (kChk g d c ρ y) := rfl
def kChx (f g : B2) (b d : ME) (c : Ctx) (ρ : Env) (x : MV) (A : Mh) : R MV := (b c ρ A).bind (kChy f g d c ρ x)
@[simp] theorem kChx_ap (f g : B2) (b d : ME) (x : MV) : kChx f g b d c ρ x A = (b c ρ A).bind (kChy f g d c ρ x) := rfl
@[simp] theorem eCh_ap (f g : B2) (a b d : ME) : eCh f g a b d c ρ A = (a c ρ A).bind (kChx f g b d c ρ) := by
  unfold eCh
  congr
  funext x A1
  show _ = (b c ρ A1).bind (kChy f g d c ρ x)
  congr
  funext y A2
  show _ = (R.of (f x y A2)).bind (kChk g d c ρ y)
  congr
  funext z A3
  cases z <;> try rfl
  rename_i k
  cases k <;> rfl
def kCall (c : Ctx) (f : Str) (g : List MV → List MV) (xs : List MV) (A : Mh) : R MV := c.call f (g xs) A
@[simp] theorem kCall_ap (f : Str) (g : List MV → List MV) (xs : List MV) : kCall c f g xs A = c.call f (g xs) A := rfl
@[simp] theorem eCall_ap (f : Str) (as : MA) (g : List MV → List MV) : eCall f as g c ρ A = (as c ρ A).bind (kCall c f g) := rfl
def kCallKr (c : Ctx) (f : Str) (sp : List Src) (ds : List MV) (n m : Nat) (xs zs : List MV) (A : Mh) : R MV := if xs.length = n ∧ zs.length = m then c.call f (pick .non sp xs zs ds) A else .bad
@[simp] theorem kCallKr_ap (f : Str) (sp : List Src) (ds : List MV) (n m : Nat) (xs zs : List MV) : kCallKr c f sp ds n m xs zs A = if xs.length = n ∧ zs.length = m then c.call f (pick .non sp xs zs ds) A else .bad := rfl
def kCallK (c : Ctx) (ρ : Env) (f : Str) (sp : List Src) (ds : List MV) (n m : Nat) (ks : MA) (xs : List MV) (A : Mh) : R MV := (ks c ρ A).bind (kCallKr c f sp ds n m xs)
@[simp] theorem kCallK_ap (f : Str) (sp : List Src) (ds : List MV) (n m : Nat) (ks : MA) (xs : List MV) : kCallK c ρ f sp ds n m ks xs A = (ks c ρ A).bind (kCallKr c f sp ds n m xs) := rfl
@[simp] theorem eCallK_ap (f : Str) (sp : List Src) (ds : List MV) (n m : Nat) (as ks : MA) : eCallK f sp ds n m as ks c ρ A = (as c ρ A).bind (kCallK c ρ f sp ds n m ks) := rfl
def kBMr (f : MV → BN) (x : MV) (xs : List MV) (A : Mh) : R MV := .of (f x xs A)
@[simp] theorem kBMr_ap (f : MV → BN) (x : MV) (xs : List MV) : kBMr f x xs A = .of (f x xs A) := rfl
def kBM (T : TN) (f : MV → BN) (as : MA) (c : Ctx) (ρ : Env) (x : MV) (A : Mh) : R MV := if tyOf x A = some T then (as c ρ A).bind (kBMr f x) else .bad
@[simp] theorem kBM_ap (T : TN) (f : MV → BN) (as : MA) (x : MV) : kBM T f as c ρ x A = if tyOf x A = some T then (as c ρ A).bind (kBMr f x) else .bad := rfl
@[simp] theorem eBM_ap (T : TN) (f : MV → BN) (o : ME) (as : MA) : eBM T f o as c ρ A = (o c ρ A).bind (kBM T f as c ρ) := rfl
@[simp] theorem oN_ap : oN c ρ A = .ok none A := rfl
def kS (x : MV) (A : Mh) : R (Option Int) := match x with
  | .int i => .ok (some i) A
  | _ => .bad
@[simp] theorem kS_ap (i : Int) : kS (.int i) A = .ok (some i) A := rfl
@[simp] theorem oS_ap (a : ME) : oS a c ρ A = (a c ρ A).bind kS := rfl
def kSl3 (x : MV) (l h : Option Int) (A : Mh) : R MV := .of (vSl x l h A)
@[simp] theorem kSl3_ap (x : MV) (l h : Option Int) : kSl3 x l h A = .of (vSl x l h A) := rfl
def kSl2 (hi : MO2) (c : Ctx) (ρ : Env) (x : MV) (l : Option Int) (A : Mh) : R MV := (hi c ρ A).bind (kSl3 x l)
@[simp] theorem kSl2_ap (hi : MO2) (x : MV) (l : Option Int) : kSl2 hi c ρ x l A = (hi c ρ A).bind (kSl3 x l) := rfl
def kSl (lo hi : MO2) (c : Ctx) (ρ : Env) (x : MV) (A : Mh) : R MV := (lo c ρ A).bind (kSl2 hi c ρ x)
@[simp] theorem kSl_ap (lo hi : MO2) (x : MV) : kSl lo hi c ρ x A = (lo c ρ A).bind (kSl2 hi c ρ x) := rfl
@[simp] theorem eSl_ap (a : ME) (lo hi : MO2) : eSl a lo hi c ρ A = (a c ρ A).bind (kSl lo hi c ρ) := rfl
@[simp] theorem eDict0_ap : eDict0 c ρ A = .ok (.ref A.length) (A ++ [.dct []]) := rfl
def kGet3 (x y z : MV) (A : Mh) : R MV := match dictAt x A with
  | some (_, kvs) => if isKey y = true then .ok ((dGet kvs y).getD z) A else .bad
  | none => .bad
@[simp] theorem kGet3_ap (x y z : MV) : kGet3 x y z A = match dictAt x A with
  | some (_, kvs) => if isKey y = true then .ok ((dGet kvs y).getD z) A else .bad
  | none => .bad := rfl
def kGet2 (d : ME) (c : Ctx) (ρ : Env) (x y : MV) (A : Mh) : R MV := (d c ρ A).bind (kGet3 x y)
@[simp] theorem kGet2_ap (d : ME) (x y : MV) : kGet2 d c ρ x y A = (d c ρ A).bind (kGet3 x y) := rfl
def kGet (k d : ME) (c : Ctx) (ρ : Env) (x : MV) (A : Mh) : R MV := if tyOf x A = some .dct then (k c ρ A).bind (kGet2 d c ρ x) else .bad
@[simp] theorem kGet_ap (k d : ME) (x : MV) : kGet k d c ρ x A = if tyOf x A = some .dct then (k c ρ A).bind (kGet2 d c ρ x) else .bad := rfl
@[simp] theorem eGet2_ap (o k d : ME) : eGet2 o k d c ρ A = (o c ρ A).bind (kGet k d c ρ) := rfl
def kVal (x : MV) (A : Mh) : R Bool := match x with
  | .bl k => .ok k A
  | _ => .bad
@[simp] theorem kVal_ap (k : Bool) : kVal (.bl k) A = .ok k A := rfl
@[simp] theorem tVal_ap (a : ME) : tVal a c ρ A = (a c ρ A).bind kVal := rfl
def kNot (k : Bool) (A : Mh) : R Bool := .ok (!k) A
@[simp] theorem kNot_ap (k : Bool) : kNot k A = .ok (!k) A := rfl
@[simp] theorem tNot_ap (a : MT) : tNot a c ρ A = (a c ρ A).bind kNot := rfl
@[simp] theorem tAnd_ap (a b : MT) : tAnd a b c ρ A = (a c ρ A).bind (pk2 (b c ρ) (.ok false)) := rfl
@[simp] theorem tOr_ap (a b : MT) : tOr a b c ρ A = (a c ρ A).bind (pk2 (.ok true) (b c ρ)) := rfl
@[simp] theorem tYes_ap : tYes c ρ A = .ok true A := rfl
@[simp] theorem sNil_ap : sNil c ρ A = .nx ρ A := rfl
@[simp] theorem sSeq_ap (a b : MS) : sSeq a b c ρ A = (a c ρ A).bind (b c) := rfl
@[simp] theorem sRet_ap (e : ME) : sRet e c ρ A = (e c ρ A).bindS ρ .rt := rfl
@[simp] theorem sRetN_ap : sRetN c ρ A = .rt .non A := rfl
def kExp (ρ : Env) (_ : MV) (A : Mh) : RS := .nx ρ A
@[simp] theorem kExp_ap (v : MV) : kExp ρ v A = .nx ρ A := rfl
@[simp] theorem sExp_ap (e : ME) : sExp e c ρ A = (e c ρ A).bindS ρ (kExp ρ) := rfl
@[simp] theorem sIf_ap (t : MT) (a b : MS) : sIf t a b c ρ A = (t c ρ A).bindS ρ (pk2 (a c ρ) (b c ρ)) := rfl
@[simp] theorem sCont_ap : sCont c ρ A = .ct ρ A := rfl
@[simp] theorem sBrk_ap : sBrk c ρ A = .bk ρ A := rfl
@[simp] theorem gV_ap (i : Nat) (v : MV) : gV i v c ρ A = .nx (ρ.set i (some v)) A := rfl
def kAsg (g : MG) (c : Ctx) (ρ : Env) (v : MV) (A : Mh) : RS := g v c ρ A
@[simp] theorem kAsg_ap (g : MG) (v : MV) : kAsg g c ρ v A = g v c ρ A := rfl
@[simp] theorem sAsg_ap (e : ME) (g : MG) : sAsg e g c ρ A = (e c ρ A).bindS ρ (kAsg g c ρ) := rfl
@[simp] theorem gEach_nil : gEach [] [] c ρ A = .nx ρ A := rfl
@[simp] theorem gEach_cons (g : MG) (gs : List MG) (v : MV) (vs : List MV) : gEach (g :: gs) (v :: vs) c ρ A = (g v c ρ A).bind (gEach gs vs c) := rfl
@[simp] theorem gTup_tup (gs : List MG) (vs : List MV) : gTup gs (.tup vs) c ρ A = gEach gs vs c ρ A := rfl
def kSub3 (ρ : Env) (o : Option Mh) : RS := match o with
  | some A3 => .nx ρ A3
  | none => .bad
@[simp] theorem kSub3_ap : kSub3 ρ (some A) = .nx ρ A := rfl
def kSub2 (f : B3) (ρ : Env) (v x : MV) (r : R MV) : RS := match r with
  | .ok y A2 => kSub3 ρ (f x y v A2)
  | _ => .bad
@[simp] theorem kSub2_ap (f : B3) (v x y : MV) : kSub2 f ρ v x (.ok y A) = kSub3 ρ (f x y v A) := rfl
def kSub (f : B3) (i : ME) (c : Ctx) (ρ : Env) (v : MV) (r : R MV) : RS := match r with
  | .ok x A1 => kSub2 f ρ v x (i c ρ A1)
  | _ => .bad
@[simp] theorem kSub_ap (f : B3) (i : ME) (v x : MV) : kSub f i c ρ v (.ok x A) = kSub2 f ρ v x (i c ρ A) := rfl
@[simp] theorem gSub_ap (f : B3) (o i : ME) (v : MV) : gSub f o i v c ρ A = kSub f i c ρ v (o c ρ A) := by
  unfold gSub kSub kSub2 kSub3
  cases o c ρ A with
  | ok x A1 =>
    dsimp only
    all_goals (cases i c ρ A1 <;> rfl)
  | _ => rfl
def kAug3 (ρ : Env) (i : Nat) (z : MV) (A : Mh) : RS := .nx (ρ.set i (some z)) A
@[simp] theorem kAug3_ap (i : Nat) (z : MV) : kAug3 ρ i z A = .nx (ρ.set i (some z)) A := rfl
def kAug2 (f : B2) (ρ : Env) (i : Nat) (x y : MV) (A : Mh) : RS := (R.of (f x y A)).bindS ρ (kAug3 ρ i)
@[simp] theorem kAug2_ap (f : B2) (i : Nat) (x y : MV) : kAug2 f ρ i x y A = (R.of (f x y A)).bindS ρ (kAug3 ρ i) := rfl
def kAug (f : B2) (e : ME) (c : Ctx) (ρ : Env) (i : Nat) (A : Mh) (o : Option (Option MV)) : RS := match o with
  | some (some x) => (e c ρ A).bindS ρ (kAug2 f ρ i x)
  | _ => .bad
@[simp] theorem kAug_ap (f : B2) (e : ME) (i : Nat) (x : MV) : kAug f e c ρ i A (some (some x)) = (e c ρ A).bindS ρ (kAug2 f ρ i x) := rfl
@[simp] theorem sAug_ap (i : Nat) (f : B2) (e : ME) : sAug i f e c ρ A = kAug f e c ρ i A ρ[i]? := by
  unfold sAug kAug
  rcases ρ[i]? with _ | _ | x <;> rfl
def fTurn (g : MG) (body : MS) (c : Ctx) (x : MV) (ρ : Env) (A : Mh) : RS := (g x c ρ A).bind (body c)
@[simp] theorem fTurn_ap (g : MG) (body : MS) (x : MV) : fTurn g body c x ρ A = (g x c ρ A).bind (body c) := rfl
noncomputable def kFor (g : MG) (body : MS) (c : Ctx) (ρ : Env) (w : Walk) (A : Mh) : RS := forL w.still (fTurn g body c) w.items ρ A
@[simp] theorem kFor_ap (g : MG) (body : MS) (w : Walk) : kFor g body c ρ w A = forL w.still (fTurn g body c) w.items ρ A := rfl
@[simp] theorem sFor_ap (it : MI) (g : MG) (body : MS) : sFor it g body c ρ A = (it c ρ A).bindS ρ (kFor g body c ρ) := rfl
/-! ### ops by what they take -/
@[simp] theorem vAdd_i (i j : Int) : vAdd (.int i) (.int j) A = some (.int (i + j), A) := rfl
@[simp] theorem vAug_i (i j : Int) : vAug (.int i) (.int j) A = some (.int (i + j), A) := rfl
@[simp] theorem vSub_i (i j : Int) : vSub (.int i) (.int j) A = some (.int (i - j), A) := rfl
theorem vMul_i (i j : Int) (h : i.natAbs.log2 + j.natAbs.log2 < 1000000) : vMul (.int i) (.int j) A = some (.int (i * j), A) := if_pos h
theorem vDiv_i (i j : Int) (h : 0 < j) (h2 : j.natAbs.log2 < 9000) : vDiv (.int i) (.int j) A = some (.int (i / j), A) := if_pos ⟨h, h2⟩
theorem vMod_i (i j : Int) (h : 0 < j) : vMod (.int i) (.int j) A = some (.int (i % j), A) := if_pos h
theorem vPow_i (i j : Int) (h : 0 ≤ j ∧ j ≤ 1000000 ∧ i.natAbs < 2 ^ 64) : vPow (.int i) (.int j) A = some (.int (i ^ j.toNat), A) := if_pos h
@[simp] theorem vNeg_i (i : Int) : vNeg (.int i) A = some (.int (-i), A) := rfl
@[simp] theorem vLt_i (i j : Int) : vLt (.int i) (.int j) A = some (.bl (decide (i < j)), A) := rfl
@[simp] theorem vLe_i (i j : Int) : vLe (.int i) (.int j) A = some (.bl (decide (i ≤ j)), A) := rfl
@[simp] theorem vGt_i (i j : Int) : vGt (.int i) (.int j) A = some (.bl (decide (j < i)), A) := rfl
@[simp] theorem vGe_i (i j : Int) : vGe (.int i) (.int j) A = some (.bl (decide (j ≤ i)), A) := rfl
@[simp] theorem vEq_i (i j : Int) : vEq (.int i) (.int j) A = some (.bl (decide (i = j)), A) := rfl
@[simp] theorem vNe_i (i j : Int) : vNe (.int i) (.int j) A = some (.bl (!decide (i = j)), A) := rfl
@[simp] theorem vEq_s (i j : Str) : vEq (.str i) (.str j) A = some (.bl (decide (i = j)), A) := rfl
@[simp] theorem vNe_s (i j : Str) : vNe (.str i) (.str j) A = some (.bl (!decide (i = j)), A) := rfl
@[simp] theorem vEq_b (i j : Bool) : vEq (.bl i) (.bl j) A = some (.bl (decide (i = j)), A) := rfl
@[simp] theorem vNe_b (i j : Bool) : vNe (.bl i) (.bl j) A = some (.bl (!decide (i = j)), A) := rfl
variable {A}
theorem vIdxD_l {p : Nat} {xs : List MV} (i : Int) (h : A[p]? = some (.lst xs)) : vIdxD (.ref p) (.int i) A = (L2.atI xs i).map (·, A) := by
  simp [vIdxD, dictAt, vIdx, seqOf, h]
theorem vIdxD_t {xs : List MV} (i : Int) : vIdxD (.tup xs) (.int i) A = (L2.atI xs i).map (·, A) := rfl
theorem vIdxD_d {p : Nat} {kvs : List (MV × MV)} {y : MV} (h : A[p]? = some (.dct kvs)) (hk : isKey y = true) : vIdxD (.ref p) y A = (dGet kvs y).map (·, A) := by
  simp [vIdxD, dictAt, h, hk]
theorem setD_l {p : Nat} {xs : List MV} (i : Int) (v : MV) (h : A[p]? = some (.lst xs)) : setD (.ref p) (.int i) v A = (L2.ixN xs.length i).map fun j => A.set p (.lst (xs.set j v)) := by
  simp [setD, dictAt, setL, h]
theorem setD_d {p : Nat} {kvs : List (MV × MV)} {y : MV} (v : MV) (h : A[p]? = some (.dct kvs)) (hk : isKey y = true) (hl : kvs.length < 1000000) : setD (.ref p) y v A = some (A.set p (.dct (dPut kvs y v))) := by
  simp [setD, dictAt, h, hk, hl]
theorem bLen_l {p : Nat} {xs : List MV} (h : A[p]? = some (.lst xs)) : bLen [.ref p] A = some (.int xs.length, A) := by
  simp [bLen, seqOf, h]
@[simp] theorem bLen_t {xs : List MV} : bLen [.tup xs] A = some (.int xs.length, A) := rfl
theorem tyOf_l {p : Nat} {xs : List MV} (h : A[p]? = some (.lst xs)) : tyOf (.ref p) A = some .lst := by simp [tyOf, h]
theorem tyOf_d {p : Nat} {xs : List (MV × MV)} (h : A[p]? = some (.dct xs)) : tyOf (.ref p) A = some .dct := by simp [tyOf, h]
theorem mAppend_l {p : Nat} {xs : List MV} {v : MV} (h : A[p]? = some (.lst xs)) (hl : xs.length < 1000000) : mAppend (.ref p) [v] A = some (.non, A.set p (.lst (xs ++ [v]))) := by simp [mAppend, h, hl]
variable (A)
@[simp] theorem vIdxD_r (p : Nat) (y : MV) : vIdxD (.ref p) y A = match A[p]? with
  | some (.lst xs) => (match y with
    | .int i => (L2.atI xs i).map (·, A)
    | _ => none)
  | some (.dct kvs) => if isKey y = true then (dGet kvs y).map (·, A) else none
  | _ => none := by
  unfold vIdxD dictAt vIdx seqOf
  cases h : A[p]? with
  | none => cases y <;> simp [h]
  | some o => cases o <;> cases y <;> simp [h]
@[simp] theorem vIdxD_tu (xs : List MV) (i : Int) : vIdxD (.tup xs) (.int i) A = (L2.atI xs i).map (·, A) := rfl
@[simp] theorem setD_r (p : Nat) (y v : MV) : setD (.ref p) y v A = match A[p]? with
  | some (.lst xs) => (match y with
    | .int i => (L2.ixN xs.length i).map fun j => A.set p (.lst (xs.set j v))
    | _ => none)
  | some (.dct kvs) => if isKey y = true ∧ kvs.length < 1000000 then some (A.set p (.dct (dPut kvs y v))) else none
  | _ => none := by
  unfold setD dictAt setL
  cases h : A[p]? with
  | none => cases y <;> simp [h]
  | some o => cases o <;> cases y <;> simp [h]
@[simp] theorem bLen_r (p : Nat) : bLen [.ref p] A = match A[p]? with
  | some (.lst xs) => some (.int xs.length, A)
  | _ => none := by
  unfold bLen seqOf
  cases h : A[p]? with
  | none => simp [h]
  | some o => cases o <;> simp [h]
@[simp] theorem mExtend_r (p q : Nat) : mExtend (.ref p) [.ref q] A = match A[p]?, A[q]? with
  | some (.lst ys), some (.lst zs) => if ys.length + zs.length ≤ 1000000 then some (.non, A.set p (.lst (ys ++ zs))) else none
  | _, _ => none := by
  unfold mExtend listAt
  cases h : A[p]? with
  | none => simp [h]
  | some o =>
    cases h2 : A[q]? with
    | none => cases o <;> simp [h, h2]
    | some o2 => cases o <;> cases o2 <;> simp [h, h2]
@[simp] theorem bTuple_r (p : Nat) : bTuple [.ref p] A = match A[p]? with
  | some (.lst ys) => some (.tup ys, A)
  | _ => none := rfl
@[simp] theorem bList_r (p : Nat) : bList [.ref p] A = match A[p]? with
  | some (.lst ys) => newL ys A
  | _ => none := by
  unfold bList seqOf
  cases h : A[p]? with
  | none => simp [h]
  | some o => cases o <;> simp [h]
@[simp] theorem get_add (A X : Mh) (n : Nat) : (A ++ X)[A.length + n]? = X[n]? := by
  rw [List.getElem?_append_right (by omega)]
  congr 1
  omega
@[simp] theorem tyOf_r (p : Nat) : tyOf (.ref p) A = match A[p]? with
  | some (.lst _) => some .lst
  | some (.dct _) => some .dct
  | some (.dctT _) => some .dct
  | _ => none := rfl
@[simp] theorem mAppend_r (p : Nat) (v : MV) : mAppend (.ref p) [v] A = match A[p]? with
  | some (.lst ys) => if ys.length < 1000000 then some (.non, A.set p (.lst (ys ++ [v]))) else none
  | _ => none := rfl
end
/-! ### a def's run -/
def RS.fin : RS → R MV
  | .nx _ A => .ok .non A
  | .rt v A => .ok v A
  | .exc C fs _ A => .exc C fs A
  | _ => .bad
@[simp] theorem fin_nx (ρ : Env) (A : Mh) : (RS.nx ρ A).fin = .ok .non A := rfl
@[simp] theorem fin_rt (v : MV) (A : Mh) : (RS.rt v A).fin = .ok v A := rfl
theorem call_run {P : Prg} {f : Str} {d : MD} (h : P.defs f = some d) (k : Nat) (xs : List MV) (A : Mh) (hl : xs.length = d.arity) :
    P.call (k + 1) f xs A = (d.body (P.ctx k) (xs.map some ++ List.replicate (d.slots - xs.length) none) A).fin := by
  rw [Prg.call_succ, h]
  show runD d (P.ctx k) xs A = _
  unfold runD
  rw [if_pos hl]
  cases d.body (P.ctx k) (xs.map some ++ List.replicate (d.slots - xs.length) none) A <;> rfl
@[simp] theorem ctx_call (P : Prg) (k : Nat) : (P.ctx k).call = P.call k := rfl
/-! ### places -/
theorem lt_len {A : Mh} {b : Nat} {o : MO} (h : A[b]? = some o) : b < A.length := (List.getElem?_eq_some_iff.mp h).1
theorem set_same {A : Mh} {b : Nat} {o u : MO} (h : A[b]? = some o) : (A.set b u)[b]? = some u := List.getElem?_set_self (lt_len h)
theorem atI_cons {α : Type} (xs : List α) (k : Nat) (h : k < xs.length) : L2.atI xs (k : Int) = some xs[k] := by
  unfold L2.atI L2.ixN
  have h1 : ¬ ((k : Int) < 0) := by omega
  simp [h1, h]
theorem atI_nat {α : Type} (xs : List α) (k : Nat) : L2.atI xs (k : Int) = xs[k]? := by
  by_cases h : k < xs.length
  · rw [atI_cons xs k h, List.getElem?_eq_getElem h]
  · rw [List.getElem?_eq_none (by omega)]
    unfold L2.atI L2.ixN
    have h1 : ¬ ((k : Int) < xs.length) := by omega
    simp [h]
theorem atI_get {α : Type} {xs : List α} {i : Int} (h0 : 0 ≤ i) (h : i < xs.length) : ∃ (k : Nat) (hk : k < xs.length), i = k ∧ L2.atI xs i = some xs[k] := by
  obtain ⟨k, rfl⟩ := Int.eq_ofNat_of_zero_le h0
  exact ⟨k, by omega, rfl, atI_cons xs k (by omega)⟩
@[simp] theorem at0 {α : Type} (a : α) (r : List α) : L2.atI (a :: r) 0 = some a := atI_cons (a :: r) 0 (by simp)
@[simp] theorem at1 {α : Type} (a b : α) (r : List α) : L2.atI (a :: b :: r) 1 = some b := atI_cons (a :: b :: r) 1 (by simp)
@[simp] theorem at2 {α : Type} (a b c : α) (r : List α) : L2.atI (a :: b :: c :: r) 2 = some c := atI_cons (a :: b :: c :: r) 2 (by simp)
@[simp] theorem at3 {α : Type} (a b c d : α) (r : List α) : L2.atI (a :: b :: c :: d :: r) 3 = some d := atI_cons (a :: b :: c :: d :: r) 3 (by simp)
@[simp] theorem ixN4_0 : L2.ixN 4 0 = some 0 := rfl
@[simp] theorem ixN4_1 : L2.ixN 4 1 = some 1 := rfl
@[simp] theorem ixN4_2 : L2.ixN 4 2 = some 2 := rfl
@[simp] theorem ixN4_3 : L2.ixN 4 3 = some 3 := rfl
/-! ### loops -/
theorem forL_nx {still : Mh → Prop} {turn : MV → Env → Mh → RS} (I : List MV → Env → Mh → Prop) (hst : ∀ xs ρ A, I xs ρ A → still A)
    (h : ∀ x xs ρ A, I (x :: xs) ρ A → ∃ ρ1 A1, (turn x ρ A = .nx ρ1 A1 ∨ turn x ρ A = .ct ρ1 A1) ∧ I xs ρ1 A1) : ∀ items ρ A, I items ρ A → ∃ ρ1 A1, forL still turn items ρ A = .nx ρ1 A1 ∧ I [] ρ1 A1
  | [], ρ, A, i => ⟨ρ, A, by unfold forL; rw [if_pos (hst _ _ _ i)], i⟩
  | x :: xs, ρ, A, i => by
    obtain ⟨ρ1, A1, e, i1⟩ := h x xs ρ A i
    obtain ⟨ρ2, A2, e2, i2⟩ := forL_nx I hst h xs ρ1 A1 i1
    refine ⟨ρ2, A2, ?_, i2⟩
    unfold forL
    rw [if_pos (hst _ _ _ i)]
    rcases e with e | e
    · rw [e]; exact e2
    · rw [e]; exact e2
/-- with a way out by return -/
theorem forL_rt {still : Mh → Prop} {turn : MV → Env → Mh → RS} (I : List MV → Env → Mh → Prop) (V : MV → Mh → Prop) (hst : ∀ xs ρ A, I xs ρ A → still A)
    (h : ∀ x xs ρ A, I (x :: xs) ρ A → (∃ ρ1 A1, (turn x ρ A = .nx ρ1 A1 ∨ turn x ρ A = .ct ρ1 A1) ∧ I xs ρ1 A1) ∨ ∃ v A1, turn x ρ A = .rt v A1 ∧ V v A1) :
    ∀ items ρ A, I items ρ A → (∃ ρ1 A1, forL still turn items ρ A = .nx ρ1 A1 ∧ I [] ρ1 A1) ∨ ∃ v A1, forL still turn items ρ A = .rt v A1 ∧ V v A1
  | [], ρ, A, i => .inl ⟨ρ, A, by unfold forL; rw [if_pos (hst _ _ _ i)], i⟩
  | x :: xs, ρ, A, i => by
    rcases h x xs ρ A i with ⟨ρ1, A1, e, i1⟩ | ⟨v, A1, e, hv⟩
    · have z : forL still turn (x :: xs) ρ A = forL still turn xs ρ1 A1 := by
        conv => lhs; unfold forL
        rw [if_pos (hst _ _ _ i)]
        rcases e with e | e <;> rw [e]
      rw [z]
      exact forL_rt I V hst h xs ρ1 A1 i1
    · refine .inr ⟨v, A1, ?_, hv⟩
      unfold forL
      rw [if_pos (hst _ _ _ i), e]
def cTurn (g : MG) (t : MT) (e : ME) (c : Ctx) (ρ : Env) (x : MV) (A : Mh) : R (Option MV) := match g x c ρ A with
  | .nx ρ2 A3 => (match t c ρ2 A3 with
    | .ok k A4 => if k = true then (match e c ρ2 A4 with
      | .ok v A5 => .ok (some v) A5
      | _ => .bad) else .ok none A4
    | _ => .bad)
  | _ => .bad
theorem eComp_ap (own : List Nat) (it : MI) (g : MG) (t : MT) (e : ME) (c : Ctx) (ρ : Env) (A : Mh) : eComp own it g t e c ρ A = (it c ρ A).bind fun w A1 => compL w.still (cTurn g t e c (wipeE ρ own)) A1.length w.items (A1 ++ [.lst []]) := rfl
theorem compL_rel {still : Mh → Prop} {turn : MV → Mh → R (Option MV)} {D : Nat} (I : List MV → List MV → Mh → Prop)
    (hst : ∀ xs acc A, I xs acc A → A[D]? = some (.lst acc) → still A)
    (h : ∀ x xs acc A, I (x :: xs) acc A → A[D]? = some (.lst acc) → ∃ o A1, turn x A = .ok o A1 ∧ A1[D]? = some (.lst acc) ∧ (match o with
      | none => I xs acc A1
      | some v => acc.length < 100000 ∧ I xs (acc ++ [v]) (A1.set D (.lst (acc ++ [v]))))) :
    ∀ items acc A, I items acc A → A[D]? = some (.lst acc) → ∃ acc' A', compL still turn D items A = .ok (.ref D) A' ∧ A'[D]? = some (.lst acc') ∧ I [] acc' A'
  | [], acc, A, i, d => ⟨acc, A, by unfold compL; rw [if_pos (hst _ _ _ i d)], d, i⟩
  | x :: xs, acc, A, i, d => by
    obtain ⟨o, A1, e, d1, r⟩ := h x xs acc A i d
    unfold compL
    rw [if_pos (hst _ _ _ i d), e]
    cases o with
    | none => exact compL_rel I hst h xs acc A1 r d1
    | some v =>
      have r' : acc.length < 100000 ∧ I xs (acc ++ [v]) (A1.set D (.lst (acc ++ [v]))) := r
      simp only [R.bind_ok, d1, if_pos r'.1]
      exact compL_rel I hst h xs _ _ r'.2 (set_same d1)
/-- a comprehension that changes nothing older: only new objects -/
theorem eComp_new {own : List Nat} {it : MI} {g : MG} {t : MT} {e : ME} {c : Ctx} {ρ : Env} {A A1 : Mh} {w : Walk} (hit : it c ρ A = .ok w A1) (G : MV → Option MV) (hst : ∀ Y, w.still (A1 ++ Y)) (hl : w.items.length < 100000)
    (h : ∀ x ∈ w.items, ∀ Y, ∃ Z, cTurn g t e c (wipeE ρ own) x (A1 ++ Y) = .ok (G x) (A1 ++ Y ++ Z)) :
    ∃ Y, eComp own it g t e c ρ A = .ok (.ref A1.length) (A1 ++ .lst (w.items.filterMap G) :: Y) := by
  rw [eComp_ap, hit]
  simp only [R.bind_ok]
  have key : ∀ items acc Y, (∀ x ∈ items, x ∈ w.items) → acc.length + items.length < 100000 → ∃ Y', compL w.still (cTurn g t e c (wipeE ρ own)) A1.length items (A1 ++ .lst acc :: Y) = .ok (.ref A1.length) (A1 ++ .lst (acc ++ items.filterMap G) :: Y') := by
    intro items
    induction items with
    | nil =>
      intro acc Y _ _
      refine ⟨Y, ?_⟩
      unfold compL
      rw [if_pos (hst _)]
      simp
    | cons x xs ih =>
      intro acc Y hm hb
      obtain ⟨Z, ez⟩ := h x (hm x (List.mem_cons_self ..)) (.lst acc :: Y)
      unfold compL
      rw [if_pos (hst _), ez]
      simp only [R.bind_ok]
      cases hG : G x with
      | none =>
        obtain ⟨Y', e'⟩ := ih acc (Y ++ Z) (fun y hy => hm y (List.mem_cons_of_mem _ hy)) (by simp at hb; omega)
        refine ⟨Y', ?_⟩
        simp only [List.filterMap_cons, hG]
        rw [← e']
        simp
      | some v =>
        obtain ⟨Y', e'⟩ := ih (acc ++ [v]) (Y ++ Z) (fun y hy => hm y (List.mem_cons_of_mem _ hy)) (by simp at hb ⊢; omega)
        refine ⟨Y', ?_⟩
        have d : (A1 ++ MO.lst acc :: Y ++ Z)[A1.length]? = some (.lst acc) := by simp
        have hb' : acc.length < 100000 := by simp at hb; omega
        simp only [d, if_pos hb', List.filterMap_cons, hG]
        have s1 : (A1 ++ MO.lst acc :: Y ++ Z).set A1.length (.lst (acc ++ [v])) = A1 ++ .lst (acc ++ [v]) :: (Y ++ Z) := by
          simp
        rw [s1, e']
        simp
  obtain ⟨Y', e'⟩ := key w.items [] [] (fun _ h => h) (by simpa using hl)
  exact ⟨Y', by simpa using e'⟩
theorem iRange1_ok {as : MA} {c : Ctx} {ρ : Env} {A A1 : Mh} {j : Int} (h : as c ρ A = .ok [.int j] A1) (h1 : -4611686018427387904 ≤ j) (h2 : j < 4611686018427387904) : iRange1 as c ρ A = .ok ⟨intsV 0 j.toNat, fun _ => True⟩ A1 := by
  have hb : -(2 ^ 62) ≤ j ∧ j < 2 ^ 62 := by omega
  unfold iRange1
  rw [h]
  simp only [R.bind_ok]
  rw [if_pos hb]
end MM

/-! S1: the laws' shared helpers. -/
namespace MM
open PySem
namespace Sh
noncomputable def m__law_bag : MS := sRet (eLst (aC (eBN bList (aC (eSl (eV 0) (oN) (oS (eC (.int 63)))) (aN))) (aC (eC (.int 0)) (aC (eC (.int 0)) (aC (eC (.int 313)) (aN))))))
noncomputable def d__law_bag : MD := ⟨1, 1, m__law_bag⟩
noncomputable def m__law_pull : MS := sSeq (sIf (tVal (eB2 vGe (eB2 vIdxD (eV 0) (eC (.int 2))) (eV 1))) (sSeq (sAsg (eB2 vMod (eB2 vIdxD (eV 0) (eC (.int 2))) (eV 1)) (gV 2)) (sSeq (sAsg (eB2 vDiv (eB2 vIdxD (eV 0) (eC (.int 2))) (eV 1)) (gSub setD (eV 0) (eC (.int 2)))) (sRet (eV 2)))) (sNil)) (sSeq (sAsg (eC (.int 0)) (gV 3)) (sSeq (sIf (tVal (eB2 vLt (eB2 vIdxD (eV 0) (eC (.int 1))) (eBN bLen (aC (eB2 vIdxD (eV 0) (eC (.int 0))) (aN))))) (sAsg (eB2 vIdxD (eB2 vIdxD (eV 0) (eC (.int 0))) (eB2 vIdxD (eV 0) (eC (.int 1)))) (gV 3)) (sNil)) (sSeq (sAsg (eB2 vAdd (eB2 vIdxD (eV 0) (eC (.int 1))) (eC (.int 1))) (gSub setD (eV 0) (eC (.int 1)))) (sSeq (sIf (tVal (eB2 vGe (eV 3) (eB2 vPow (eC (.int 10)) (eC (.int 18))))) (sSeq (sAsg (eB2 vDiv (eV 3) (eV 1)) (gSub setD (eV 0) (eC (.int 2)))) (sRet (eB2 vMod (eV 3) (eV 1)))) (sNil)) (sSeq (sAsg (eB2 vMod (eB2 vAdd (eB2 vAdd (eB2 vAdd (eB2 vPow (eB2 vIdxD (eV 0) (eC (.int 3))) (eC (.int 5))) (eB2 vMul (eC (.int 69069)) (eB2 vIdxD (eV 0) (eC (.int 1))))) (eB2 vMod (eV 3) (eC (.int 1000003)))) (eC (.int 7))) (eC (.int 2147483629))) (gSub setD (eV 0) (eC (.int 3)))) (sRet (eB2 vMod (eB2 vAdd (eB2 vDiv (eB2 vIdxD (eV 0) (eC (.int 3))) (eC (.int 9))) (eV 3)) (eV 1))))))))
noncomputable def d__law_pull : MD := ⟨2, 4, m__law_pull⟩
noncomputable def m__law_like : MS := sSeq (sIf (tVal (eBN bIsi (aC (eV 1) (aC (eTup (aC (eC (.ty .tup)) (aC (eC (.ty .lst)) (aN)))) (aN))))) (sSeq (sIf (tVal (eB2 vNe (eBN bIsi (aC (eV 0) (aC (eC (.ty .tup)) (aN)))) (eBN bIsi (aC (eV 1) (aC (eC (.ty .tup)) (aN)))))) (sRet (eC (.bl false))) (sNil)) (sSeq (sIf (tOr (tNot (tVal (eBN bIsi (aC (eV 0) (aC (eTup (aC (eC (.ty .tup)) (aC (eC (.ty .lst)) (aN)))) (aN)))))) (tVal (eB2 vNe (eBN bLen (aC (eV 0) (aN))) (eBN bLen (aC (eV 1) (aN)))))) (sRet (eC (.bl false))) (sNil)) (sRet (eBN bAll (aC (eComp [2] (iRange1 (aC (eBN bLen (aC (eV 1) (aN))) (aN))) (gV 2) (tYes) (eCall "_law_like" (aC (eB2 vIdxD (eV 0) (eV 2)) (aC (eB2 vIdxD (eV 1) (eV 2)) (aN))) id)) (aN)))))) (sNil)) (sSeq (sIf (tVal (eBN bIsi (aC (eV 1) (aC (eC (.ty .bl)) (aN))))) (sRet (eAnd (eBN bIsi (aC (eV 0) (aC (eC (.ty .bl)) (aN)))) (eB2 vEq (eV 0) (eV 1)))) (sNil)) (sSeq (sIf (tVal (eBN bIsi (aC (eV 1) (aC (eC (.ty .int)) (aN))))) (sRet (eAnd (eBN bIsi (aC (eV 0) (aC (eC (.ty .int)) (aN)))) (eAnd (eNot (eBN bIsi (aC (eV 0) (aC (eC (.ty .bl)) (aN))))) (eB2 vEq (eV 0) (eV 1))))) (sNil)) (sSeq (sIf (tVal (eBN bIsi (aC (eV 1) (aC (eC (.ty .str)) (aN))))) (sRet (eAnd (eBN bIsi (aC (eV 0) (aC (eC (.ty .str)) (aN)))) (eB2 vEq (eV 0) (eV 1)))) (sNil)) (sRet (eAnd (eB2 vIsN (eV 1) (eC .non)) (eB2 vIsN (eV 0) (eC .non)))))))
noncomputable def d__law_like : MD := ⟨2, 3, m__law_like⟩
end Sh
/-- the bag at b, its cells at c, n turned at most -/
structure Bg (A : Mh) (b c : Nat) (cells : List Int) (n : Nat) : Prop where
  ne : b ≠ c
  cs : A[c]? = some (.lst (cells.map .int))
  ls : cells.length ≤ 63
  bg : ∃ i h r : Int, A[b]? = some (.lst [.ref c, .int i, .int h, .int r]) ∧ 0 ≤ i ∧ i ≤ n ∧ 0 ≤ r ∧ r < 2147483629
theorem log2_lt {n k : Nat} (h : n < 2 ^ (k + 1)) : n.log2 < k + 1 := by
  by_cases h0 : n = 0
  · subst h0; simp
  · exact (Nat.log2_lt h0).mpr h
/-- what a pull does -/
theorem pull {P : Prg} (hP : P.defs "_law_pull" = some Sh.d__law_pull) {A : Mh} {b c n : Nat} {cells : List Int} {sz : Int} (k : Nat) (B : Bg A b c cells n) (h0 : 0 < sz) (h1 : sz.natAbs.log2 < 9000) (hn : n < 2 ^ 60) :
    ∃ v o, P.call (k + 1) "_law_pull" [.ref b, .int sz] A = .ok (.int v) (A.set b o) ∧ 0 ≤ v ∧ v < sz ∧ Bg (A.set b o) b c cells (n + 1) := by
  obtain ⟨ne, hc, ls, i, h, r, hb, i0, i1, r0, r1⟩ := B
  have hbl := lt_len hb
  have hc2 : ∀ o, (A.set b o)[c]? = some (.lst (cells.map .int)) := fun o => by rw [List.getElem?_set_ne ne]; exact hc
  have hb2 : ∀ o, (A.set b o)[b]? = some o := fun o => set_same hb
  rw [call_run hP k _ _ rfl]
  have lem : ∀ h' r' i' : Int, 0 ≤ i' → i' ≤ (n : Int) + 1 → 0 ≤ r' → r' < 2147483629 → Bg (A.set b (.lst [.ref c, .int i', .int h', .int r'])) b c cells (n + 1) := fun h' r' i' a1 a2 a3 a4 =>
    ⟨ne, hc2 _, ls, i', h', r', hb2 _, a1, by omega, a3, a4⟩
  have m0 : ∀ x : Int, 0 ≤ x % sz := fun x => Int.emod_nonneg x (by omega)
  have m1 : ∀ x : Int, x % sz < sz := fun x => Int.emod_lt_of_pos x h0
  by_cases hh : sz ≤ h
  · simp [Sh.d__law_pull, Sh.m__law_pull, hb, hh, vMod_i _ _ _ h0, vDiv_i _ _ _ h0 h1]
    exact ⟨_, _, ⟨rfl, rfl⟩, m0 _, m1 _, lem _ _ _ i0 (by omega) r0 r1⟩
  · have key : ∀ cell : Int, ∃ v o, ((sSeq (sAsg (eB2 vAdd (eB2 vIdxD (eV 0) (eC (.int 1))) (eC (.int 1))) (gSub setD (eV 0) (eC (.int 1)))) (sSeq (sIf (tVal (eB2 vGe (eV 3) (eB2 vPow (eC (.int 10)) (eC (.int 18))))) (sSeq (sAsg (eB2 vDiv (eV 3) (eV 1)) (gSub setD (eV 0) (eC (.int 2)))) (sRet (eB2 vMod (eV 3) (eV 1)))) (sNil)) (sSeq (sAsg (eB2 vMod (eB2 vAdd (eB2 vAdd (eB2 vAdd (eB2 vPow (eB2 vIdxD (eV 0) (eC (.int 3))) (eC (.int 5))) (eB2 vMul (eC (.int 69069)) (eB2 vIdxD (eV 0) (eC (.int 1))))) (eB2 vMod (eV 3) (eC (.int 1000003)))) (eC (.int 7))) (eC (.int 2147483629))) (gSub setD (eV 0) (eC (.int 3)))) (sRet (eB2 vMod (eB2 vAdd (eB2 vDiv (eB2 vIdxD (eV 0) (eC (.int 3))) (eC (.int 9))) (eV 3)) (eV 1)))))) (P.ctx k) [some (.ref b), some (.int sz), none, some (.int cell)] A).fin = .ok (.int v) (A.set b o) ∧ 0 ≤ v ∧ v < sz ∧ Bg (A.set b o) b c cells (n + 1) := by
      intro cell
      by_cases hq : (1000000000000000000 : Int) ≤ cell
      · simp [hb, hb2, hq, vMod_i _ _ _ h0, vDiv_i _ _ _ h0 h1, vPow_i]
        exact ⟨_, _, ⟨rfl, rfl⟩, m0 _, m1 _, lem _ _ _ (by omega) (by omega) r0 r1⟩
      · have l1 : (69069 : Int).natAbs.log2 + (i + 1).natAbs.log2 < 1000000 := by
          have : (i + 1).natAbs.log2 < 61 := log2_lt (by omega)
          have : (69069 : Int).natAbs.log2 < 17 := by decide
          omega
        have l2 : r.natAbs < 2 ^ 64 := by omega
        have l2' : r.natAbs < 18446744073709551616 := by omega
        have l3 : (2147483629 : Int).natAbs.log2 < 9000 := by decide
        simp [hb, hb2, hq, vMod_i _ _ _ h0, vDiv_i _ _ _ h0 h1, vPow_i, l2', vMul_i _ _ _ l1, vMod_i, vDiv_i _ _ 9 (by decide) (by decide)]
        exact ⟨_, _, ⟨rfl, rfl⟩, m0 _, m1 _, lem _ _ _ (by omega) (by omega) (Int.emod_nonneg _ (by decide)) (Int.emod_lt_of_pos _ (by decide))⟩
    by_cases hi : i < cells.length
    · obtain ⟨j, hj, rfl, e⟩ := atI_get (xs := cells.map MV.int) i0 (by simpa using hi)
      obtain ⟨v, o, e1, e2⟩ := key cells[j]
      refine ⟨v, o, ?_, e2⟩
      rw [← e1]
      simp [Sh.d__law_pull, Sh.m__law_pull, hb, hh, hc, hi, e]
    · obtain ⟨v, o, e1, e2⟩ := key 0
      refine ⟨v, o, ?_, e2⟩
      rw [← e1]
      simp [Sh.d__law_pull, Sh.m__law_pull, hb, hh, hc, hi]
theorem Bg.app {A : Mh} {b c n : Nat} {cells : List Int} (B : Bg A b c cells n) (X : Mh) : Bg (A ++ X) b c cells n := by
  obtain ⟨ne, hc, ls, i, h, r, hb, i0, i1, r0, r1⟩ := B
  exact ⟨ne, by rw [List.getElem?_append_left (lt_len hc)]; exact hc, ls, i, h, r, by rw [List.getElem?_append_left (lt_len hb)]; exact hb, i0, i1, r0, r1⟩
theorem Bg.set {A : Mh} {b c n p : Nat} {cells : List Int} (B : Bg A b c cells n) (o : MO) (hb : p ≠ b) (hc : p ≠ c) : Bg (A.set p o) b c cells n := by
  obtain ⟨ne, hc', ls, i, h, r, hb', i0, i1, r0, r1⟩ := B
  exact ⟨ne, by rw [List.getElem?_set_ne hc]; exact hc', ls, i, h, r, by rw [List.getElem?_set_ne hb]; exact hb', i0, i1, r0, r1⟩
theorem Bg.mono {A : Mh} {b c n m : Nat} {cells : List Int} (B : Bg A b c cells n) (h : n ≤ m) : Bg A b c cells m := by
  obtain ⟨ne, hc', ls, i, h, r, hb', i0, i1, r0, r1⟩ := B
  exact ⟨ne, hc', ls, i, h, r, hb', i0, by omega, r0, r1⟩
theorem cut63 (xs : List MV) (h : xs.length ≤ 63) : cutM xs none (some 63) = xs := by
  have e : HT.sIx xs.length xs.length (some 63) = xs.length := by
    show (if (63 : Int) < 0 then ((63 : Int) + (xs.length : Int)).toNat else min (63 : Int).toNat xs.length) = _
    rw [if_neg (by decide)]
    show min 63 xs.length = _
    omega
  unfold cutM
  rw [e, HT.sIx_none]
  simp
/-- the bag made -/
theorem bag {P : Prg} (hP : P.defs "_law_bag" = some Sh.d__law_bag) (ns : List Int) (hn : ns.length ≤ 63) (k : Nat) :
    P.call (k + 1) "_law_bag" [.scr (ns.map .int)] [] = .ok (.ref 2) [.lst (ns.map .int), .lst (ns.map .int), .lst [.ref 1, .int 0, .int 0, .int 313]] := by
  rw [call_run hP k _ _ rfl]
  have h1 : ns.length ≤ 1000000 := by omega
  simp [Sh.d__law_bag, Sh.m__law_bag, vSl, newL, cut63 _ (show (ns.map MV.int).length ≤ 63 by simpa using hn), bList, seqOf, h1]
theorem bag_Bg (ns : List Int) (hn : ns.length ≤ 63) : Bg [.lst (ns.map .int), .lst (ns.map .int), .lst [.ref 1, .int 0, .int 0, .int 313]] 2 1 ns 0 :=
  ⟨by decide, rfl, hn, 0, 0, 313, rfl, by decide, by decide, by decide, by decide⟩
/-! ### trees: values by their parts -/
inductive Tr where
  | non | bl (b : Bool) | int (i : Int) | str (x : Str) | tup (ts : List Tr) | lst (ts : List Tr)
mutual
/-- the value v of the heap A is the tree -/
def Tr.Is (A : Mh) : Tr → MV → Prop
  | .non, v => v = .non
  | .bl b, v => v = .bl b
  | .int i, v => v = .int i
  | .str x, v => v = .str x
  | .tup ts, v => ∃ vs, v = .tup vs ∧ Tr.All A ts vs
  | .lst ts, v => ∃ p vs, v = .ref p ∧ A[p]? = some (.lst vs) ∧ Tr.All A ts vs
def Tr.All (A : Mh) : List Tr → List MV → Prop
  | [], vs => vs = []
  | t :: ts, vs => ∃ v r, vs = v :: r ∧ Tr.Is A t v ∧ Tr.All A ts r
end
mutual
def Tr.dep : Tr → Nat
  | .tup ts => Tr.deps ts + 1
  | .lst ts => Tr.deps ts + 1
  | _ => 1
def Tr.deps : List Tr → Nat
  | [] => 0
  | t :: ts => max t.dep (Tr.deps ts)
end
mutual
theorem Tr.Is.mono {A A' : Mh} (h : ∀ (p : Nat) vs, A[p]? = some (.lst vs) → A'[p]? = some (.lst vs)) : ∀ {t : Tr} {v : MV}, Tr.Is A t v → Tr.Is A' t v
  | .non, _, e => by unfold Tr.Is at *; exact e
  | .bl b, _, e => by unfold Tr.Is at *; exact e
  | .int b, _, e => by unfold Tr.Is at *; exact e
  | .str b, _, e => by unfold Tr.Is at *; exact e
  | .tup b, _, e => by
    unfold Tr.Is at *
    obtain ⟨vs, e1, e2⟩ := e
    exact ⟨vs, e1, Tr.All.mono h e2⟩
  | .lst b, _, e => by
    unfold Tr.Is at *
    obtain ⟨p, vs, e1, e2, e3⟩ := e
    exact ⟨p, vs, e1, h _ _ e2, Tr.All.mono h e3⟩
theorem Tr.All.mono {A A' : Mh} (h : ∀ (p : Nat) vs, A[p]? = some (.lst vs) → A'[p]? = some (.lst vs)) : ∀ {ts : List Tr} {vs : List MV}, Tr.All A ts vs → Tr.All A' ts vs
  | [], _, e => by unfold Tr.All at *; exact e
  | t :: ts, _, e => by
    unfold Tr.All at *
    obtain ⟨v, r, e1, e2, e3⟩ := e
    exact ⟨v, r, e1, Tr.Is.mono h e2, Tr.All.mono h e3⟩
end
theorem Tr.All.len {A : Mh} : ∀ {ts : List Tr} {vs : List MV}, Tr.All A ts vs → vs.length = ts.length
  | [], _, e => by unfold Tr.All at e; subst e; rfl
  | t :: ts, _, e => by
    unfold Tr.All at e
    obtain ⟨v, r, e1, e2, e3⟩ := e
    subst e1
    simp [Tr.All.len e3]
theorem Tr.All.get {A : Mh} : ∀ {ts : List Tr} {vs : List MV} {i : Nat} {v : MV}, Tr.All A ts vs → vs[i]? = some v → ∃ t, ts[i]? = some t ∧ Tr.Is A t v
  | [], _, i, v, e, h => by unfold Tr.All at e; subst e; simp at h
  | t :: ts, _, 0, v, e, h => by
    unfold Tr.All at e
    obtain ⟨v', r, e1, e2, e3⟩ := e
    subst e1
    simp at h
    subst h
    exact ⟨t, rfl, e2⟩
  | t :: ts, _, i + 1, v, e, h => by
    unfold Tr.All at e
    obtain ⟨v', r, e1, e2, e3⟩ := e
    subst e1
    obtain ⟨t', h1, h2⟩ := Tr.All.get (i := i) (v := v) e3 (by simpa using h)
    exact ⟨t', by simpa using h1, h2⟩
theorem Tr.deps_mem : ∀ {ts : List Tr} {i : Nat} {t : Tr}, ts[i]? = some t → t.dep ≤ Tr.deps ts
  | [], i, t, h => by simp at h
  | u :: ts, 0, t, h => by
    simp at h; subst h
    unfold Tr.deps; omega
  | u :: ts, i + 1, t, h => by
    have := Tr.deps_mem (ts := ts) (i := i) (t := t) (by simpa using h)
    unfold Tr.deps; omega
@[simp] theorem isi_tl (x : MV) (A : Mh) : bIsi [x, .tup [.ty .tup, .ty .lst]] A = (tyOf x A).map fun t => (.bl (decide (t = .tup) || decide (t = .lst)), A) := by
  unfold bIsi
  cases h : tyOf x A <;> simp [h, isOf]
@[simp] theorem isi_1 (x : MV) (n : TN) (A : Mh) : bIsi [x, .ty n] A = (tyOf x A).bind fun t => (isOf t n).map fun b => (.bl b, A) := by
  unfold bIsi
  cases h : tyOf x A <;> simp [h]
@[simp] theorem isOf_int (t : TN) : isOf t .int = some (decide (t = .int) || decide (t = .bl)) := rfl
@[simp] theorem isOf_str (t : TN) : isOf t .str = some (decide (t = .str)) := rfl
@[simp] theorem isOf_bl (t : TN) : isOf t .bl = some (decide (t = .bl)) := rfl
@[simp] theorem isOf_tup (t : TN) : isOf t .tup = some (decide (t = .tup)) := rfl
@[simp] theorem isOf_lst (t : TN) : isOf t .lst = some (decide (t = .lst)) := rfl
@[simp] theorem isOf_dct (t : TN) : isOf t .dct = some (decide (t = .dct)) := rfl
@[simp] theorem ty_non (A : Mh) : tyOf .non A = some .non := rfl
@[simp] theorem ty_bl (b : Bool) (A : Mh) : tyOf (.bl b) A = some .bl := rfl
@[simp] theorem ty_int (b : Int) (A : Mh) : tyOf (.int b) A = some .int := rfl
@[simp] theorem ty_str (b : Str) (A : Mh) : tyOf (.str b) A = some .str := rfl
@[simp] theorem ty_tup (b : List MV) (A : Mh) : tyOf (.tup b) A = some .tup := rfl
mutual
/-- no tuple, no list of the tree is long -/
def Tr.Few : Tr → Prop
  | .tup ts => ts.length < 50000 ∧ Tr.Fews ts
  | .lst ts => ts.length < 50000 ∧ Tr.Fews ts
  | _ => True
def Tr.Fews : List Tr → Prop
  | [] => True
  | t :: ts => t.Few ∧ Tr.Fews ts
end
theorem Tr.few_mem : ∀ {ts : List Tr} {i : Nat} {t : Tr}, Tr.Fews ts → ts[i]? = some t → t.Few
  | [], i, t, _, h => by simp at h
  | u :: ts, 0, t, f, h => by
    simp at h; subst h
    unfold Tr.Fews at f; exact f.1
  | u :: ts, i + 1, t, f, h => by
    unfold Tr.Fews at f
    exact Tr.few_mem (ts := ts) (i := i) (t := t) f.2 (by simpa using h)
theorem all_true : ∀ (n : Nat), boolsOf (List.replicate n (.bl true)) = some (List.replicate n true)
  | 0 => rfl
  | n + 1 => by
    show (boolsOf (List.replicate n (.bl true))).map (true :: ·) = _
    rw [all_true n]
    rfl
theorem app_lst (A X : Mh) (p : Nat) (vs : List MV) (h : A[p]? = some (.lst vs)) : (A ++ X)[p]? = some (.lst vs) := by
  rw [List.getElem?_append_left (lt_len h)]; exact h
theorem cTurn_like {P : Prg} {k : Nat} {ts : List Tr} {vs us : List MV} {v u : MV} {ρ : Env} (h0 : ρ[0]? = some (some v)) (h1 : ρ[1]? = some (some u)) (h2 : ρ.length = 3) {A : Mh} {i : Nat} {x y : MV}
    (e1 : vIdxD v (.int i) A = some (x, A)) (e2 : vIdxD u (.int i) A = some (y, A)) {B : Mh} (e3 : P.call k "_law_like" [x, y] A = .ok (.bl true) B) :
    cTurn (gV 2) tYes (eCall "_law_like" (aC (eB2 vIdxD (eV 0) (eV 2)) (aC (eB2 vIdxD (eV 1) (eV 2)) aN)) id) (P.ctx k) ρ (.int i) A = .ok (some (.bl true)) B := by
  match ρ, h0, h1, h2 with
  | [a, b, d], h0, h1, _ =>
    simp at h0 h1
    subst h0 h1
    simp [cTurn, e1, e2, e3]
theorem mem_ints {n : Nat} {x : MV} (h : x ∈ intsV 0 n) : ∃ i, i < n ∧ x = .int (i : Int) := by
  unfold intsV at h
  obtain ⟨i, hi, rfl⟩ := List.mem_map.mp h
  exact ⟨i, List.mem_range.mp hi, by simp⟩
theorem ints_len (n : Nat) : (intsV 0 n).length = n := by simp [intsV]
theorem fm_const {α : Type} (v : α) : ∀ xs : List MV, xs.filterMap (fun _ => some v) = List.replicate xs.length v
  | [] => rfl
  | x :: xs => by simp [fm_const v xs, List.replicate_succ]
theorem bAll_true (A Y : Mh) (n : Nat) : bAll [.ref A.length] (A ++ .lst (List.replicate n (.bl true)) :: Y) = some (.bl true, A ++ .lst (List.replicate n (.bl true)) :: Y) := by
  simp [bAll, listAt, all_true]
end MM

namespace MM
open PySem
theorem like_deep {P : Prg} {k : Nat} (ih : ∀ (t : Tr) (A : Mh) (v u : MV), t.dep ≤ k → t.Few → t.Is A v → t.Is A u → ∃ X, P.call k "_law_like" [v, u] A = .ok (.bl true) (A ++ X))
    {ts : List Tr} {vs us : List MV} {v u : MV} {A : Mh} (hd : Tr.deps ts ≤ k) (hf : Tr.Fews ts) (hl : ts.length < 50000) (hvs : Tr.All A ts vs) (hus : Tr.All A ts us)
    (hv : ∀ (Y : Mh) (i : Nat) x, vs[i]? = some x → vIdxD v (.int i) (A ++ Y) = some (x, A ++ Y)) (hu : ∀ (Y : Mh) (i : Nat) x, us[i]? = some x → vIdxD u (.int i) (A ++ Y) = some (x, A ++ Y))
    (hlen : bLen [u] A = some (.int us.length, A)) :
    ∃ Y, eComp [2] (iRange1 (aC (eBN bLen (aC (eV 1) (aN))) (aN))) (gV 2) (tYes) (eCall "_law_like" (aC (eB2 vIdxD (eV 0) (eV 2)) (aC (eB2 vIdxD (eV 1) (eV 2)) (aN))) id) (P.ctx k) [some v, some u, none] A = .ok (.ref A.length) (A ++ .lst (List.replicate ts.length (.bl true)) :: Y) := by
  have l2 := hus.len
  have l1 := hvs.len
  have hit : iRange1 (aC (eBN bLen (aC (eV 1) (aN))) (aN)) (P.ctx k) [some v, some u, none] A = .ok ⟨intsV 0 ts.length, fun _ => True⟩ A := by
    have h1 : (aC (eBN bLen (aC (eV 1) (aN))) (aN)) (P.ctx k) [some v, some u, none] A = .ok [.int (ts.length : Int)] A := by simp [hlen, l2]
    exact iRange1_ok h1 (by omega) (by omega)
  obtain ⟨Y, e⟩ := eComp_new (own := [2]) (g := gV 2) (t := tYes) (e := eCall "_law_like" (aC (eB2 vIdxD (eV 0) (eV 2)) (aC (eB2 vIdxD (eV 1) (eV 2)) (aN))) id) hit (fun _ => some (.bl true)) (fun _ => trivial) (by rw [ints_len]; omega) (fun x hx Y => by
    obtain ⟨i, hi, rfl⟩ := mem_ints hx
    obtain ⟨x, e1⟩ : ∃ x, vs[i]? = some x := ⟨vs[i]'(by omega), List.getElem?_eq_getElem (by omega)⟩
    obtain ⟨y, e2⟩ : ∃ x, us[i]? = some x := ⟨us[i]'(by omega), List.getElem?_eq_getElem (by omega)⟩
    obtain ⟨t1, g1, i1⟩ := hvs.get e1
    obtain ⟨t2, g2, i2⟩ := hus.get e2
    rw [g1] at g2
    cases g2
    obtain ⟨X, ex⟩ := ih t1 (A ++ Y) x y (Nat.le_trans (Tr.deps_mem g1) hd) (Tr.few_mem hf g1) (i1.mono fun p vs h => app_lst A Y p vs h) (i2.mono fun p vs h => app_lst A Y p vs h)
    exact ⟨X, cTurn_like (ts := ts) (vs := vs) (us := us) rfl rfl rfl (hv Y i x e1) (hu Y i y e2) ex⟩)
  refine ⟨Y, ?_⟩
  rw [e, fm_const, ints_len]
/-- equal trees are alike -/
theorem like {P : Prg} (hP : P.defs "_law_like" = some Sh.d__law_like) (k : Nat) : ∀ (t : Tr) (A : Mh) (v u : MV), t.dep ≤ k → t.Few → t.Is A v → t.Is A u → ∃ X, P.call k "_law_like" [v, u] A = .ok (.bl true) (A ++ X) := by
  induction k with
  | zero => intro t A v u hd; cases t <;> simp [Tr.dep] at hd
  | succ k ih =>
    intro t A v u hd hf hv hu
    rw [call_run hP k _ _ rfl]
    cases t with
    | non =>
      unfold Tr.Is at hv hu
      subst hv hu
      exact ⟨[], by simp [Sh.d__law_like, Sh.m__law_like, vIsN]⟩
    | bl b =>
      unfold Tr.Is at hv hu
      subst hv hu
      exact ⟨[], by simp [Sh.d__law_like, Sh.m__law_like]⟩
    | int b =>
      unfold Tr.Is at hv hu
      subst hv hu
      exact ⟨[], by simp [Sh.d__law_like, Sh.m__law_like]⟩
    | str b =>
      unfold Tr.Is at hv hu
      subst hv hu
      exact ⟨[], by simp [Sh.d__law_like, Sh.m__law_like]⟩
    | tup ts =>
      unfold Tr.Is at hv hu
      unfold Tr.Few at hf
      unfold Tr.dep at hd
      obtain ⟨vs, rfl, hvs⟩ := hv
      obtain ⟨us, rfl, hus⟩ := hu
      have l1 := hvs.len
      have l2 := hus.len
      obtain ⟨Y, e⟩ := like_deep (v := .tup vs) (u := .tup us) ih (by omega) hf.2 hf.1 hvs hus (fun Y i x h => by rw [vIdxD_tu, atI_nat, h]; rfl) (fun Y i x h => by rw [vIdxD_tu, atI_nat, h]; rfl) rfl
      exact ⟨_, by simp [Sh.d__law_like, Sh.m__law_like, l1, l2, e, bAll_true]; rfl⟩
    | lst ts =>
      unfold Tr.Is at hv hu
      unfold Tr.Few at hf
      unfold Tr.dep at hd
      obtain ⟨p, vs, rfl, hp, hvs⟩ := hv
      obtain ⟨q, us, rfl, hq, hus⟩ := hu
      have l1 := hvs.len
      have l2 := hus.len
      obtain ⟨Y, e⟩ := like_deep (v := .ref p) (u := .ref q) ih (by omega) hf.2 hf.1 hvs hus (fun Y i x h => by rw [vIdxD_r, app_lst A Y p vs hp]; simp only [atI_nat, h]; rfl) (fun Y i x h => by rw [vIdxD_r, app_lst A Y q us hq]; simp only [atI_nat, h]; rfl) (by simp [hq])
      exact ⟨_, by simp [Sh.d__law_like, Sh.m__law_like, l1, l2, e, bAll_true, hp, hq]; rfl⟩
/-! ### how a heap goes on: all older objects but b stay -/
structure Ev (b : Nat) (A A' : Mh) : Prop where
  len : A.length ≤ A'.length
  get : ∀ p, p ≠ b → p < A.length → A'[p]? = A[p]?
theorem Ev.refl (b : Nat) (A : Mh) : Ev b A A := ⟨Nat.le_refl _, fun _ _ _ => rfl⟩
theorem Ev.trans {b : Nat} {A B C : Mh} (h : Ev b A B) (g : Ev b B C) : Ev b A C := ⟨Nat.le_trans h.len g.len, fun p hp hl => (g.get p hp (Nat.lt_of_lt_of_le hl h.len)).trans (h.get p hp hl)⟩
theorem Ev.set (b : Nat) (A : Mh) (o : MO) : Ev b A (A.set b o) := ⟨by simp, fun p hp _ => by rw [List.getElem?_set_ne (Ne.symm hp)]⟩
theorem Ev.app (b : Nat) (A X : Mh) : Ev b A (A ++ X) := ⟨by simp, fun p _ hl => by rw [List.getElem?_append_left hl]⟩
/-- a change of a newer object -/
theorem Ev.new {b : Nat} {A B : Mh} (h : Ev b A B) {q : Nat} (hq : A.length ≤ q) (o : MO) : Ev b A (B.set q o) := ⟨by simpa using h.len, fun p hp hl => by rw [List.getElem?_set_ne (by omega)]; exact h.get p hp hl⟩
theorem Ev.at {b : Nat} {A B : Mh} (h : Ev b A B) {p : Nat} {o : MO} (e : A[p]? = some o) (hp : p ≠ b) : B[p]? = some o := by rw [h.get p hp (lt_len e)]; exact e
/-- the heap with b out of sight -/
abbrev Hd (b : Nat) (A : Mh) : Mh := A.set b (.dct [])
theorem Hd.lst {b p : Nat} {A : Mh} {vs : List MV} (h : (Hd b A)[p]? = some (.lst vs)) : p ≠ b ∧ A[p]? = some (.lst vs) := by
  have hp : p ≠ b := fun e => by
    subst e
    by_cases hl : p < A.length
    · rw [show (Hd p A)[p]? = some (.dct []) from List.getElem?_set_self hl] at h
      cases h
    · have : (Hd p A)[p]? = none := List.getElem?_eq_none (by simp; omega)
      rw [this] at h; cases h
  rw [show (Hd b A)[p]? = A[p]? from List.getElem?_set_ne (Ne.symm hp)] at h
  exact ⟨hp, h⟩
theorem Hd.of {b p : Nat} {A : Mh} {o : MO} (h : A[p]? = some o) (hp : p ≠ b) : (Hd b A)[p]? = some o := by
  rw [show (Hd b A)[p]? = A[p]? from List.getElem?_set_ne (Ne.symm hp)]; exact h
theorem Ev.hd {b : Nat} {A A' : Mh} (h : Ev b A A') (p : Nat) (vs : List MV) (e : (Hd b A)[p]? = some (.lst vs)) : (Hd b A')[p]? = some (.lst vs) := by
  obtain ⟨hp, e⟩ := Hd.lst e
  exact Hd.of (h.at e hp) hp
theorem Hd.un {b : Nat} {A : Mh} (p : Nat) (vs : List MV) (e : (Hd b A)[p]? = some (.lst vs)) : A[p]? = some (.lst vs) := (Hd.lst e).2
theorem Tr.Is.ev {b : Nat} {A A' : Mh} {t : Tr} {v : MV} (h : t.Is (Hd b A) v) (e : Ev b A A') : t.Is (Hd b A') v := h.mono e.hd
theorem Tr.Is.un {b : Nat} {A : Mh} {t : Tr} {v : MV} (h : t.Is (Hd b A) v) : t.Is A v := h.mono Hd.un
/-- the bag lies deep: both its objects below n -/
theorem Bg.lt {A : Mh} {b c n : Nat} {cells : List Int} (B : Bg A b c cells n) : b < A.length ∧ c < A.length := by
  obtain ⟨ne, hc', ls, i, h, r, hb', _⟩ := B
  exact ⟨lt_len hb', lt_len hc'⟩
end MM

/-! S2: rows of pairs. -/
namespace MM
open PySem
namespace Sh
noncomputable def m_row : MS := sSeq (sAsg (eDict0) (gV 3)) (sSeq (sFor (iVal (eV 0)) (gTup [gV 4, gV 5]) (sAsg (eB2 vAdd (eGet2 (eV 3) (eV 4) (eC (.int 0))) (eV 5)) (gSub setD (eV 3) (eV 4)))) (sSeq (sAsg (eBN bTuple (aC (eComp [4] (iVal (eBN bSorted (aC (eV 3) (aN)))) (gV 4) (tVal (eB2 vNe (eB2 vIdxD (eV 3) (eV 4)) (eC (.int 0)))) (eTup (aC (eV 4) (aC (eB2 vIdxD (eV 3) (eV 4)) (aN))))) (aN))) (gV 6)) (sRet (eTup (aC (eV 6) (aC (eV 1) (aC (eV 2) (aN))))))))
noncomputable def d_row : MD := ⟨3, 7, m_row⟩
noncomputable def m_summed : MS := sSeq (sAsg (eLst (aN)) (gV 1)) (sSeq (sAsg (eC (.int 0)) (gV 2)) (sSeq (sFor (iVal (eV 0)) (gTup [gTup [gV 3, gV 4, gV 5], gV 6]) (sSeq (sExp (eBM .lst mExtend (eV 1) (aC (eComp [7, 8] (iVal (eV 3)) (gTup [gV 7, gV 8]) (tYes) (eTup (aC (eV 7) (aC (eB2 vMul (eV 8) (eV 6)) (aN))))) (aN)))) (sAug 2 vAug (eB2 vMul (eV 4) (eV 6))))) (sRet (eCallK "row" [.pos 0, .pos 1, .kw 0] [] 2 1 (aC (eV 1) (aC (eV 2) (aN))) (aC (eBN bAll (aC (eComp [9, 6] (iVal (eV 0)) (gTup [gV 9, gV 6]) (tYes) (eB2 vIdxD (eV 9) (eC (.int 2)))) (aN))) (aN))))))
noncomputable def d_summed : MD := ⟨1, 10, m_summed⟩
noncomputable def m_divided : MS := sSeq (sAsg (eV 0) (gTup [gV 2, gV 3, gV 4])) (sSeq (sIf (tOr (tVal (eB2 vLt (eV 1) (eC (.int 2)))) (tVal (eBN bAny (aC (eComp [5, 6] (iVal (eV 2)) (gTup [gV 5, gV 6]) (tYes) (eB2 vNe (eB2 vMod (eV 6) (eV 1)) (eC (.int 0)))) (aN))))) (sRet (eC .non)) (sNil)) (sRet (eTup (aC (eBN bTuple (aC (eComp [5, 6] (iVal (eV 2)) (gTup [gV 5, gV 6]) (tYes) (eTup (aC (eV 5) (aC (eB2 vDiv (eV 6) (eV 1)) (aN))))) (aN))) (aC (eB2 vDiv (eV 3) (eV 1)) (aC (eC (.bl false)) (aN)))))))
noncomputable def d_divided : MD := ⟨2, 7, m_divided⟩
noncomputable def m__law_total : MS := sSeq (sAsg (eLst (aN)) (gV 1)) (sSeq (sFor (iVal (eV 0)) (gTup [gV 2, gV 3]) (sIf (tVal (eB2 vNotInD (eV 2) (eV 1))) (sExp (eBM .lst mAppend (eV 1) (aC (eV 2) (aN)))) (sNil))) (sSeq (sAsg (eLst (aN)) (gV 4)) (sSeq (sFor (iVal (eBN bSorted (aC (eV 1) (aN)))) (gV 2) (sSeq (sAsg (eBN bSum (aC (eComp [6, 3] (iVal (eV 0)) (gTup [gV 6, gV 3]) (tVal (eB2 vEq (eV 6) (eV 2))) (eV 3)) (aN))) (gV 5)) (sIf (tVal (eB2 vNe (eV 5) (eC (.int 0)))) (sExp (eBM .lst mAppend (eV 4) (aC (eTup (aC (eV 2) (aC (eV 5) (aN)))) (aN)))) (sNil)))) (sRet (eBN bTuple (aC (eV 4) (aN)))))))
noncomputable def d__law_total : MD := ⟨1, 7, m__law_total⟩
noncomputable def m__law_parted : MS := sSeq (sIf (tVal (eB2 vLt (eV 1) (eC (.int 2)))) (sRet (eC .non)) (sNil)) (sSeq (sIf (tVal (eBN bAny (aC (eComp [2, 3] (iVal (eB2 vIdxD (eV 0) (eC (.int 0)))) (gTup [gV 2, gV 3]) (tYes) (eB2 vNe (eB2 vSub (eV 3) (eB2 vMul (eB2 vDiv (eV 3) (eV 1)) (eV 1))) (eC (.int 0)))) (aN)))) (sRet (eC .non)) (sNil)) (sRet (eTup (aC (eBN bTuple (aC (eComp [2, 3] (iVal (eB2 vIdxD (eV 0) (eC (.int 0)))) (gTup [gV 2, gV 3]) (tYes) (eTup (aC (eV 2) (aC (eB2 vDiv (eV 3) (eV 1)) (aN))))) (aN))) (aC (eB2 vDiv (eB2 vIdxD (eV 0) (eC (.int 1))) (eV 1)) (aC (eC (.bl false)) (aN)))))))
noncomputable def d__law_parted : MD := ⟨2, 4, m__law_parted⟩
end Sh
abbrev Pair := Str × Int
def pv (p : Pair) : MV := .tup [.str p.1, .int p.2]
def addKey (ks : List Str) (n : Str) : List Str := if n ∈ ks then ks else ks ++ [n]
def keysFrom (ks : List Str) (ps : List Pair) : List Str := ps.foldl (fun ks p => addKey ks p.1) ks
def sumOf : List Pair → Str → Int
  | [], _ => 0
  | p :: r, n => (if p.1 = n then p.2 else 0) + sumOf r n
theorem sumOf_app (n : Str) : ∀ (a b : List Pair), sumOf (a ++ b) n = sumOf a n + sumOf b n
  | [], b => by simp [sumOf]
  | p :: a, b => by simp [sumOf, sumOf_app n a b]; omega
abbrev keys (ps : List Pair) : List Str := keysFrom [] ps
theorem keys_snoc (ps : List Pair) (p : Pair) : keys (ps ++ [p]) = addKey (keys ps) p.1 := by simp [keysFrom]
theorem addKey_len (ks : List Str) (n : Str) : (addKey ks n).length ≤ ks.length + 1 := by unfold addKey; split <;> simp
theorem keys_len : ∀ (ps : List Pair) (ks : List Str), (keysFrom ks ps).length ≤ ks.length + ps.length
  | [], ks => by simp [keysFrom]
  | p :: r, ks => by
    have := keys_len r (addKey ks p.1)
    have := addKey_len ks p.1
    show (keysFrom (addKey ks p.1) r).length ≤ _
    simp
    omega
theorem mem_addKey {ks : List Str} {n m : Str} : m ∈ addKey ks n ↔ m ∈ ks ∨ m = n := by
  unfold addKey
  split
  · rename_i h
    constructor
    · exact .inl
    · rintro (h' | rfl)
      · exact h'
      · exact h
  · simp
theorem mem_keys {n : Str} : ∀ (ps : List Pair) (ks : List Str), n ∈ keysFrom ks ps ↔ n ∈ ks ∨ ∃ p ∈ ps, p.1 = n
  | [], ks => by simp [keysFrom]
  | p :: r, ks => by
    show n ∈ keysFrom (addKey ks p.1) r ↔ _
    rw [mem_keys r, mem_addKey]
    simp [or_assoc, eq_comm]
theorem sum_none {n : Str} : ∀ (ps : List Pair), (∀ p ∈ ps, p.1 ≠ n) → sumOf ps n = 0
  | [], _ => rfl
  | p :: r, h => by
    unfold sumOf
    rw [if_neg (h p (List.mem_cons_self ..)), sum_none r fun q hq => h q (List.mem_cons_of_mem _ hq)]
    rfl
theorem sum_zero (ps : List Pair) (n : Str) (h : n ∉ keys ps) : sumOf ps n = 0 := sum_none ps fun p hp e => h ((mem_keys ps []).mpr (.inr ⟨p, hp, e⟩))
/-- a row's pairs: the totals by name -/
def tot (ps : List Pair) : List Pair := ((sortS (keys ps)).map fun n => (n, sumOf ps n)).filter fun p => decide (p.2 ≠ 0)
def kvsOf (ks : List Str) (f : Str → Int) : List (MV × MV) := ks.map fun n => (.str n, .int (f n))
theorem fEq_s (a b : Str) : fEq (.str a) (.str b) = decide (a = b) := by
  show (a == b) = _
  by_cases h : a = b <;> simp [h]
theorem dGet_kvs (f : Str → Int) (m : Str) : ∀ ks : List Str, dGet (kvsOf ks f) (.str m) = if m ∈ ks then some (.int (f m)) else none
  | [] => rfl
  | k :: ks => by
    have ih := dGet_kvs f m ks
    unfold dGet kvsOf at ih ⊢
    rw [List.map_cons, List.find?_cons, fEq_s]
    by_cases h : k = m
    · subst h; simp
    · have h' : ¬ m = k := fun e => h e.symm
      simp only [decide_eq_false h, ih, List.mem_cons, h', false_or]
theorem any_kvs (f : Str → Int) (m : Str) (ks : List Str) : (kvsOf ks f).any (fun kv => fEq kv.1 (.str m)) = decide (m ∈ ks) := by
  unfold kvsOf
  rw [List.any_map]
  induction ks with
  | nil => simp
  | cons k ks ih =>
    rw [List.any_cons, ih]
    show (fEq (.str k) (.str m) || _) = _
    rw [fEq_s]
    by_cases h : k = m
    · simp [h]
    · have h' : ¬ m = k := fun e => h e.symm
      simp [h, h']
theorem dPut_kvs (f : Str → Int) (m : Str) (x : Int) (ks : List Str) : dPut (kvsOf ks f) (.str m) (.int x) = kvsOf (addKey ks m) (fun n => if n = m then x else f n) := by
  unfold dPut
  rw [any_kvs]
  by_cases h : m ∈ ks
  · simp only [decide_eq_true h, if_pos]
    unfold addKey kvsOf
    rw [if_pos h, List.map_map]
    apply List.map_congr_left
    intro n _
    show (if fEq (.str n) (.str m) = true then _ else _) = _
    rw [fEq_s]
    by_cases e : n = m <;> simp [e]
  · simp only [decide_eq_false h]
    unfold addKey kvsOf
    rw [if_neg h, List.map_append]
    simp
    intro n hn e
    subst e
    exact absurd hn h
theorem kvs_congr {f g : Str → Int} {ks : List Str} (h : ∀ n ∈ ks, f n = g n) : kvsOf ks f = kvsOf ks g := by
  unfold kvsOf
  apply List.map_congr_left
  intro n hn
  rw [h n hn]
theorem strs_map : ∀ ks : List Str, strsOf (ks.map .str) = some ks
  | [] => rfl
  | k :: ks => by
    show (strsOf (ks.map .str)).map (k :: ·) = _
    rw [strs_map ks]; rfl
theorem bSorted_d {A : Mh} {q : Nat} {ks : List Str} {f : Str → Int} (h : A[q]? = some (.dct (kvsOf ks f))) (hl : ks.length < 64) : bSorted [.ref q] A = newL ((sortS ks).map .str) A := by
  have e : (kvsOf ks f).map (·.1) = ks.map MV.str := by unfold kvsOf; simp
  simp [bSorted, dictAt, h, e, strs_map, hl]
theorem bSorted_l {A : Mh} {q : Nat} {ks : List Str} (h : A[q]? = some (.lst (ks.map .str))) (hl : ks.length < 64) : bSorted [.ref q] A = newL ((sortS ks).map .str) A := by
  simp [bSorted, dictAt, listAt, h, strs_map, hl]
theorem sort_len (ks : List Str) : (sortS ks).length = ks.length := by unfold sortS; simp
theorem sort_mem {ks : List Str} {n : Str} : n ∈ sortS ks ↔ n ∈ ks := by unfold sortS; simp
theorem tot_fm (ps : List Pair) (G : MV → Option MV) (hG : ∀ n, n ∈ keys ps → G (.str n) = if sumOf ps n ≠ 0 then some (pv (n, sumOf ps n)) else none) : ((sortS (keys ps)).map MV.str).filterMap G = (tot ps).map pv := by
  have : ∀ ns : List Str, (∀ n ∈ ns, n ∈ keys ps) → (ns.map MV.str).filterMap G = ((ns.map fun n => (n, sumOf ps n)).filter fun p => decide (p.2 ≠ 0)).map pv := by
    intro ns
    induction ns with
    | nil => intro _; rfl
    | cons n ns ih =>
      intro h
      rw [List.map_cons, List.filterMap_cons, hG n (h n (List.mem_cons_self ..)), ih fun m hm => h m (List.mem_cons_of_mem _ hm)]
      by_cases e : sumOf ps n = 0 <;> simp [e]
  exact this _ fun n hn => sort_mem.mp hn
/-- what row does -/
theorem row_ok {P : Prg} (hP : P.defs "row" = some Sh.d_row) (k : Nat) {A : Mh} {p : Nat} {ps : List Pair} {bd : MV} {eq : MV} (hp : A[p]? = some (.lst (ps.map pv))) (hl : ps.length < 64) :
    ∃ X, P.call (k + 1) "row" [.ref p, bd, eq] A = .ok (.tup [.tup ((tot ps).map pv), bd, eq]) (A ++ X) := by
  rw [call_run hP k _ _ rfl]
  have hpl := lt_len hp
  have hpa : ∀ X : Mh, (A ++ X)[p]? = some (.lst (ps.map pv)) := fun X => app_lst A X p _ hp
  obtain ⟨ρ1, A1, e1, done, rest, r1, r2, r3, o4, o5, r4⟩ := forL_nx (still := fun A2 => A2[p]? = some (.lst (ps.map pv))) (turn := fTurn (gTup [gV 4, gV 5]) (sAsg (eB2 vAdd (eGet2 (eV 3) (eV 4) (eC (.int 0))) (eV 5)) (gSub setD (eV 3) (eV 4))) (P.ctx k))
    (fun xs ρ H => ∃ done rest, xs = rest.map pv ∧ ps = done ++ rest ∧ H = A ++ [.dct (kvsOf (keys done) (sumOf done))] ∧ ∃ o4 o5, ρ = [some (.ref p), some bd, some eq, some (.ref A.length), o4, o5, none])
    (fun xs ρ H ⟨done, rest, _, _, e, _⟩ => by subst e; exact hpa _)
    (fun x xs ρ H ⟨done, rest, e1, e2, e3, o4, o5, e4⟩ => by
      cases rest with
      | nil => cases e1
      | cons m rest =>
        rw [List.map_cons] at e1
        injection e1 with e5 e6
        subst e5 e6 e3 e4
        have hk : (kvsOf (keys done) (sumOf done)).length < 1000000 := by
          have h1 : (keys done).length ≤ done.length := by simpa using keys_len done []
          have h2 : done.length ≤ ps.length := by rw [e2]; simp
          unfold kvsOf
          simp at h1 ⊢
          omega
        have hv : ((dGet (kvsOf (keys done) (sumOf done)) (.str m.1)).getD (.int 0)) = .int (if m.1 ∈ keys done then sumOf done m.1 else 0) := by
          rw [dGet_kvs]
          split <;> rfl
        have hz : ∀ n, n ∉ keys done → sumOf done n = 0 := fun n => sum_zero done n
        refine ⟨[some (.ref p), some bd, some eq, some (.ref A.length), some (.str m.1), some (.int m.2), none], A ++ [.dct (dPut (kvsOf (keys done) (sumOf done)) (.str m.1) (.int ((if m.1 ∈ keys done then sumOf done m.1 else 0) + m.2)))], .inl (by simp [pv, dictAt, isKey, hv, hk]), done ++ [m], rest, rfl, by rw [e2]; simp, ?_, _, _, rfl⟩
        rw [dPut_kvs, keys_snoc]
        congr 3
        apply kvs_congr
        intro n hn
        rw [sumOf_app]
        simp only [sumOf]
        by_cases e : n = m.1
        · subst e
          by_cases h : m.1 ∈ keys done
          · simp [h]
          · simp [h, hz _ h]
        · have : ¬ m.1 = n := fun h => e h.symm
          simp [e, this])
    (ps.map pv) [some (.ref p), some bd, some eq, some (.ref A.length), none, none, none] (A ++ [.dct []]) ⟨[], ps, rfl, rfl, rfl, none, none, rfl⟩
  have hr : rest = [] := by cases rest with
    | nil => rfl
    | cons a b => cases r1
  subst hr
  rw [List.append_nil] at r2
  subst r2 r3 r4
  have hks : (keys ps).length < 64 := by
    have h1 : (keys ps).length ≤ ps.length := by simpa using keys_len ps []
    omega
  have hsl : (sortS (keys ps)).length ≤ 1000000 := by rw [sort_len]; omega
  have hA : (A ++ [MO.dct (kvsOf (keys ps) (sumOf ps))])[A.length]? = some (.dct (kvsOf (keys ps) (sumOf ps))) := by simp
  have hit : iVal (eBN bSorted (aC (eV 3) (aN))) (P.ctx k) [some (.ref p), some bd, some eq, some (.ref A.length), o4, o5, none] (A ++ [.dct (kvsOf (keys ps) (sumOf ps))]) = .ok ⟨(sortS (keys ps)).map .str, fun A2 => A2[A.length + 1]? = some (.lst ((sortS (keys ps)).map .str))⟩ (A ++ [.dct (kvsOf (keys ps) (sumOf ps))] ++ [.lst ((sortS (keys ps)).map .str)]) := by
    simp [iVal, bSorted_d hA hks, newL, hsl]
  obtain ⟨Y, e2⟩ := eComp_new (own := [4]) (g := gV 4) (t := tVal (eB2 vNe (eB2 vIdxD (eV 3) (eV 4)) (eC (.int 0)))) (e := eTup (aC (eV 4) (aC (eB2 vIdxD (eV 3) (eV 4)) (aN)))) hit
    (fun x => match x with
      | .str n => if sumOf ps n ≠ 0 then some (pv (n, sumOf ps n)) else none
      | _ => none) (fun Y => by simp) (by simp [sort_len]; omega) (fun x hx Y => by
        obtain ⟨n, hn, rfl⟩ := List.mem_map.mp hx
        have hm : n ∈ keys ps := sort_mem.mp hn
        refine ⟨[], ?_⟩
        by_cases h0 : sumOf ps n = 0
        · simp [cTurn, wipeE, dGet_kvs, hm, isKey, h0]
        · simp [cTurn, wipeE, dGet_kvs, hm, isKey, h0, pv])
  rw [tot_fm ps _ fun n hn => rfl] at e2
  simp [Sh.d_row, Sh.m_row, sFor_ap, iVal, hpa]
  rw [e1]
  simp [e2]
end MM

/-! S3: totals. -/
namespace MM
open PySem
theorem inB_strs {A : Mh} {q : Nat} {ks : List Str} {n : Str} (h : A[q]? = some (.lst (ks.map .str))) : inB (.str n) (.ref q) A = some (decide (n ∈ ks)) := by
  have h1 : (ks.map MV.str).all flat = true := by simp [flat]
  have h2 : (ks.map MV.str).any (fun z => fEq z (.str n)) = decide (n ∈ ks) := by
    rw [List.any_map]
    induction ks with
    | nil => simp
    | cons k ks ih =>
      rw [List.any_cons]
      show (fEq (.str k) (.str n) || _) = _
      rw [fEq_s]
      have ih' : (ks.any ((fun z => fEq z (.str n)) ∘ MV.str)) = decide (n ∈ ks) := by
        clear ih h h1
        induction ks with
        | nil => simp
        | cons k ks ih2 =>
          rw [List.any_cons, ih2]
          show (fEq (.str k) (.str n) || _) = _
          rw [fEq_s]
          by_cases h : k = n
          · simp [h]
          · have h' : ¬ n = k := fun e => h e.symm
            simp [h, h']
      rw [ih']
      by_cases h : k = n
      · simp [h]
      · have h' : ¬ n = k := fun e => h e.symm
        simp [h, h']
  simp only [inB, seqOf, h, h1, h2]
  simp [flat]
theorem vNotIn_strs {A : Mh} {q : Nat} {ks : List Str} {n : Str} (h : A[q]? = some (.lst (ks.map .str))) : vNotInD (.str n) (.ref q) A = some (.bl (!decide (n ∈ ks)), A) := by
  have e : dictAt (.ref q) A = none := by simp [dictAt, h]
  unfold vNotInD
  rw [e]
  simp only [vNotIn, inB_strs h]
  rfl
theorem ints_map : ∀ is : List Int, intsOf (is.map .int) = some is
  | [] => rfl
  | k :: ks => by
    show (intsOf (ks.map .int)).map (k :: ·) = _
    rw [ints_map ks]; rfl
theorem bSum_l {A : Mh} {q : Nat} {is : List Int} (h : A[q]? = some (.lst (is.map .int))) : bSum [.ref q] A = some (.int is.sum, A) := by
  simp [bSum, listAt, h, ints_map]
def figs (ps : List Pair) (n : Str) : List Int := (ps.filter fun p => decide (p.1 = n)).map (·.2)
theorem figs_sum (n : Str) : ∀ ps : List Pair, (figs ps n).sum = sumOf ps n
  | [] => rfl
  | p :: r => by
    have ih := figs_sum n r
    unfold figs at ih ⊢
    unfold sumOf
    by_cases h : p.1 = n
    · simp [h, ih]
    · simp [h, ih]
theorem figs_fm (ps : List Pair) (n : Str) : (ps.map pv).filterMap (fun x => match x with
    | .tup [.str m, .int i] => if m = n then some (MV.int i) else none
    | _ => none) = (figs ps n).map MV.int := by
  induction ps with
  | nil => rfl
  | cons p r ih =>
    rw [List.map_cons, List.filterMap_cons, ih]
    unfold figs
    by_cases h : p.1 = n <;> simp [pv, h]
def totD (ps : List Pair) (ns : List Str) : List Pair := (ns.map fun n => (n, sumOf ps n)).filter fun p => decide (p.2 ≠ 0)
theorem totD_len (ps : List Pair) (ns : List Str) : (totD ps ns).length ≤ ns.length := by
  have := List.length_filter_le (fun p : Pair => decide (p.2 ≠ 0)) (ns.map fun n => (n, sumOf ps n))
  simpa [totD] using this
theorem totD_snoc (ps : List Pair) (ns : List Str) (n : Str) : totD ps (ns ++ [n]) = if sumOf ps n ≠ 0 then totD ps ns ++ [(n, sumOf ps n)] else totD ps ns := by
  unfold totD
  by_cases h : sumOf ps n = 0 <;> simp [h]
theorem total_ok {P : Prg} (hP : P.defs "_law_total" = some Sh.d__law_total) (k : Nat) {A : Mh} {p : Nat} {ps : List Pair} (hp : A[p]? = some (.lst (ps.map pv))) (hl : ps.length < 64) :
    ∃ X, P.call (k + 1) "_law_total" [.ref p] A = .ok (.tup ((tot ps).map pv)) (A ++ X) := by
  rw [call_run hP k _ _ rfl]
  have hpl := lt_len hp
  have hpa : ∀ X : Mh, (A ++ X)[p]? = some (.lst (ps.map pv)) := fun X => app_lst A X p _ hp
  obtain ⟨ρ1, A1, e1, done, rest, r1, r2, r3, o2, o3, r4⟩ := forL_nx (still := fun A2 => A2[p]? = some (.lst (ps.map pv))) (turn := fTurn (gTup [gV 2, gV 3]) (sIf (tVal (eB2 vNotInD (eV 2) (eV 1))) (sExp (eBM .lst mAppend (eV 1) (aC (eV 2) (aN)))) (sNil)) (P.ctx k))
    (fun xs ρ H => ∃ done rest, xs = rest.map pv ∧ ps = done ++ rest ∧ H = A ++ [.lst ((keys done).map .str)] ∧ ∃ o2 o3, ρ = [some (.ref p), some (.ref A.length), o2, o3, none, none, none])
    (fun xs ρ H ⟨done, rest, _, _, e, _⟩ => by subst e; exact hpa _)
    (fun x xs ρ H ⟨done, rest, e1, e2, e3, o2, o3, e4⟩ => by
      cases rest with
      | nil => cases e1
      | cons m rest =>
        rw [List.map_cons] at e1
        injection e1 with e5 e6
        subst e5 e6 e3 e4
        have hk : (keys done).length < 1000000 := by
          have h1 : (keys done).length ≤ done.length := by simpa using keys_len done []
          have h2 : done.length ≤ ps.length := by rw [e2]; simp
          omega
        have hq : (A ++ [MO.lst ((keys done).map .str)])[A.length]? = some (.lst ((keys done).map .str)) := by simp
        refine ⟨[some (.ref p), some (.ref A.length), some (.str m.1), some (.int m.2), none, none, none], A ++ [.lst ((keys (done ++ [m])).map .str)], .inl ?_, done ++ [m], rest, rfl, by rw [e2]; simp, rfl, _, _, rfl⟩
        rw [keys_snoc]
        unfold addKey
        by_cases h : m.1 ∈ keys done
        · simp [pv, vNotIn_strs hq, h]
        · simp [pv, vNotIn_strs hq, h, hk])
    (ps.map pv) [some (.ref p), some (.ref A.length), none, none, none, none, none] (A ++ [.lst []]) ⟨[], ps, rfl, rfl, rfl, none, none, rfl⟩
  have hr : rest = [] := by cases rest with
    | nil => rfl
    | cons a b => cases r1
  subst hr
  rw [List.append_nil] at r2
  subst r2 r3 r4
  have hks : (keys ps).length < 64 := by
    have h1 : (keys ps).length ≤ ps.length := by simpa using keys_len ps []
    omega
  have hsl : (sortS (keys ps)).length ≤ 1000000 := by rw [sort_len]; omega
  have hA : ∀ X, (A ++ MO.lst ((keys ps).map .str) :: X)[A.length]? = some (.lst ((keys ps).map .str)) := fun X => by simp
  obtain ⟨ρ2, A2, e2, done, rest, Z, s1, s2, s3, u2, u3, u5, s4⟩ := forL_nx (still := fun A2 => A2[A.length + 2]? = some (.lst ((sortS (keys ps)).map .str)))
    (turn := fTurn (gV 2) (sSeq (sAsg (eBN bSum (aC (eComp [6, 3] (iVal (eV 0)) (gTup [gV 6, gV 3]) (tVal (eB2 vEq (eV 6) (eV 2))) (eV 3)) (aN))) (gV 5)) (sIf (tVal (eB2 vNe (eV 5) (eC (.int 0)))) (sExp (eBM .lst mAppend (eV 4) (aC (eTup (aC (eV 2) (aC (eV 5) (aN)))) (aN)))) (sNil))) (P.ctx k))
    (fun xs ρ H => ∃ done rest Z, xs = rest.map .str ∧ sortS (keys ps) = done ++ rest ∧ H = A ++ .lst ((keys ps).map .str) :: .lst ((totD ps done).map pv) :: .lst ((sortS (keys ps)).map .str) :: Z ∧
      ∃ o2 o3 o5, ρ = [some (.ref p), some (.ref A.length), o2, o3, some (.ref (A.length + 1)), o5, none])
    (fun xs ρ H ⟨done, rest, Z, _, _, e, _⟩ => by subst e; simp)
    (fun x xs ρ H ⟨done, rest, Z, e1, e2, e3, o2, o3, o5, e4⟩ => by
      cases rest with
      | nil => cases e1
      | cons m rest =>
        rw [List.map_cons] at e1
        injection e1 with e5 e6
        subst e5 e6 e3 e4
        have hdl : done.length < 64 := by
          have := congrArg List.length e2
          rw [sort_len] at this
          simp at this
          omega
        obtain ⟨Y, ec⟩ := eComp_new (own := [6, 3]) (g := gTup [gV 6, gV 3]) (t := tVal (eB2 vEq (eV 6) (eV 2))) (e := eV 3) (it := iVal (eV 0)) (c := P.ctx k) (ρ := [some (.ref p), some (.ref A.length), some (.str m), o3, some (.ref (A.length + 1)), o5, none])
          (A := A ++ .lst ((keys ps).map .str) :: .lst ((totD ps done).map pv) :: .lst ((sortS (keys ps)).map .str) :: Z) (A1 := A ++ .lst ((keys ps).map .str) :: .lst ((totD ps done).map pv) :: .lst ((sortS (keys ps)).map .str) :: Z)
          (w := ⟨ps.map pv, fun A2 => A2[p]? = some (.lst (ps.map pv))⟩) (by simp [iVal, hpa])
          (fun x => match x with
            | .tup [.str n, .int i] => if n = m then some (MV.int i) else none
            | _ => none) (fun Y => by simp only [List.append_assoc]; exact hpa _) (by simp; omega) (fun x hx Y => by
              obtain ⟨n, hn, rfl⟩ := List.mem_map.mp hx
              refine ⟨[], ?_⟩
              by_cases h0 : n.1 = m
              · simp [cTurn, wipeE, pv, h0]
              · simp [cTurn, wipeE, pv, h0])
        simp only [figs_fm] at ec
        have hfl : (totD ps done).length < 1000000 := Nat.lt_of_le_of_lt (totD_len ps done) (by omega)
        have hb : ∀ B Y' : Mh, bSum [.ref B.length] (B ++ .lst ((figs ps m).map .int) :: Y') = some (.int (sumOf ps m), B ++ .lst ((figs ps m).map .int) :: Y') := fun B Y' => by
          rw [bSum_l (is := figs ps m) (by simp), figs_sum]
        refine ⟨[some (.ref p), some (.ref A.length), some (.str m), o3, some (.ref (A.length + 1)), some (.int (sumOf ps m)), none], A ++ .lst ((keys ps).map .str) :: .lst ((totD ps (done ++ [m])).map pv) :: .lst ((sortS (keys ps)).map .str) :: (Z ++ .lst ((figs ps m).map .int) :: Y), .inl ?_, done ++ [m], rest, _, rfl, by rw [e2]; simp, rfl, _, _, _, rfl⟩
        rw [totD_snoc]
        by_cases h0 : sumOf ps m = 0
        · simp only [fTurn_ap, gV_ap, RS.bind_nx, sSeq_ap, sAsg_ap, kAsg_ap, eBN_ap, kBN_ap, aC_ap, kC_ap, kCr_ap, aN_ap]
          simp only [List.set_cons_succ, List.set_cons_zero, ec, R.bind_ok, hb, kC_ap, kCr_ap, aN_ap, kBN_ap, R.of_some]
          simp [h0]
        · simp only [fTurn_ap, gV_ap, RS.bind_nx, sSeq_ap, sAsg_ap, kAsg_ap, eBN_ap, kBN_ap, aC_ap, kC_ap, kCr_ap, aN_ap]
          simp only [List.set_cons_succ, List.set_cons_zero, ec, R.bind_ok, hb, kC_ap, kCr_ap, aN_ap, kBN_ap, R.of_some]
          simp [h0, hfl, pv])
    ((sortS (keys ps)).map .str) [some (.ref p), some (.ref A.length), o2, o3, some (.ref (A.length + 1)), none, none] (A ++ [.lst ((keys ps).map .str), .lst [], .lst ((sortS (keys ps)).map .str)]) ⟨[], _, [], rfl, rfl, rfl, _, _, _, rfl⟩
  have hr : rest = [] := by cases rest with
    | nil => rfl
    | cons a b => cases s1
  subst hr
  rw [List.append_nil] at s2
  subst s3 s4
  have ht : totD ps done = tot ps := by rw [← s2]; rfl
  have hbs : bSorted [.ref A.length] (A ++ [.lst ((keys ps).map .str), .lst []]) = newL ((sortS (keys ps)).map .str) (A ++ [.lst ((keys ps).map .str), .lst []]) := bSorted_l (hA _) hks
  simp [Sh.d__law_total, Sh.m__law_total, sFor_ap, iVal, hpa, e1, hbs, newL, hsl, e2, ht]
end MM

/-! S4: divided, summed. -/
namespace MM
open PySem
theorem bools_map : ∀ is : List Bool, boolsOf (is.map .bl) = some is
  | [] => rfl
  | k :: ks => by
    show (boolsOf (ks.map .bl)).map (k :: ·) = _
    rw [bools_map ks]; rfl
theorem bAny_l {A : Mh} {q : Nat} {bs : List Bool} (h : A[q]? = some (.lst (bs.map .bl))) : bAny [.ref q] A = some (.bl (bs.any id), A) := by
  simp [bAny, listAt, h, bools_map]
theorem bAll_l {A : Mh} {q : Nat} {bs : List Bool} (h : A[q]? = some (.lst (bs.map .bl))) : bAll [.ref q] A = some (.bl (bs.all id), A) := by
  simp [bAll, listAt, h, bools_map]
theorem fm_map {α : Type} (f : α → MV) (g : α → MV) (G : MV → Option MV) (h : ∀ a, G (f a) = some (g a)) : ∀ xs : List α, (xs.map f).filterMap G = xs.map g
  | [] => rfl
  | x :: xs => by rw [List.map_cons, List.filterMap_cons, h, fm_map f g G h xs]; rfl
/-- a row divided -/
def dvd (qs : List Pair) (d : Int) : Bool := qs.all fun p => decide (p.2 % d = 0)
def dv (qs : List Pair) (bd d : Int) : MV := if d < 2 ∨ dvd qs d = false then .non else .tup [.tup ((qs.map fun p => ((p.1, p.2 / d) : Pair)).map pv), .int (bd / d), .bl false]
theorem any_dvd (qs : List Pair) (d : Int) : (qs.map fun p => !decide (p.2 % d = 0)).any id = !dvd qs d := by
  unfold dvd
  induction qs with
  | nil => rfl
  | cons p r ih => simp only [List.map_cons, List.any_cons, List.all_cons, ih, Bool.not_and]; rfl
theorem divided_ok {P : Prg} (hP : P.defs "divided" = some Sh.d_divided) (k : Nat) {A : Mh} {qs : List Pair} {bd d : Int} {e : MV} (hl : qs.length < 1000) (hd : d.natAbs.log2 < 9000) :
    ∃ X, P.call (k + 1) "divided" [.tup [.tup (qs.map pv), .int bd, e], .int d] A = .ok (dv qs bd d) (A ++ X) := by
  rw [call_run hP k _ _ rfl]
  unfold dv
  by_cases h2 : d < 2
  · exact ⟨[], by simp [Sh.d_divided, Sh.m_divided, h2]⟩
  · have h0 : 0 < d := by omega
    have h2' : ¬ d < 2 := h2
    obtain ⟨Y, ec⟩ := eComp_new (own := [5, 6]) (g := gTup [gV 5, gV 6]) (t := tYes) (e := eB2 vNe (eB2 vMod (eV 6) (eV 1)) (eC (.int 0))) (it := iVal (eV 2)) (c := P.ctx k) (ρ := [some (.tup [.tup (qs.map pv), .int bd, e]), some (.int d), some (.tup (qs.map pv)), some (.int bd), some e, none, none]) (A := A) (A1 := A)
      (w := ⟨qs.map pv, fun _ => True⟩) (by simp [iVal]) (fun x => match x with
        | .tup [.str n, .int i] => some (.bl (!decide (i % d = 0)))
        | _ => none) (fun _ => trivial) (by simp; omega) (fun x hx Y => by
          obtain ⟨n, hn, rfl⟩ := List.mem_map.mp hx
          exact ⟨[], by simp [cTurn, wipeE, pv, vMod_i _ _ _ h0]⟩)
    rw [show (⟨qs.map pv, fun _ => True⟩ : Walk).items = qs.map pv from rfl, fm_map pv (fun p => .bl (!decide (p.2 % d = 0))) _ (fun p => rfl)] at ec
    have hb : bAny [.ref A.length] (A ++ .lst (qs.map fun p => MV.bl (!decide (p.2 % d = 0))) :: Y) = some (.bl (!dvd qs d), A ++ .lst (qs.map fun p => MV.bl (!decide (p.2 % d = 0))) :: Y) := by
      rw [bAny_l (bs := qs.map fun p => !decide (p.2 % d = 0)) (by simp), any_dvd]
    cases hq : dvd qs d with
    | false =>
      refine ⟨.lst (qs.map fun p => MV.bl (!decide (p.2 % d = 0))) :: Y, ?_⟩
      simp [Sh.d_divided, Sh.m_divided, h2, ec, hb, hq]
    | true =>
      obtain ⟨Z, ed⟩ := eComp_new (own := [5, 6]) (g := gTup [gV 5, gV 6]) (t := tYes) (e := eTup (aC (eV 5) (aC (eB2 vDiv (eV 6) (eV 1)) (aN)))) (it := iVal (eV 2)) (c := P.ctx k) (ρ := [some (.tup [.tup (qs.map pv), .int bd, e]), some (.int d), some (.tup (qs.map pv)), some (.int bd), some e, none, none]) (A := A ++ .lst (qs.map fun p => MV.bl (!decide (p.2 % d = 0))) :: Y) (A1 := A ++ .lst (qs.map fun p => MV.bl (!decide (p.2 % d = 0))) :: Y)
        (w := ⟨qs.map pv, fun _ => True⟩) (by simp [iVal]) (fun x => match x with
          | .tup [.str n, .int i] => some (pv (n, i / d))
          | _ => none) (fun _ => trivial) (by simp; omega) (fun x hx Y => by
            obtain ⟨n, hn, rfl⟩ := List.mem_map.mp hx
            exact ⟨[], by simp [cTurn, wipeE, pv, vDiv_i _ _ _ h0 hd]⟩)
      rw [show (⟨qs.map pv, fun _ => True⟩ : Walk).items = qs.map pv from rfl, fm_map pv (fun p => pv (p.1, p.2 / d)) _ (fun p => rfl)] at ed
      refine ⟨.lst (qs.map fun p => MV.bl (!decide (p.2 % d = 0))) :: (Y ++ .lst (qs.map fun p => pv (p.1, p.2 / d)) :: Z), ?_⟩
      simp [Sh.d_divided, Sh.m_divided, h2, ec, hb, hq, ed, vDiv_i _ _ _ h0 hd]
theorem natAbs_div_le (i d : Int) (h : 0 < d) : (i / d).natAbs ≤ i.natAbs := by
  rcases Int.lt_or_le i 0 with hi | hi
  · have h1 : i ≤ i / d := by
      apply Int.le_ediv_of_mul_le h
      have h3 : 0 ≤ (-i) * (d - 1) := Int.mul_nonneg (by omega) (by omega)
      rw [Int.mul_sub, Int.neg_mul, Int.mul_one] at h3
      omega
    have h2 : i / d < 0 := Int.ediv_neg_of_neg_of_pos hi h
    omega
  · have h1 : 0 ≤ i / d := Int.ediv_nonneg hi (by omega)
    have h2 : i / d ≤ i := Int.ediv_le_self d hi
    omega
theorem sub_mod (i d : Int) : i - i / d * d = i % d := by
  rw [Int.emod_def, Int.mul_comm]
theorem parted_ok {P : Prg} (hP : P.defs "_law_parted" = some Sh.d__law_parted) (k : Nat) {A : Mh} {qs : List Pair} {bd d : Int} {e : MV} (hl : qs.length < 1000) (hd : d.natAbs.log2 < 9000) (hb : ∀ p ∈ qs, p.2.natAbs < 2 ^ 200) :
    ∃ X, P.call (k + 1) "_law_parted" [.tup [.tup (qs.map pv), .int bd, e], .int d] A = .ok (dv qs bd d) (A ++ X) := by
  rw [call_run hP k _ _ rfl]
  unfold dv
  by_cases h2 : d < 2
  · exact ⟨[], by simp [Sh.d__law_parted, Sh.m__law_parted, h2]⟩
  · have h0 : 0 < d := by omega
    obtain ⟨Y, ec⟩ := eComp_new (own := [2, 3]) (g := gTup [gV 2, gV 3]) (t := tYes) (e := eB2 vNe (eB2 vSub (eV 3) (eB2 vMul (eB2 vDiv (eV 3) (eV 1)) (eV 1))) (eC (.int 0))) (it := iVal (eB2 vIdxD (eV 0) (eC (.int 0)))) (c := P.ctx k) (ρ := [some (.tup [.tup (qs.map pv), .int bd, e]), some (.int d), none, none]) (A := A) (A1 := A)
      (w := ⟨qs.map pv, fun _ => True⟩) (by simp [iVal]) (fun x => match x with
        | .tup [.str n, .int i] => some (.bl (!decide (i % d = 0)))
        | _ => none) (fun _ => trivial) (by simp; omega) (fun x hx Y => by
          obtain ⟨n, hn, rfl⟩ := List.mem_map.mp hx
          have hm : (n.2 / d).natAbs.log2 + d.natAbs.log2 < 1000000 := by
            have h1 : (n.2 / d).natAbs < 2 ^ (199 + 1) := Nat.lt_of_le_of_lt (natAbs_div_le _ _ h0) (hb n hn)
            have h3 := log2_lt h1
            omega
          exact ⟨[], by simp [cTurn, wipeE, pv, vDiv_i _ _ _ h0 hd, vMul_i _ _ _ hm, sub_mod]⟩)
    rw [show (⟨qs.map pv, fun _ => True⟩ : Walk).items = qs.map pv from rfl, fm_map pv (fun p => .bl (!decide (p.2 % d = 0))) _ (fun p => rfl)] at ec
    have hb : bAny [.ref A.length] (A ++ .lst (qs.map fun p => MV.bl (!decide (p.2 % d = 0))) :: Y) = some (.bl (!dvd qs d), A ++ .lst (qs.map fun p => MV.bl (!decide (p.2 % d = 0))) :: Y) := by
      rw [bAny_l (bs := qs.map fun p => !decide (p.2 % d = 0)) (by simp), any_dvd]
    cases hq : dvd qs d with
    | false =>
      refine ⟨.lst (qs.map fun p => MV.bl (!decide (p.2 % d = 0))) :: Y, ?_⟩
      simp [Sh.d__law_parted, Sh.m__law_parted, h2, ec, hb, hq]
    | true =>
      obtain ⟨Z, ed⟩ := eComp_new (own := [2, 3]) (g := gTup [gV 2, gV 3]) (t := tYes) (e := eTup (aC (eV 2) (aC (eB2 vDiv (eV 3) (eV 1)) (aN)))) (it := iVal (eB2 vIdxD (eV 0) (eC (.int 0)))) (c := P.ctx k) (ρ := [some (.tup [.tup (qs.map pv), .int bd, e]), some (.int d), none, none]) (A := A ++ .lst (qs.map fun p => MV.bl (!decide (p.2 % d = 0))) :: Y) (A1 := A ++ .lst (qs.map fun p => MV.bl (!decide (p.2 % d = 0))) :: Y)
        (w := ⟨qs.map pv, fun _ => True⟩) (by simp [iVal]) (fun x => match x with
          | .tup [.str n, .int i] => some (pv (n, i / d))
          | _ => none) (fun _ => trivial) (by simp; omega) (fun x hx Y => by
            obtain ⟨n, hn, rfl⟩ := List.mem_map.mp hx
            exact ⟨[], by simp [cTurn, wipeE, pv, vDiv_i _ _ _ h0 hd]⟩)
      rw [show (⟨qs.map pv, fun _ => True⟩ : Walk).items = qs.map pv from rfl, fm_map pv (fun p => pv (p.1, p.2 / d)) _ (fun p => rfl)] at ed
      refine ⟨.lst (qs.map fun p => MV.bl (!decide (p.2 % d = 0))) :: (Y ++ .lst (qs.map fun p => pv (p.1, p.2 / d)) :: Z), ?_⟩
      simp [Sh.d__law_parted, Sh.m__law_parted, h2, ec, hb, hq, ed, vDiv_i _ _ _ h0 hd]
/-! ### weighted sums -/
/-- a row: its pairs, its bound, whether equal -/
abbrev Row := List Pair × Int × Bool
def rowV (r : Row) : MV := .tup [.tup (r.1.map pv), .int r.2.1, .bl r.2.2]
def rwV (r : Row × Int) : MV := .tup [rowV r.1, .int r.2]
def scl (w : Int) (qs : List Pair) : List Pair := qs.map fun p => (p.1, p.2 * w)
def scls : List (Row × Int) → List Pair
  | [] => []
  | r :: rs => scl r.2 r.1.1 ++ scls rs
def bnd : List (Row × Int) → Int
  | [] => 0
  | r :: rs => r.1.2.1 * r.2 + bnd rs
theorem scls_snoc (r : Row × Int) : ∀ rs, scls (rs ++ [r]) = scls rs ++ scl r.2 r.1.1
  | [] => by simp [scls]
  | s :: rs => by simp [scls, scls_snoc r rs]
theorem bnd_snoc (r : Row × Int) : ∀ rs, bnd (rs ++ [r]) = bnd rs + r.1.2.1 * r.2
  | [] => by simp [bnd]
  | s :: rs => by simp [bnd, bnd_snoc r rs]; omega
theorem scls_len : ∀ (rs : List (Row × Int)) (m : Nat), (∀ r ∈ rs, r.1.1.length ≤ m) → (scls rs).length ≤ rs.length * m
  | [], m, _ => by simp [scls]
  | r :: rs, m, h => by
    have h1 := scls_len rs m fun s hs => h s (List.mem_cons_of_mem _ hs)
    have h2 := h r (List.mem_cons_self ..)
    simp [scls, scl, Nat.add_mul]
    omega
/-- what the weighted rows may hold -/
structure RwOk (r : Row × Int) : Prop where
  len : r.1.1.length ≤ 8
  prs : ∀ p ∈ r.1.1, p.2.natAbs < 2 ^ 200
  top : r.1.2.1.natAbs < 2 ^ 200
  wgt : r.2.natAbs < 2 ^ 200
theorem mul_room {i j : Int} (h1 : i.natAbs < 2 ^ 200) (h2 : j.natAbs < 2 ^ 200) : i.natAbs.log2 + j.natAbs.log2 < 1000000 := by
  have h3 := log2_lt (k := 199) h1
  have h4 := log2_lt (k := 199) h2
  omega
theorem summed_ok {P : Prg} (hP : P.defs "summed" = some Sh.d_summed) (hR : P.defs "row" = some Sh.d_row) (k : Nat) {A : Mh} {p : Nat} {rs : List (Row × Int)} (hp : A[p]? = some (.lst (rs.map rwV))) (hl : rs.length ≤ 7) (hr : ∀ r ∈ rs, RwOk r) :
    ∃ X, P.call (k + 2) "summed" [.ref p] A = .ok (rowV (tot (scls rs), bnd rs, rs.all fun r => r.1.2.2)) (A ++ X) := by
  rw [call_run hP (k + 1) _ _ rfl]
  have hpl := lt_len hp
  have hpa : ∀ X : Mh, (A ++ X)[p]? = some (.lst (rs.map rwV)) := fun X => app_lst A X p _ hp
  have hsl : (scls rs).length ≤ rs.length * 8 := scls_len rs 8 fun r h => (hr r h).len
  obtain ⟨ρ1, A1, e1, done, rest, Z, r1, r2, r3, o3, o4, o5, o6, r4⟩ := forL_nx (still := fun A2 => A2[p]? = some (.lst (rs.map rwV))) (turn := fTurn (gTup [gTup [gV 3, gV 4, gV 5], gV 6]) (sSeq (sExp (eBM .lst mExtend (eV 1) (aC (eComp [7, 8] (iVal (eV 3)) (gTup [gV 7, gV 8]) (tYes) (eTup (aC (eV 7) (aC (eB2 vMul (eV 8) (eV 6)) (aN))))) (aN)))) (sAug 2 vAug (eB2 vMul (eV 4) (eV 6)))) (P.ctx (k + 1)))
    (fun xs ρ H => ∃ done rest Z, xs = rest.map rwV ∧ rs = done ++ rest ∧ H = A ++ .lst ((scls done).map pv) :: Z ∧ ∃ o3 o4 o5 o6, ρ = [some (.ref p), some (.ref A.length), some (.int (bnd done)), o3, o4, o5, o6, none, none, none])
    (fun xs ρ H ⟨done, rest, Z, _, _, e, _⟩ => by subst e; exact hpa _)
    (fun x xs ρ H ⟨done, rest, Z, e1, e2, e3, o3, o4, o5, o6, e4⟩ => by
      cases rest with
      | nil => cases e1
      | cons m rest =>
        rw [List.map_cons] at e1
        injection e1 with e5 e6
        subst e5 e6 e3 e4
        have hm : RwOk m := hr m (by rw [e2]; simp)
        obtain ⟨⟨qs, tp, eq⟩, w⟩ := m
        have hq : ∀ p ∈ qs, p.2.natAbs < 2 ^ 200 := hm.prs
        have hw : w.natAbs < 2 ^ 200 := hm.wgt
        have ht : tp.natAbs < 2 ^ 200 := hm.top
        have hl : qs.length ≤ 8 := hm.len
        obtain ⟨Y, ec⟩ := eComp_new (own := [7, 8]) (g := gTup [gV 7, gV 8]) (t := tYes) (e := eTup (aC (eV 7) (aC (eB2 vMul (eV 8) (eV 6)) (aN)))) (it := iVal (eV 3)) (c := P.ctx (k + 1)) (ρ := [some (.ref p), some (.ref A.length), some (.int (bnd done)), some (.tup (qs.map pv)), some (.int tp), some (.bl eq), some (.int w), none, none, none])
          (A := A ++ .lst ((scls done).map pv) :: Z) (A1 := A ++ .lst ((scls done).map pv) :: Z) (w := ⟨qs.map pv, fun _ => True⟩) (by simp [iVal]) (fun x => match x with
            | .tup [.str n, .int i] => some (pv (n, i * w))
            | _ => none) (fun _ => trivial) (by simp; omega) (fun x hx Y => by
              obtain ⟨n, hn, rfl⟩ := List.mem_map.mp hx
              exact ⟨[], by simp [cTurn, wipeE, pv, vMul_i _ _ _ (mul_room (hq n hn) hw)]⟩)
        rw [show (⟨qs.map pv, fun _ => True⟩ : Walk).items = qs.map pv from rfl, fm_map pv (fun p => pv (p.1, p.2 * w)) _ (fun p => rfl)] at ec
        have hdl : (scls done).length ≤ 63 := by
          have h1 : (scls done).length ≤ done.length * 8 := scls_len done 8 fun r h => (hr r (by rw [e2]; simp [h])).len
          have h2 : done.length ≤ rs.length := by rw [e2]; simp
          omega
        have hl2 : (scls done).length + qs.length ≤ 1000000 := by omega
        refine ⟨[some (.ref p), some (.ref A.length), some (.int (bnd done + tp * w)), some (.tup (qs.map pv)), some (.int tp), some (.bl eq), some (.int w), none, none, none], A ++ .lst ((scls done).map pv ++ qs.map fun p => pv (p.1, p.2 * w)) :: (Z ++ .lst (qs.map fun p => pv (p.1, p.2 * w)) :: Y), .inl ?_, done ++ [((qs, tp, eq), w)], rest, Z ++ .lst (qs.map fun p => pv (p.1, p.2 * w)) :: Y, rfl, by rw [e2]; simp, ?_, some (.tup (qs.map pv)), some (.int tp), some (.bl eq), some (.int w), ?_⟩
        · simp [rwV, rowV, ec, hl2, vMul_i _ _ _ (mul_room ht hw)]
        · rw [scls_snoc]
          simp [scl]
        · rw [bnd_snoc])
    (rs.map rwV) [some (.ref p), some (.ref A.length), some (.int 0), none, none, none, none, none, none, none] (A ++ [.lst []]) ⟨[], rs, [], rfl, rfl, rfl, _, _, _, _, rfl⟩
  have hr0 : rest = [] := by cases rest with
    | nil => rfl
    | cons a b => cases r1
  subst hr0
  rw [List.append_nil] at r2
  subst r2 r3 r4
  obtain ⟨Y, ec⟩ := eComp_new (own := [9, 6]) (g := gTup [gV 9, gV 6]) (t := tYes) (e := eB2 vIdxD (eV 9) (eC (.int 2))) (it := iVal (eV 0)) (c := P.ctx (k + 1)) (ρ := [some (.ref p), some (.ref A.length), some (.int (bnd rs)), o3, o4, o5, o6, none, none, none])
    (A := A ++ .lst ((scls rs).map pv) :: Z) (A1 := A ++ .lst ((scls rs).map pv) :: Z) (w := ⟨rs.map rwV, fun A2 => A2[p]? = some (.lst (rs.map rwV))⟩) (by simp [iVal, hpa]) (fun x => match x with
      | .tup [.tup [_, _, e], _] => some e
      | _ => none) (fun Y => by simp only [List.append_assoc]; exact hpa _) (by simp; omega) (fun x hx Y => by
        obtain ⟨n, hn, rfl⟩ := List.mem_map.mp hx
        exact ⟨[], by simp [cTurn, wipeE, rwV, rowV]⟩)
  rw [show (⟨rs.map rwV, fun A2 => A2[p]? = some (.lst (rs.map rwV))⟩ : Walk).items = rs.map rwV from rfl, fm_map rwV (fun r => .bl r.1.2.2) _ (fun p => rfl)] at ec
  have hb : bAll [.ref (A ++ .lst ((scls rs).map pv) :: Z).length] (A ++ .lst ((scls rs).map pv) :: Z ++ .lst (rs.map fun r => MV.bl r.1.2.2) :: Y) = some (.bl (rs.all fun r => r.1.2.2), A ++ .lst ((scls rs).map pv) :: Z ++ .lst (rs.map fun r => MV.bl r.1.2.2) :: Y) := by
    rw [bAll_l (bs := rs.map fun r => r.1.2.2) (by simp), List.all_map]
    rfl
  obtain ⟨X, er⟩ := row_ok hR k (A := A ++ .lst ((scls rs).map pv) :: Z ++ .lst (rs.map fun r => MV.bl r.1.2.2) :: Y) (p := A.length) (ps := scls rs) (bd := .int (bnd rs)) (eq := .bl (rs.all fun r => r.1.2.2)) (by simp) (by omega)
  refine ⟨.lst ((scls rs).map pv) :: Z ++ .lst (rs.map fun r => MV.bl r.1.2.2) :: Y ++ X, ?_⟩
  simp [Sh.d_summed, Sh.m_summed, iVal, hpa, e1]
  rw [ec]
  simp only [R.bind_ok, hb, R.of_some, kC_ap, kCr_ap, aN_ap, kBN_ap]
  simp only [ctx_call, kCallKr_ap, true_and, and_self, List.length_cons, List.length_nil, if_pos, pick, List.map_cons, List.map_nil, List.getD_cons_zero, List.getD_cons_succ, er]
  simp [rowV]
end MM

/-! S5: drawn names. -/
namespace MM
open PySem
namespace Sh
noncomputable def m__law_names : MS := sSeq (sAsg (eB2 vIdxD (eLst (aC (eC (.str "")) (aC (eC (.str "1")) (aC (eC (.str "x9")) (aC (eC (.str "longest")) (aC (eC (.str "zz")) (aN))))))) (eCall "_law_pull" (aC (eV 0) (aC (eC (.int 5)) (aN))) id)) (gV 2)) (sSeq (sAsg (eCall "_law_pull" (aC (eV 0) (aC (eC (.int 26)) (aN))) id) (gV 3)) (sSeq (sAsg (eC (.str "abcdefghijklmnopqrstuvwxyz")) (gV 4)) (sSeq (sAsg (eLst (aN)) (gV 5)) (sSeq (sFor (iRange1 (aC (eV 1) (aN))) (gV 6) (sSeq (sAsg (eB2 vIdxD (eV 4) (eB2 vMod (eB2 vAdd (eV 3) (eB2 vMul (eC (.int 5)) (eV 6))) (eC (.int 26)))) (gV 7)) (sExp (eBM .lst mAppend (eV 5) (aC (eIf (tVal (eB2 vLt (eV 6) (eC (.int 26)))) (eB2 vAdd (eV 7) (eV 2)) (eB2 vAdd (eB2 vAdd (eV 7) (eBN bStr (aC (eB2 vDiv (eV 6) (eC (.int 26))) (aN)))) (eSl (eV 2) (oN) (oS (eC (.int 6)))))) (aN)))))) (sRet (eV 5))))))
noncomputable def d__law_names : MD := ⟨2, 8, m__law_names⟩
end Sh
theorem vIdxD_str {z : Str} (A : Mh) (i : Int) (h : z.length ≤ 1000000) : vIdxD (.str z) (.int i) A = (L2.atI z.cps.toList i).map fun c => (.str ⟨#[c]⟩, A) := by
  simp [vIdxD, dictAt, vIdx, h]
theorem range_mid {m x : Nat} {done rest : List Nat} (h : List.range m = done ++ x :: rest) : x = done.length ∧ done = List.range done.length ∧ done.length < m := by
  have hl : done.length < m := by
    have := congrArg List.length h
    simp at this
    omega
  have h1 : (List.range m)[done.length]? = some x := by rw [h]; simp
  rw [List.getElem?_range hl] at h1
  refine ⟨(Option.some.inj h1).symm, ?_, hl⟩
  have h2 : (List.range m).take done.length = done := by rw [h]; simp
  rw [List.take_range, Nat.min_eq_left (Nat.le_of_lt hl)] at h2
  exact h2.symm
abbrev abc : Str := "abcdefghijklmnopqrstuvwxyz"
theorem abc_len : abc.length = 26 := by decide
theorem abc_len2 : abc.cps.toList.length = 26 := by decide
abbrev tails : List Str := ["", "1", "x9", "longest", "zz"]
theorem tails_len : ∀ t ∈ tails, t.length ≤ 7 := by decide
def nmAt (tl : Str) (st i : Nat) : Str := ⟨#[abc.cps.toList.getD ((st + 5 * i) % 26) 0]⟩ ++ tl
theorem names_ok {P : Prg} (hP : P.defs "_law_names" = some Sh.d__law_names) (hL : P.defs "_law_pull" = some Sh.d__law_pull) (k : Nat) {A : Mh} {b c n : Nat} {cells : List Int} (B : Bg A b c cells n) (hn : n + 5 < 2 ^ 60) {m : Nat} (hm : m ≤ 26) :
    ∃ q A' tl st, P.call (k + 2) "_law_names" [.ref b, .int m] A = .ok (.ref q) A' ∧ Ev b A A' ∧ Bg A' b c cells (n + 2) ∧ A.length ≤ q ∧ tl ∈ tails ∧ st < 26 ∧ A'[q]? = some (.lst ((List.range m).map fun i => .str (nmAt tl st i))) := by
  rw [call_run hP (k + 1) _ _ rfl]
  have hbl := B.lt
  have hT : (tails.map MV.str) = [.str "", .str "1", .str "x9", .str "longest", .str "zz"] := rfl
  obtain ⟨v1, o1, e1, p1, p2, B1⟩ := pull hL k (B.app [.lst (tails.map .str)]) (sz := 5) (by decide) (by decide) (by omega)
  obtain ⟨v2, o2, e2, p3, p4, B2⟩ := pull hL k B1 (sz := 26) (by decide) (by decide) (by omega)
  obtain ⟨j, hj, rfl, ej⟩ := atI_get (xs := tails.map MV.str) p1 (by simpa using p2)
  obtain ⟨st, rfl⟩ := Int.eq_ofNat_of_zero_le p3
  have hst : st < 26 := by omega
  have hj5 : j < tails.length := by simpa using hj
  have hle : (tails[j]'hj5) ∈ tails := List.getElem_mem _
  have htl := tails_len _ hle
  have ej2 : L2.atI (tails.map MV.str) (j : Int) = some (.str (tails[j]'hj5)) := by rw [ej, List.getElem_map]
  generalize (tails[j]'hj5) = tl at ej2 hle htl
  generalize hA0 : A ++ [MO.lst (tails.map .str)] = A0 at e1 e2 B1 B2
  have hg : (A0.set b o1)[A.length]? = some (.lst (tails.map .str)) := by
    rw [List.getElem?_set_ne (by omega), ← hA0]; simp
  have ev : Ev b A ((A0.set b o1).set b o2) := by
    rw [← hA0]
    exact ((Ev.app b A _).trans (Ev.set b _ _)).trans (Ev.set b _ _)
  generalize hA1 : (A0.set b o1).set b o2 = A1 at e2 B2 ev
  obtain ⟨ρ1, A2, ef, done, rest, r1, r2, r3, o6, o7, r4⟩ := forL_nx (still := fun _ => True) (turn := fTurn (gV 6) (sSeq (sAsg (eB2 vIdxD (eV 4) (eB2 vMod (eB2 vAdd (eV 3) (eB2 vMul (eC (.int 5)) (eV 6))) (eC (.int 26)))) (gV 7)) (sExp (eBM .lst mAppend (eV 5) (aC (eIf (tVal (eB2 vLt (eV 6) (eC (.int 26)))) (eB2 vAdd (eV 7) (eV 2)) (eB2 vAdd (eB2 vAdd (eV 7) (eBN bStr (aC (eB2 vDiv (eV 6) (eC (.int 26))) (aN)))) (eSl (eV 2) (oN) (oS (eC (.int 6)))))) (aN))))) (P.ctx (k + 1)))
    (fun xs ρ H => ∃ done rest, xs = rest.map (fun k : Nat => MV.int (0 + (k : Int))) ∧ List.range m = done ++ rest ∧ H = A1 ++ [.lst (done.map fun i => .str (nmAt tl st i))] ∧ ∃ o6 o7, ρ = [some (.ref b), some (.int m), some (.str tl), some (.int st), some (.str abc), some (.ref A1.length), o6, o7])
    (fun _ _ _ _ => trivial)
    (fun x xs ρ H ⟨done, rest, e1, e2, e3, o6, o7, e4⟩ => by
      cases rest with
      | nil => cases e1
      | cons i rest =>
        rw [List.map_cons] at e1
        injection e1 with e5 e6
        subst e5 e6 e3 e4
        obtain ⟨rfl, _, hi⟩ := range_mid e2
        have h26 : (done.length : Int) < 26 := by omega
        have h0 : (0 : Int) + (done.length : Int) = (done.length : Int) := by omega
        have hm : (5 : Int).natAbs.log2 + (done.length : Int).natAbs.log2 < 1000000 := by
          have h1 : (done.length : Int).natAbs.log2 < 5 := log2_lt (k := 4) (by omega)
          have h2 : (5 : Int).natAbs.log2 < 3 := by decide
          omega
        have hix : L2.atI abc.cps.toList (((st : Int) + 5 * (done.length : Int)) % 26) = some (abc.cps.toList.getD ((st + 5 * done.length) % 26) 0) := by
          have h1 : ((st : Int) + 5 * (done.length : Int)) % 26 = (((st + 5 * done.length) % 26 : Nat) : Int) := by omega
          rw [h1, atI_nat]
          have h2 : (st + 5 * done.length) % 26 < abc.cps.toList.length := by rw [abc_len2]; omega
          rw [List.getD_eq_getElem?_getD, List.getElem?_eq_getElem h2]
          rfl
        have hdl : done.length < 1000000 := by omega
        obtain ⟨ch, hch⟩ : ∃ ch, abc.cps.toList.getD ((st + 5 * done.length) % 26) 0 = ch := ⟨_, rfl⟩
        have hnm : nmAt tl st done.length = (⟨#[ch]⟩ : Str) ++ tl := by unfold nmAt; rw [hch]
        rw [hch] at hix
        have hsl : (⟨#[ch]⟩ : Str).length + tl.length ≤ 1000000 := by
          show 1 + tl.length ≤ 1000000
          omega
        refine ⟨[some (.ref b), some (.int m), some (.str tl), some (.int st), some (.str abc), some (.ref A1.length), some (.int (done.length : Int)), some (.str ⟨#[ch]⟩)], A1 ++ [.lst ((done ++ [done.length]).map fun i => .str (nmAt tl st i))], .inl ?_, done ++ [done.length], rest, rfl, by rw [e2]; simp, rfl, _, _, rfl⟩
        rw [h0]
        have ha : vIdxD (.str abc) (.int (((st : Int) + 5 * (done.length : Int)) % 26)) (A1 ++ [.lst (done.map fun i => .str (nmAt tl st i))]) = some (.str ⟨#[ch]⟩, A1 ++ [.lst (done.map fun i => .str (nmAt tl st i))]) := by
          rw [vIdxD_str _ _ (by rw [abc_len]; decide), hix]
          rfl
        have hva : ∀ H : Mh, vAdd (.str ⟨#[ch]⟩) (.str tl) H = some (.str (nmAt tl st done.length), H) := fun H => by rw [hnm]; exact if_pos hsl
        simp only [fTurn_ap, gV_ap, RS.bind_nx, sSeq_ap, sAsg_ap, kAsg_ap, eB2_ap, kB2_ap, kB2r_ap, eV_ap, eC_ap, List.set_cons_succ, List.set_cons_zero, List.getElem?_cons_succ, List.getElem?_cons_zero, R.bind_ok, vMul_i _ _ _ hm, R.of_some, vAdd_i, vMod_i _ _ 26 (by decide), ha, R.bindS_ok]
        simp [hva, h26, hdl])
    (intsV 0 m) [some (.ref b), some (.int m), some (.str tl), some (.int st), some (.str abc), some (.ref A1.length), none, none] (A1 ++ [.lst []]) ⟨[], List.range m, rfl, rfl, rfl, _, _, rfl⟩
  have hr : rest = [] := by cases rest with
    | nil => rfl
    | cons a b => cases r1
  subst hr
  rw [List.append_nil] at r2
  subst r3 r4
  have hir : iRange1 (aC (eV 1) (aN)) (P.ctx (k + 1)) [some (.ref b), some (.int m), some (.str tl), some (.int st), some (.str abc), some (.ref A1.length), none, none] (A1 ++ [.lst []]) = .ok ⟨intsV 0 m, fun _ => True⟩ (A1 ++ [.lst []]) :=
    iRange1_ok (j := (m : Int)) (by simp) (by omega) (by omega)
  refine ⟨A1.length, A1 ++ [.lst ((List.range m).map fun i => .str (nmAt tl st i))], tl, st, ?_, ev.trans (Ev.app _ _ _), B2.app _, ev.len, hle, hst, by simp⟩
  have hA0' : A ++ [MO.lst [.str "", .str "1", .str "x9", .str "longest", .str "zz"]] = A0 := hA0
  simp [Sh.d__law_names, Sh.m__law_names, hA0', e1]
  simp only [hg, ej2, Option.map_some, R.of_some, R.bindS_ok, RS.bind_nx]
  simp [e2, hir, ef, r2]
end MM

/-! S6: trees of rows. -/
namespace MM
open PySem
theorem Tr.all_map {α : Type} {A : Mh} {f : α → Tr} {g : α → MV} : ∀ (xs : List α), (∀ x ∈ xs, (f x).Is A (g x)) → Tr.All A (xs.map f) (xs.map g)
  | [], _ => by simp [Tr.All]
  | x :: xs, h => by
    rw [List.map_cons, List.map_cons]
    unfold Tr.All
    exact ⟨_, _, rfl, h x (List.mem_cons_self ..), Tr.all_map xs fun y hy => h y (List.mem_cons_of_mem _ hy)⟩
theorem Tr.deps_map {α : Type} {f : α → Tr} {d : Nat} : ∀ (xs : List α), (∀ x ∈ xs, (f x).dep ≤ d) → Tr.deps (xs.map f) ≤ d
  | [], _ => by simp [Tr.deps]
  | x :: xs, h => by
    rw [List.map_cons]
    unfold Tr.deps
    have h1 := h x (List.mem_cons_self ..)
    have h2 := Tr.deps_map xs fun y hy => h y (List.mem_cons_of_mem _ hy)
    omega
theorem Tr.fews_map {α : Type} {f : α → Tr} : ∀ (xs : List α), (∀ x ∈ xs, (f x).Few) → Tr.Fews (xs.map f)
  | [], _ => by simp [Tr.Fews]
  | x :: xs, h => by
    rw [List.map_cons]
    unfold Tr.Fews
    exact ⟨h x (List.mem_cons_self ..), Tr.fews_map xs fun y hy => h y (List.mem_cons_of_mem _ hy)⟩
theorem Tr.all_nil {A : Mh} : Tr.All A [] [] := by simp [Tr.All]
theorem Tr.all_cons {A : Mh} {t : Tr} {ts : List Tr} {v : MV} {vs : List MV} (h : t.Is A v) (hs : Tr.All A ts vs) : Tr.All A (t :: ts) (v :: vs) := by
  unfold Tr.All
  exact ⟨_, _, rfl, h, hs⟩
theorem Tr.is_tup {A : Mh} {ts : List Tr} {vs : List MV} (h : Tr.All A ts vs) : (Tr.tup ts).Is A (.tup vs) := by
  unfold Tr.Is
  exact ⟨_, rfl, h⟩
theorem Tr.is_lst {A : Mh} {ts : List Tr} {p : Nat} {vs : List MV} (e : A[p]? = some (.lst vs)) (h : Tr.All A ts vs) : (Tr.lst ts).Is A (.ref p) := by
  unfold Tr.Is
  exact ⟨_, _, rfl, e, h⟩
theorem Tr.is_int {A : Mh} (i : Int) : (Tr.int i).Is A (.int i) := by unfold Tr.Is; rfl
theorem Tr.is_str {A : Mh} (i : Str) : (Tr.str i).Is A (.str i) := by unfold Tr.Is; rfl
theorem Tr.is_bl {A : Mh} (i : Bool) : (Tr.bl i).Is A (.bl i) := by unfold Tr.Is; rfl
theorem Tr.is_non {A : Mh} : Tr.non.Is A .non := by unfold Tr.Is; rfl
def trP (p : Pair) : Tr := .tup [.str p.1, .int p.2]
theorem trP_is {A : Mh} (p : Pair) : (trP p).Is A (pv p) := Tr.is_tup (Tr.all_cons (Tr.is_str _) (Tr.all_cons (Tr.is_int _) Tr.all_nil))
theorem trP_dep (p : Pair) : (trP p).dep ≤ 2 := by simp [trP, Tr.dep, Tr.deps]
theorem trP_few (p : Pair) : (trP p).Few := by simp [trP, Tr.Few, Tr.Fews]
def trPs (qs : List Pair) : Tr := .tup (qs.map trP)
theorem trPs_is {A : Mh} (qs : List Pair) : (trPs qs).Is A (.tup (qs.map pv)) := Tr.is_tup (Tr.all_map qs fun p _ => trP_is p)
theorem trPs_dep (qs : List Pair) : (trPs qs).dep ≤ 3 := by
  have := Tr.deps_map (f := trP) (d := 2) qs fun p _ => trP_dep p
  simp only [trPs, Tr.dep]
  omega
theorem trPs_few (qs : List Pair) (h : qs.length < 50000) : (trPs qs).Few := by
  unfold trPs Tr.Few
  exact ⟨by simpa using h, Tr.fews_map qs fun p _ => trP_few p⟩
def trR (r : Row) : Tr := .tup [trPs r.1, .int r.2.1, .bl r.2.2]
theorem trR_is {A : Mh} (r : Row) : (trR r).Is A (rowV r) := Tr.is_tup (Tr.all_cons (trPs_is _) (Tr.all_cons (Tr.is_int _) (Tr.all_cons (Tr.is_bl _) Tr.all_nil)))
theorem trR_dep (r : Row) : (trR r).dep ≤ 4 := by
  have := trPs_dep r.1
  simp only [trR, Tr.dep, Tr.deps]
  omega
theorem trR_few (r : Row) (h : r.1.length < 50000) : (trR r).Few := by
  have h1 := trPs_few r.1 h
  simp [trR, Tr.Few, Tr.Fews, h1]
def trRw (r : Row × Int) : Tr := .tup [trR r.1, .int r.2]
theorem trRw_is {A : Mh} (r : Row × Int) : (trRw r).Is A (rwV r) := Tr.is_tup (Tr.all_cons (trR_is _) (Tr.all_cons (Tr.is_int _) Tr.all_nil))
theorem trRw_dep (r : Row × Int) : (trRw r).dep ≤ 5 := by
  have := trR_dep r.1
  simp only [trRw, Tr.dep, Tr.deps]
  omega
theorem trRw_few (r : Row × Int) (h : r.1.1.length < 50000) : (trRw r).Few := by
  have h1 := trR_few r.1 h
  simp [trRw, Tr.Few, Tr.Fews, h1]
/-- a divided row -/
def trD (qs : List Pair) (bd d : Int) : Tr := if d < 2 ∨ dvd qs d = false then .non else trR (qs.map fun p => (p.1, p.2 / d), bd / d, false)
theorem trD_is {A : Mh} (qs : List Pair) (bd d : Int) : (trD qs bd d).Is A (dv qs bd d) := by
  unfold trD dv
  split
  · exact Tr.is_non
  · exact trR_is _
theorem trD_dep (qs : List Pair) (bd d : Int) : (trD qs bd d).dep ≤ 4 := by
  unfold trD
  split
  · simp [Tr.dep]
  · exact trR_dep _
theorem trD_few (qs : List Pair) (bd d : Int) (h : qs.length < 50000) : (trD qs bd d).Few := by
  unfold trD
  split
  · simp [Tr.Few]
  · exact trR_few _ (by simpa using h)
theorem tot_len (ps : List Pair) : (tot ps).length ≤ ps.length := by
  have h1 := totD_len ps (sortS (keys ps))
  have h2 : (keys ps).length ≤ ps.length := by simpa using keys_len ps []
  rw [sort_len] at h1
  exact Nat.le_trans h1 h2
theorem sum_bound {M : Nat} {n : Str} : ∀ (ps : List Pair), (∀ p ∈ ps, p.2.natAbs ≤ M) → (sumOf ps n).natAbs ≤ ps.length * M
  | [], _ => by simp [sumOf]
  | p :: r, h => by
    have h1 := sum_bound (n := n) r fun q hq => h q (List.mem_cons_of_mem _ hq)
    have h2 := h p (List.mem_cons_self ..)
    unfold sumOf
    simp only [List.length_cons, Nat.add_mul, Nat.one_mul]
    split <;> omega
theorem tot_bound {M : Nat} (ps : List Pair) (h : ∀ p ∈ ps, p.2.natAbs ≤ M) : ∀ q ∈ tot ps, q.2.natAbs ≤ ps.length * M := by
  intro q hq
  unfold tot at hq
  obtain ⟨h1, _⟩ := List.mem_filter.mp hq
  obtain ⟨n, _, rfl⟩ := List.mem_map.mp h1
  exact sum_bound ps h
end MM

namespace Law_k10
open PySem MM
noncomputable def q__law_some_pairs_0 : MS := sAsg (eLst (aN)) (gV 3)
noncomputable def q__law_some_pairs_1b_0 : MS := sExp (eBM .lst mAppend (eV 3) (aC (eTup (aC (eB2 vIdxD (eV 1) (eCall "_law_pull" (aC (eV 0) (aC (eBN bLen (aC (eV 1) (aN))) (aN))) id)) (aC (eB2 vSub (eCall "_law_pull" (aC (eV 0) (aC (eV 2) (aN))) id) (eB2 vDiv (eV 2) (eC (.int 2)))) (aN)))) (aN)))
noncomputable def q__law_some_pairs_1b : MS := q__law_some_pairs_1b_0
noncomputable def q__law_some_pairs_1 : MS := sFor (iRange1 (aC (eCall "_law_pull" (aC (eV 0) (aC (eC (.int 7)) (aN))) id) (aN))) (gV 4) q__law_some_pairs_1b
noncomputable def q__law_some_pairs_2 : MS := sRet (eV 3)
noncomputable def q__law_some_pairs : MS := sSeq q__law_some_pairs_0 (sSeq q__law_some_pairs_1 (q__law_some_pairs_2))
theorem q__law_some_pairs_eq : m__law_some_pairs = q__law_some_pairs := rfl
noncomputable def q_law_0 : MS := sAsg (eCall "_law_bag" (aC (eV 0) (aN)) id) (gV 1)
noncomputable def q_law_1 : MS := sAsg (eCall "_law_names" (aC (eV 1) (aC (eC (.int 4)) (aN))) id) (gV 2)
noncomputable def q_law_2 : MS := sAsg (eB2 vIdxD (eLst (aC (eC (.int 3)) (aC (eC (.int 19)) (aC (eB2 vPow (eC (.int 10)) (eC (.int 21))) (aN))))) (eCall "_law_pull" (aC (eV 1) (aC (eC (.int 3)) (aN))) id)) (gV 3)
noncomputable def q_law_3 : MS := sAsg (eLst (aN)) (gV 4)
noncomputable def q_law_4b_0 : MS := sAsg (eCall "_law_some_pairs" (aC (eV 1) (aC (eV 2) (aC (eV 3) (aN)))) id) (gV 6)
noncomputable def q_law_4b_1 : MS := sAsg (eBN bList (aC (eV 6) (aN))) (gV 7)
noncomputable def q_law_4b_2 : MS := sAsg (eB2 vSub (eCall "_law_pull" (aC (eV 1) (aC (eV 3) (aN))) id) (eB2 vDiv (eV 3) (eC (.int 2)))) (gV 8)
noncomputable def q_law_4b_3 : MS := sAsg (eB2 vEq (eCall "_law_pull" (aC (eV 1) (aC (eC (.int 2)) (aN))) id) (eC (.int 0))) (gV 9)
noncomputable def q_law_4b_4 : MS := sAsg (eCallK "row" [.pos 0, .kw 1, .kw 0] [] 1 2 (aC (eV 6) (aN)) (aC (eV 9) (aC (eV 8) (aN)))) (gV 10)
noncomputable def q_law_4b_5 : MS := sIf (tNot (tVal (eCall "_law_like" (aC (eLst (aC (eV 10) (aC (eV 6) (aN)))) (aC (eLst (aC (eTup (aC (eCall "_law_total" (aC (eV 7) (aN)) id) (aC (eV 8) (aC (eV 9) (aN))))) (aC (eV 7) (aN)))) (aN))) id))) (sRet (eC (.bl false))) (sNil)
noncomputable def q_law_4b_6 : MS := sIf (tNot (tVal (eCall "_law_like" (aC (eCallK "row" [.pos 0, .pos 1, .dfl 0] [(.bl false)] 2 0 (aC (eV 6) (aC (eV 8) (aN))) (aN)) (aC (eTup (aC (eCall "_law_total" (aC (eV 7) (aN)) id) (aC (eV 8) (aC (eC (.bl false)) (aN))))) (aN))) id))) (sRet (eC (.bl false))) (sNil)
noncomputable def q_law_4b_7 : MS := sExp (eBM .lst mAppend (eV 4) (aC (eTup (aC (eV 10) (aC (eB2 vIdxD (eLst (aC (eC (.int 1)) (aC (eB1 vNeg (eC (.int 1))) (aC (eC (.int 2)) (aC (eC (.int 3)) (aC (eB1 vNeg (eC (.int 4))) (aC (eB2 vPow (eC (.int 10)) (eC (.int 6))) (aN)))))))) (eCall "_law_pull" (aC (eV 1) (aC (eC (.int 6)) (aN))) id)) (aN)))) (aN)))
noncomputable def q_law_4b : MS := sSeq q_law_4b_0 (sSeq q_law_4b_1 (sSeq q_law_4b_2 (sSeq q_law_4b_3 (sSeq q_law_4b_4 (sSeq q_law_4b_5 (sSeq q_law_4b_6 (q_law_4b_7)))))))
noncomputable def q_law_4 : MS := sFor (iRange1 (aC (eCall "_law_pull" (aC (eV 1) (aC (eC (.int 5)) (aN))) id) (aN))) (gV 5) q_law_4b
noncomputable def q_law_5 : MS := sAsg (eLst (aN)) (gV 6)
noncomputable def q_law_6b_0 : MS := sExp (eBM .lst mExtend (eV 6) (aC (eComp [17, 18] (iVal (eB2 vIdxD (eV 10) (eC (.int 0)))) (gTup [gV 17, gV 18]) (tYes) (eTup (aC (eV 17) (aC (eB2 vMul (eV 18) (eV 11)) (aN))))) (aN)))
noncomputable def q_law_6b : MS := q_law_6b_0
noncomputable def q_law_6 : MS := sFor (iVal (eV 4)) (gTup [gV 10, gV 11]) q_law_6b
noncomputable def q_law_7 : MS := sAsg (eBN bList (aC (eV 4) (aN))) (gV 7)
noncomputable def q_law_8 : MS := sAsg (eBN bSum (aC (eComp [10, 11] (iVal (eV 4)) (gTup [gV 10, gV 11]) (tYes) (eB2 vMul (eB2 vIdxD (eV 10) (eC (.int 1))) (eV 11))) (aN))) (gV 8)
noncomputable def q_law_9 : MS := sAsg (eTup (aC (eCall "_law_total" (aC (eV 6) (aN)) id) (aC (eV 8) (aC (eBN bAll (aC (eComp [10, 11] (iVal (eV 4)) (gTup [gV 10, gV 11]) (tYes) (eB2 vIdxD (eV 10) (eC (.int 2)))) (aN))) (aN))))) (gV 12)
noncomputable def q_law_10 : MS := sIf (tNot (tVal (eCall "_law_like" (aC (eLst (aC (eCall "summed" (aC (eV 4) (aN)) id) (aC (eV 4) (aN)))) (aC (eLst (aC (eV 12) (aC (eV 7) (aN)))) (aN))) id))) (sRet (eC (.bl false))) (sNil)
noncomputable def q_law_11b_0 : MS := sAsg (eB2 vAdd (eC (.int 1)) (eCall "_law_pull" (aC (eV 1) (aC (eC (.int 5)) (aN))) id)) (gV 14)
noncomputable def q_law_11b_1 : MS := sAsg (eTup (aC (eBN bTuple (aC (eComp [17, 18] (iVal (eB2 vIdxD (eV 12) (eC (.int 0)))) (gTup [gV 17, gV 18]) (tYes) (eTup (aC (eV 17) (aC (eB2 vMul (eV 18) (eV 14)) (aN))))) (aN))) (aC (eB2 vIdxD (eV 12) (eC (.int 1))) (aC (eB2 vIdxD (eV 12) (eC (.int 2))) (aN))))) (gV 15)
noncomputable def q_law_11b_2b_0 : MS := sIf (tNot (tVal (eCall "_law_like" (aC (eCall "divided" (aC (eV 10) (aC (eV 13) (aN))) id) (aC (eCall "_law_parted" (aC (eV 10) (aC (eV 13) (aN))) id) (aN))) id))) (sRet (eC (.bl false))) (sNil)
noncomputable def q_law_11b_2b : MS := q_law_11b_2b_0
noncomputable def q_law_11b_2 : MS := sFor (iVal (eLst (aC (eV 12) (aC (eV 15) (aN))))) (gV 10) q_law_11b_2b
noncomputable def q_law_11b : MS := sSeq q_law_11b_0 (sSeq q_law_11b_1 (q_law_11b_2))
noncomputable def q_law_11 : MS := sFor (iVal (eLst (aC (eB2 vSub (eCall "_law_pull" (aC (eV 1) (aC (eC (.int 8)) (aN))) id) (eC (.int 1))) (aC (eC (.int 2)) (aC (eC (.int 3)) (aN)))))) (gV 13) q_law_11b
noncomputable def q_law_12 : MS := sAsg (eCallK "row" [.pos 0, .pos 1, .dfl 0] [(.bl false)] 2 0 (aC (eLst (aC (eTup (aC (eC (.str "b")) (aC (eC (.int 1)) (aN)))) (aC (eTup (aC (eC (.str "ab")) (aC (eC (.int 1)) (aN)))) (aC (eTup (aC (eC (.str "a1")) (aC (eC (.int 1)) (aN)))) (aC (eTup (aC (eC (.str "a")) (aC (eC (.int 1)) (aN)))) (aN)))))) (aC (eC (.int 0)) (aN))) (aN)) (gV 16)
noncomputable def q_law_13 : MS := sRet (eCall "_law_like" (aC (eV 16) (aC (eTup (aC (eTup (aC (eTup (aC (eC (.str "a")) (aC (eC (.int 1)) (aN)))) (aC (eTup (aC (eC (.str "a1")) (aC (eC (.int 1)) (aN)))) (aC (eTup (aC (eC (.str "ab")) (aC (eC (.int 1)) (aN)))) (aC (eTup (aC (eC (.str "b")) (aC (eC (.int 1)) (aN)))) (aN)))))) (aC (eC (.int 0)) (aC (eC (.bl false)) (aN))))) (aN))) id)
noncomputable def q_law : MS := sSeq q_law_0 (sSeq q_law_1 (sSeq q_law_2 (sSeq q_law_3 (sSeq q_law_4 (sSeq q_law_5 (sSeq q_law_6 (sSeq q_law_7 (sSeq q_law_8 (sSeq q_law_9 (sSeq q_law_10 (sSeq q_law_11 (sSeq q_law_12 (q_law_13)))))))))))))
theorem q_law_eq : m_law = q_law := rfl

theorem hPull : Pr.defs "_law_pull" = some Sh.d__law_pull := pr__law_pull
theorem hBag : Pr.defs "_law_bag" = some Sh.d__law_bag := pr__law_bag
theorem hLike : Pr.defs "_law_like" = some Sh.d__law_like := pr__law_like
theorem hNames : Pr.defs "_law_names" = some Sh.d__law_names := pr__law_names
theorem hRow : Pr.defs "row" = some Sh.d_row := pr_row
theorem hTotal : Pr.defs "_law_total" = some Sh.d__law_total := pr__law_total
theorem hSummed : Pr.defs "summed" = some Sh.d_summed := pr_summed
theorem hDivided : Pr.defs "divided" = some Sh.d_divided := pr_divided
theorem hParted : Pr.defs "_law_parted" = some Sh.d__law_parted := pr__law_parted
/-- drawn pairs -/
theorem some_pairs_ok (k : Nat) {A : Mh} {b c n qn : Nat} {cells : List Int} {ss : List Str} {g : Int} (B : Bg A b c cells n) (hn : n + 20 < 2 ^ 60) (hq : A[qn]? = some (.lst (ss.map .str))) (hqb : qn ≠ b) (hss : ss.length = 4) (g0 : 0 < g) (g1 : g ≤ 10 ^ 21) :
    ∃ (q : Nat) (A' : Mh) (ps : List Pair), Pr.call (k + 2) "_law_some_pairs" [.ref b, .ref qn, .int g] A = .ok (.ref q) A' ∧ Ev b A A' ∧ Bg A' b c cells (n + 20) ∧ A.length ≤ q ∧ q ≠ b ∧ A'[q]? = some (.lst (ps.map pv)) ∧ ps.length ≤ 6 ∧ ∀ p ∈ ps, p.2.natAbs ≤ 10 ^ 21 := by
  rw [call_run pr__law_some_pairs (k + 1) _ _ rfl]
  have hbl := B.lt
  have gl : g.natAbs.log2 < 9000 := Nat.lt_trans (log2_lt (k := 199) (n := g.natAbs) (by omega)) (by decide)
  obtain ⟨v, o, e1, p1, p2, B1⟩ := pull hPull k (B.app [.lst []]) (sz := 7) (by decide) (by decide) (by omega)
  obtain ⟨m, rfl⟩ := Int.eq_ofNat_of_zero_le p1
  have ev1 : Ev b A ((A ++ [MO.lst []]).set b o) := (Ev.app b A _).trans (Ev.set b _ _)
  obtain ⟨ρ1, A2, ef, done, rest, ps, r1, r2, r3, r4, r5, r6, r7, o4, r8⟩ := forL_nx (still := fun _ => True) (turn := fTurn (gV 4) q__law_some_pairs_1b (Pr.ctx (k + 1)))
    (fun xs ρ H => ∃ (done rest : List Nat) (ps : List Pair), xs = rest.map (fun k : Nat => MV.int (0 + (k : Int))) ∧ List.range m = done ++ rest ∧ Ev b A H ∧ Bg H b c cells (n + 1 + 2 * done.length) ∧ H[A.length]? = some (.lst (ps.map pv)) ∧ ps.length = done.length ∧ (∀ p ∈ ps, p.2.natAbs ≤ 10 ^ 21) ∧ ∃ o4, ρ = [some (.ref b), some (.ref qn), some (.int g), some (.ref A.length), o4])
    (fun _ _ _ _ => trivial)
    (fun x xs ρ H ⟨done, rest, ps, e1, e2, ev, hB, hH, hl, hp, o4, e4⟩ => by
      cases rest with
      | nil => cases e1
      | cons i rest =>
        rw [List.map_cons] at e1
        injection e1 with e5 e6
        subst e5 e6 e4
        obtain ⟨rfl, _, hi⟩ := range_mid e2
        have hi7 : done.length < 7 := by omega
        have hqn : H[qn]? = some (.lst (ss.map .str)) := ev.at hq hqb
        obtain ⟨v1, o1, f1, a1, a2, B1⟩ := pull hPull k hB (sz := 4) (by decide) (by decide) (by omega)
        obtain ⟨v2, o2, f2, a3, a4, B2⟩ := pull hPull k B1 (sz := g) g0 gl (by omega)
        obtain ⟨j, hj, rfl, ej⟩ := atI_get (xs := ss.map MV.str) a1 (by simp [hss]; omega)
        have hqn1 : (H.set b o1)[qn]? = some (.lst (ss.map .str)) := by rw [List.getElem?_set_ne (Ne.symm hqb)]; exact hqn
        have hH2 : ((H.set b o1).set b o2)[A.length]? = some (.lst (ps.map pv)) := by
          rw [List.getElem?_set_ne (by omega), List.getElem?_set_ne (by omega)]; exact hH
        have ev2 : Ev b A ((H.set b o1).set b o2) := (ev.trans (Ev.set b _ _)).trans (Ev.set b _ _)
        have hpl : ps.length < 1000000 := by omega
        have hcl : c ≠ A.length := by omega
        refine ⟨[some (.ref b), some (.ref qn), some (.int g), some (.ref A.length), some (.int (done.length : Int))], ((H.set b o1).set b o2).set A.length (.lst ((ps ++ [((ss[j]'(by simpa using hj)), v2 - g / 2)]).map pv)), .inl ?_, done ++ [done.length], rest, ps ++ [((ss[j]'(by simpa using hj)), v2 - g / 2)], rfl, by rw [e2]; simp, ev2.new (Nat.le_refl _) _, ?_, ?_, by simp [hl], ?_, _, rfl⟩
        · have h0 : (0 : Int) + (done.length : Int) = (done.length : Int) := by omega
          rw [h0]
          have hlen : ∀ G : Mh, G[qn]? = some (.lst (ss.map .str)) → bLen [.ref qn] G = some (.int 4, G) := fun G h => by simp [h, hss]
          show (gV 4 _ _ _ _).bind _ = _
          simp only [gV_ap, RS.bind_nx, List.set_cons_succ, List.set_cons_zero, q__law_some_pairs_1b, q__law_some_pairs_1b_0, sExp_ap, kExp_ap, eBM_ap, kBM_ap, kBMr_ap, aC_ap, kC_ap, kCr_ap, aN_ap, eTup_ap, kTup_ap, eB2_ap, kB2_ap, kB2r_ap, eCall_ap, kCall_ap, eV_ap, eC_ap, List.getElem?_cons_succ, List.getElem?_cons_zero, R.bind_ok, tyOf_r, hH, if_pos, eBN_ap, kBN_ap, hlen _ hqn, R.of_some, ctx_call, id]
          simp only [f1, R.bind_ok, vIdxD_r, hqn1, ej, Option.map_some, R.of_some, List.getElem_map, f2, vDiv_i _ _ 2 (by decide) (by decide), vSub_i]
          have hH3 : (H.set b o2)[A.length]? = some (.lst (ps.map pv)) := by rw [List.getElem?_set_ne (by omega)]; exact hH
          have f2' := f2
          simp [hH3, hpl, pv, hqn1, ej, f2, vDiv_i _ _ 2 (by decide) (by decide)]
        · refine (B2.set _ (by omega) (by omega)).mono ?_
          simp
          omega
        · exact List.getElem?_set_self (lt_len hH2)
        · intro p hp'
          rcases List.mem_append.mp hp' with h | h
          · exact hp p h
          · have : p = ((ss[j]'(by simpa using hj)), v2 - g / 2) := by simpa using h
            subst this
            show (v2 - g / 2).natAbs ≤ _
            omega)
    (intsV 0 m) [some (.ref b), some (.ref qn), some (.int g), some (.ref A.length), none] ((A ++ [MO.lst []]).set b o) ⟨[], List.range m, [], rfl, rfl, ev1, B1, by rw [List.getElem?_set_ne (by omega)]; simp, rfl, by simp, _, rfl⟩
  have hr : rest = [] := by cases rest with
    | nil => rfl
    | cons a b => cases r1
  subst hr
  rw [List.append_nil] at r2
  have hdm : done.length = m := by rw [← r2]; simp
  have hm7 : m < 7 := by omega
  subst r8
  refine ⟨A.length, A2, ps, ?_, r3, r4.mono (by omega), Nat.le_refl _, by omega, r5, by omega, r7⟩
  have hir : iRange1 (aC (eCall "_law_pull" (aC (eV 0) (aC (eC (.int 7)) (aN))) id) (aN)) (Pr.ctx (k + 1)) [some (.ref b), some (.ref qn), some (.int g), some (.ref A.length), none] (A ++ [.lst []]) = .ok ⟨intsV 0 m, fun _ => True⟩ ((A ++ [MO.lst []]).set b o) :=
    iRange1_ok (j := (m : Int)) (by simp [e1]) (by omega) (by omega)
  show (m__law_some_pairs _ _ _).fin = _
  rw [q__law_some_pairs_eq]
  simp [q__law_some_pairs, q__law_some_pairs_0, q__law_some_pairs_1, q__law_some_pairs_2, d__law_some_pairs, hir, ef]
theorem lst_ps {H : Mh} {q : Nat} {ps : List Pair} (h : H[q]? = some (.lst (ps.map pv))) : (Tr.lst (ps.map trP)).Is H (.ref q) := Tr.is_lst h (Tr.all_map ps fun p _ => trP_is p)
theorem lst_ps_dep (ps : List Pair) : (Tr.lst (ps.map trP)).dep ≤ 3 := by
  have := Tr.deps_map (f := trP) (d := 2) ps fun p _ => trP_dep p
  simp only [Tr.dep]
  omega
theorem lst_ps_few (ps : List Pair) (h : ps.length < 50000) : (Tr.lst (ps.map trP)).Few := by
  unfold Tr.Few
  exact ⟨by simpa using h, Tr.fews_map ps fun p _ => trP_few p⟩
theorem chk1 (k : Nat) {ρ : MM.Env} {H : Mh} {q6 q7 : Nat} {ps : List Pair} {cap : Int} {flat : Bool} (h10 : ρ[10]? = some (some (rowV (tot ps, cap, flat)))) (h6 : ρ[6]? = some (some (.ref q6))) (h7 : ρ[7]? = some (some (.ref q7))) (h8 : ρ[8]? = some (some (.int cap))) (h9 : ρ[9]? = some (some (.bl flat)))
    (g6 : H[q6]? = some (.lst (ps.map pv))) (g7 : H[q7]? = some (.lst (ps.map pv))) (hl : ps.length < 64) : ∃ Y, q_law_4b_5 (Pr.ctx (k + 10)) ρ H = .nx ρ (H ++ Y) := by
  obtain ⟨X, e1⟩ := total_ok hTotal (k + 9) (A := H ++ [.lst [rowV (tot ps, cap, flat), .ref q6]]) (p := q7) (ps := ps) (app_lst H _ q7 _ g7) hl
  have htl := tot_len ps
  have i1 : (Tr.lst [trR (tot ps, cap, flat), .lst (ps.map trP)]).Is (H ++ [.lst [rowV (tot ps, cap, flat), .ref q6]] ++ X ++ [.lst [rowV (tot ps, cap, flat), .ref q7]]) (.ref H.length) := by
    refine Tr.is_lst (vs := [rowV (tot ps, cap, flat), .ref q6]) (by simp) (Tr.all_cons (trR_is _) (Tr.all_cons (lst_ps ?_) Tr.all_nil))
    simp only [List.append_assoc]
    exact app_lst H _ q6 _ g6
  have i2 : (Tr.lst [trR (tot ps, cap, flat), .lst (ps.map trP)]).Is (H ++ [.lst [rowV (tot ps, cap, flat), .ref q6]] ++ X ++ [.lst [rowV (tot ps, cap, flat), .ref q7]]) (.ref (H ++ [MO.lst [rowV (tot ps, cap, flat), .ref q6]] ++ X).length) := by
    refine Tr.is_lst (vs := [rowV (tot ps, cap, flat), .ref q7]) (by simp) (Tr.all_cons (trR_is _) (Tr.all_cons (lst_ps ?_) Tr.all_nil))
    simp only [List.append_assoc]
    exact app_lst H _ q7 _ g7
  obtain ⟨Y, e2⟩ := like hLike (k + 10) _ _ _ _ (by
    have a1 := trR_dep (tot ps, cap, flat)
    have a2 := lst_ps_dep ps
    simp only [Tr.dep, Tr.deps] at a1 a2 ⊢
    omega) (by
    have a1 := trR_few (tot ps, cap, flat) (by show (tot ps).length < 50000; omega)
    have a2 := lst_ps_few ps (by omega)
    unfold Tr.Few
    refine ⟨by simp, ?_⟩
    unfold Tr.Fews Tr.Fews Tr.Fews
    exact ⟨a1, a2, trivial⟩) i1 i2
  refine ⟨[.lst [rowV (tot ps, cap, flat), .ref q6]] ++ X ++ [.lst [rowV (tot ps, cap, flat), .ref q7]] ++ Y, ?_⟩
  simp [rowV] at e1 e2
  simp only [q_law_4b_5, sIf_ap, tNot_ap, kNot_ap, tVal_ap, kVal_ap, eCall_ap, kCall_ap, aC_ap, kC_ap, kCr_ap, aN_ap, eLst_ap, kLst_ap, eTup_ap, kTup_ap, eV_ap, h10, h6, h7, h8, h9, R.bind_ok, ctx_call, id, List.length_cons, List.length_nil]
  simp [e1, e2, rowV, h6, h7, h8, h9, h10]
theorem chk2 (k : Nat) {ρ : MM.Env} {H : Mh} {q6 q7 : Nat} {ps : List Pair} {cap : Int} (h6 : ρ[6]? = some (some (.ref q6))) (h7 : ρ[7]? = some (some (.ref q7))) (h8 : ρ[8]? = some (some (.int cap)))
    (g6 : H[q6]? = some (.lst (ps.map pv))) (g7 : H[q7]? = some (.lst (ps.map pv))) (hl : ps.length < 64) : ∃ Y, q_law_4b_6 (Pr.ctx (k + 10)) ρ H = .nx ρ (H ++ Y) := by
  obtain ⟨X, e1⟩ := row_ok hRow (k + 9) (A := H) (p := q6) (ps := ps) (bd := .int cap) (eq := .bl false) g6 hl
  obtain ⟨Z, e2⟩ := total_ok hTotal (k + 9) (A := H ++ X) (p := q7) (ps := ps) (app_lst H _ q7 _ g7) hl
  have htl := tot_len ps
  obtain ⟨Y, e3⟩ := like hLike (k + 10) (trR (tot ps, cap, false)) (H ++ X ++ Z) (rowV (tot ps, cap, false)) (rowV (tot ps, cap, false)) (Nat.le_trans (trR_dep _) (by omega)) (trR_few _ (by show (tot ps).length < 50000; omega)) (trR_is _) (trR_is _)
  refine ⟨X ++ Z ++ Y, ?_⟩
  simp [rowV] at e1 e2 e3
  simp only [q_law_4b_6, sIf_ap, tNot_ap, kNot_ap, tVal_ap, kVal_ap, eCall_ap, kCall_ap, eCallK_ap, kCallK_ap, kCallKr_ap, aC_ap, kC_ap, kCr_ap, aN_ap, eLst_ap, kLst_ap, eTup_ap, kTup_ap, eV_ap, eC_ap, h6, h7, h8, R.bind_ok, ctx_call, id, List.length_cons, List.length_nil, pick, List.map_cons, List.map_nil, List.getD_cons_zero, List.getD_cons_succ]
  simp [e1, e2, e3, rowV, h6, h7, h8]
structure RwB (r : Row × Int) : Prop where
  len : r.1.1.length ≤ 6
  prs : ∀ p ∈ r.1.1, p.2.natAbs ≤ 2 ^ 80
  top : r.1.2.1.natAbs < 2 ^ 200
  wgt : r.2.natAbs ≤ 2 ^ 20
theorem RwB.ok {r : Row × Int} (h : RwB r) : RwOk r := ⟨Nat.le_trans h.len (by decide), fun p hp => Nat.lt_of_le_of_lt (h.prs p hp) (by decide), h.top, Nat.lt_of_le_of_lt h.wgt (by decide)⟩
/-- one turn of the first loop -/
theorem turn4 (k : Nat) {H : Mh} {ρ : MM.Env} {x : MV} {b c n qn qr : Nat} {cells : List Int} {ss : List Str} {g : Int} {rs : List (Row × Int)} (B : Bg H b c cells n) (hn : n + 40 < 2 ^ 60) (hqn : H[qn]? = some (.lst (ss.map .str))) (nb : qn ≠ b) (hss : ss.length = 4) (g0 : 0 < g) (g1 : g ≤ 10 ^ 21)
    (hqr : H[qr]? = some (.lst (rs.map rwV))) (rb : qr ≠ b) (rc : qr ≠ c) (rn : qr ≠ qn) (hrl : rs.length < 7) (hl : ρ.length = 19) (h1 : ρ[1]? = some (some (.ref b))) (h2 : ρ[2]? = some (some (.ref qn))) (h3 : ρ[3]? = some (some (.int g))) (h4 : ρ[4]? = some (some (.ref qr))) :
    ∃ ρ' H' r, fTurn (gV 5) q_law_4b (Pr.ctx (k + 10)) x ρ H = .nx ρ' H' ∧ Bg H' b c cells (n + 40) ∧ H'[qn]? = some (.lst (ss.map .str)) ∧ H'[qr]? = some (.lst ((rs ++ [r]).map rwV)) ∧ RwB r ∧ ρ'.length = 19 ∧ ρ'[1]? = some (some (.ref b)) ∧ ρ'[2]? = some (some (.ref qn)) ∧ ρ'[3]? = some (some (.int g)) ∧ ρ'[4]? = some (some (.ref qr)) ∧ ρ'[0]? = ρ[0]? := by
  have gl : g.natAbs.log2 < 9000 := Nat.lt_trans (log2_lt (k := 199) (n := g.natAbs) (by omega)) (by decide)
  obtain ⟨q6, H1, ps, e0, ev0, B1, q6l, q6b, hq6, hpl, hpb⟩ := some_pairs_ok (k + 8) B (by omega) hqn nb hss g0 g1
  have l0 := B.lt
  have l1 := B1.lt
  have lq6 := lt_len hq6
  obtain ⟨v, o, e2, v0, v1, B2⟩ := pull hPull (k + 9) (B1.app [.lst (ps.map pv)]) (sz := g) g0 gl (by omega)
  obtain ⟨u, o', e3, u0, u1, B3⟩ := pull hPull (k + 9) B2 (sz := 2) (by decide) (by decide) (by omega)
  have ev3 : Ev b H1 (((H1 ++ [MO.lst (ps.map pv)]).set b o).set b o') := ((Ev.app b _ _).trans (Ev.set b _ _)).trans (Ev.set b _ _)
  have hq7 : (((H1 ++ [MO.lst (ps.map pv)]).set b o).set b o')[H1.length]? = some (.lst (ps.map pv)) := by
    rw [List.getElem?_set_ne (by omega), List.getElem?_set_ne (by omega)]; simp
  have hq6' := ev3.at hq6 q6b
  have hqn' := ev3.at (ev0.at hqn nb) nb
  have hqr' := ev3.at (ev0.at hqr rb) rb
  generalize hH3 : ((H1 ++ [MO.lst (ps.map pv)]).set b o).set b o' = H3 at *
  have hcap : (v - g / 2).natAbs < 2 ^ 200 := by omega
  generalize hcp : v - g / 2 = cap at *
  generalize hfl : decide (u = 0) = flat at *
  obtain ⟨X4, e4⟩ := row_ok hRow (k + 9) (A := H3) (p := q6) (ps := ps) (bd := .int cap) (eq := .bl flat) hq6' (by omega)
  obtain ⟨ρa, hρa⟩ : ∃ ρa, ρ.set 5 (some x) = ρa := ⟨_, rfl⟩
  obtain ⟨ρf, hρf⟩ : ∃ ρf, ((((ρa.set 6 (some (.ref q6))).set 7 (some (.ref H1.length))).set 8 (some (.int cap))).set 9 (some (.bl flat))).set 10 (some (rowV (tot ps, cap, flat))) = ρf := ⟨_, rfl⟩
  have la : ρa.length = 19 := by rw [← hρa]; simpa using hl
  have a1 : ρa[1]? = some (some (.ref b)) := by rw [← hρa, List.getElem?_set_ne (by decide)]; exact h1
  have a2 : ρa[2]? = some (some (.ref qn)) := by rw [← hρa, List.getElem?_set_ne (by decide)]; exact h2
  have a3 : ρa[3]? = some (some (.int g)) := by rw [← hρa, List.getElem?_set_ne (by decide)]; exact h3
  have a4 : ρa[4]? = some (some (.ref qr)) := by rw [← hρa, List.getElem?_set_ne (by decide)]; exact h4
  have lf : ρf.length = 19 := by rw [← hρf]; simpa using la
  have f1 : ρf[1]? = some (some (.ref b)) := by rw [← hρf]; simp [List.getElem?_set, a1]
  have f2 : ρf[2]? = some (some (.ref qn)) := by rw [← hρf]; simp [List.getElem?_set, a2]
  have f3 : ρf[3]? = some (some (.int g)) := by rw [← hρf]; simp [List.getElem?_set, a3]
  have f4 : ρf[4]? = some (some (.ref qr)) := by rw [← hρf]; simp [List.getElem?_set, a4]
  have f6 : ρf[6]? = some (some (.ref q6)) := by rw [← hρf]; simp [List.getElem?_set, la]
  have f7 : ρf[7]? = some (some (.ref H1.length)) := by rw [← hρf]; simp [List.getElem?_set, la]
  have f8 : ρf[8]? = some (some (.int cap)) := by rw [← hρf]; simp [List.getElem?_set, la]
  have f9 : ρf[9]? = some (some (.bl flat)) := by rw [← hρf]; simp [List.getElem?_set, la]
  have f10 : ρf[10]? = some (some (rowV (tot ps, cap, flat))) := by rw [← hρf]; simp [List.getElem?_set, la]
  obtain ⟨Y5, e5⟩ := chk1 k (H := H3 ++ X4) f10 f6 f7 f8 f9 (app_lst H3 X4 q6 _ hq6') (app_lst H3 X4 _ _ hq7) (by omega)
  obtain ⟨Y6, e6⟩ := chk2 k (H := H3 ++ X4 ++ Y5) f6 f7 f8 (by rw [List.append_assoc]; exact app_lst H3 _ q6 _ hq6') (by rw [List.append_assoc]; exact app_lst H3 _ _ _ hq7) (by omega)
  obtain ⟨H6, hH6⟩ : ∃ H6, H3 ++ X4 ++ Y5 ++ Y6 = H6 := ⟨_, rfl⟩
  have ev6 : Ev b H3 H6 := by rw [← hH6, List.append_assoc, List.append_assoc]; exact Ev.app b _ _
  have B6 : Bg H6 b c cells (n + 22) := by rw [← hH6]; exact ((B3.app _).app _).app _
  obtain ⟨ws, hws⟩ : ∃ ws : List Int, [1, -1, 2, 3, -4, 1000000] = ws := ⟨_, rfl⟩
  obtain ⟨z, o6, e7, z0, z1, B7⟩ := pull hPull (k + 9) (B6.app [.lst (ws.map .int)]) (sz := 6) (by decide) (by decide) (by omega)
  have hwl : ws.length = 6 := by rw [← hws]; rfl
  obtain ⟨j, hj, rfl, ej⟩ := atI_get (xs := ws.map MV.int) z0 (by simpa [hwl] using z1)
  have hjw : j < ws.length := by simpa using hj
  have hwb : (ws[j]'hjw).natAbs ≤ 2 ^ 20 := by
    have h : ∀ w ∈ ws, w.natAbs ≤ 2 ^ 20 := by rw [← hws]; decide
    exact h _ (List.getElem_mem _)
  have ejw : L2.atI (ws.map MV.int) (j : Int) = some (.int (ws[j]'hjw)) := by rw [ej, List.getElem_map]
  generalize (ws[j]'hjw) = wt at *
  have l6 := B6.lt
  have lr := lt_len hqr'
  have l36 := ev6.len
  have hwq : ((H6 ++ [MO.lst (ws.map .int)]).set b o6)[H6.length]? = some (.lst (ws.map .int)) := by
    rw [List.getElem?_set_ne (by omega)]; simp
  have hq8 : ((H6 ++ [MO.lst (ws.map .int)]).set b o6)[qr]? = some (.lst (rs.map rwV)) := by
    rw [List.getElem?_set_ne (Ne.symm rb)]
    exact app_lst H6 _ _ _ (ev6.at hqr' rb)
  have hn8 : ((H6 ++ [MO.lst (ws.map .int)]).set b o6)[qn]? = some (.lst (ss.map .str)) := by
    rw [List.getElem?_set_ne (Ne.symm nb)]
    exact app_lst H6 _ _ _ (ev6.at hqn' nb)
  have htl := tot_len ps
  refine ⟨ρf, ((H6 ++ [MO.lst (ws.map .int)]).set b o6).set qr (.lst ((rs ++ [((tot ps, cap, flat), wt)]).map rwV)), ((tot ps, cap, flat), wt), ?_, (B7.set _ rb rc).mono (by omega), ?_, List.getElem?_set_self (lt_len hq8), ⟨?_, ?_, hcap, hwb⟩, lf, f1, f2, f3, f4, ?_⟩
  · have e0' : Pr.call (k + 10) "_law_some_pairs" [.ref b, .ref qn, .int g] H = .ok (.ref q6) H1 := e0
    have e2' : Pr.call (k + 10) "_law_pull" [.ref b, .int g] (H1 ++ [MO.lst (ps.map pv)]) = .ok (.int v) ((H1 ++ [MO.lst (ps.map pv)]).set b o) := e2
    have e3' : Pr.call (k + 10) "_law_pull" [.ref b, .int 2] ((H1 ++ [MO.lst (ps.map pv)]).set b o) = .ok (.int u) H3 := e3
    have e4' : Pr.call (k + 10) "row" [.ref q6, .int cap, .bl flat] H3 = .ok (rowV (tot ps, cap, flat)) (H3 ++ X4) := e4
    have e7' : Pr.call (k + 10) "_law_pull" [.ref b, .int 6] (H6 ++ [MO.lst (ws.map .int)]) = .ok (.int (j : Int)) ((H6 ++ [MO.lst (ws.map .int)]).set b o6) := e7
    have hpl2 : ps.length ≤ 1000000 := by omega
    have hrl2 : rs.length < 1000000 := by omega
    have st0 : q_law_4b_0 (Pr.ctx (k + 10)) ρa H = .nx (ρa.set 6 (some (.ref q6))) H1 := by simp [q_law_4b_0, a1, a2, a3, e0']
    have st1 : q_law_4b_1 (Pr.ctx (k + 10)) (ρa.set 6 (some (.ref q6))) H1 = .nx ((ρa.set 6 (some (.ref q6))).set 7 (some (.ref H1.length))) (H1 ++ [MO.lst (ps.map pv)]) := by
      simp [q_law_4b_1, List.getElem?_set, la, hq6, newL, hpl2]
    have st2 : q_law_4b_2 (Pr.ctx (k + 10)) ((ρa.set 6 (some (.ref q6))).set 7 (some (.ref H1.length))) (H1 ++ [MO.lst (ps.map pv)]) = .nx (((ρa.set 6 (some (.ref q6))).set 7 (some (.ref H1.length))).set 8 (some (.int cap))) ((H1 ++ [MO.lst (ps.map pv)]).set b o) := by
      rw [← hcp]
      simp [q_law_4b_2, List.getElem?_set, a1, a3, e2', vDiv_i _ _ 2 (by decide) (by decide)]
    have st3 : q_law_4b_3 (Pr.ctx (k + 10)) (((ρa.set 6 (some (.ref q6))).set 7 (some (.ref H1.length))).set 8 (some (.int cap))) ((H1 ++ [MO.lst (ps.map pv)]).set b o) = .nx ((((ρa.set 6 (some (.ref q6))).set 7 (some (.ref H1.length))).set 8 (some (.int cap))).set 9 (some (.bl flat))) H3 := by
      rw [← hfl]
      simp [q_law_4b_3, List.getElem?_set, a1, e3']
    have st4 : q_law_4b_4 (Pr.ctx (k + 10)) ((((ρa.set 6 (some (.ref q6))).set 7 (some (.ref H1.length))).set 8 (some (.int cap))).set 9 (some (.bl flat))) H3 = .nx ρf (H3 ++ X4) := by
      rw [← hρf]
      simp [q_law_4b_4, List.getElem?_set, la, pick, e4']
    have st7 : q_law_4b_7 (Pr.ctx (k + 10)) ρf H6 = .nx ρf (((H6 ++ [MO.lst (ws.map .int)]).set b o6).set qr (.lst ((rs ++ [((tot ps, cap, flat), wt)]).map rwV))) := by
      have hq6r : H6[qr]? = some (.lst (rs.map rwV)) := ev6.at hqr' rb
      have hw : (MO.lst [.int 1, .int (-1), .int 2, .int 3, .int (-4), .int 1000000]) = MO.lst (ws.map .int) := by rw [← hws]; rfl
      have h10 : (10 : Int) ^ (6 : Int).toNat = 1000000 := by decide
      simp only [q_law_4b_7, sExp_ap, kExp_ap, eBM_ap, kBM_ap, kBMr_ap, aC_ap, kC_ap, kCr_ap, aN_ap, eTup_ap, kTup_ap, eB2_ap, kB2_ap, kB2r_ap, eB1_ap, kB1_ap, eLst_ap, kLst_ap, eCall_ap, kCall_ap, eV_ap, eC_ap, f4, f10, f1, R.bind_ok, tyOf_r, hq6r, if_pos, vNeg_i, R.of_some, vPow_i _ 10 6 (by omega), ctx_call, id,
        List.length_cons, List.length_nil, Nat.reduceAdd, Nat.reduceLeDiff, h10, hw, e7', vIdxD_r, hwq, ejw, Option.map_some, mAppend_r, hq8, List.length_map, hrl2, R.bindS_ok]
      simp [rwV]
    simp only [fTurn_ap, gV_ap, RS.bind_nx, hρa, q_law_4b, sSeq_ap, st0, st1, st2, st3, st4, e5, e6, hH6, st7]
  · rw [List.getElem?_set_ne rn]; exact hn8
  · show (tot ps).length ≤ 6
    omega
  · intro p hp
    have := tot_bound (M := 10 ^ 21) ps hpb p hp
    have h2 : ps.length * 10 ^ 21 ≤ 6 * 10 ^ 21 := Nat.mul_le_mul_right _ hpl
    omega
  · rw [← hρf, ← hρa]; simp [List.getElem?_set]
end Law_k10

namespace Law_k10
open PySem MM
/-- pairs = []; for one, weight in rows: pairs.extend(..) -/
theorem st6 (k : Nat) {H : Mh} {qr : Nat} {rs : List (Row × Int)} (hqr : H[qr]? = some (.lst (rs.map rwV))) (hl : rs.length ≤ 7) (hr : ∀ r ∈ rs, RwOk r) {x0 x1 x2 x3 x4 x5 x6 x7 x8 x9 x10 x11 x12 x13 x14 x15 x16 x17 x18 : Option MV} :
    ∃ u v Z, q_law_6 (Pr.ctx (k + 10)) [x0, x1, x2, x3, some (.ref qr), x5, some (.ref H.length), x7, x8, x9, x10, x11, x12, x13, x14, x15, x16, x17, x18] (H ++ [.lst []]) = .nx [x0, x1, x2, x3, some (.ref qr), x5, some (.ref H.length), x7, x8, x9, u, v, x12, x13, x14, x15, x16, x17, x18] (H ++ .lst ((scls rs).map pv) :: Z) := by
  have hpa : ∀ X : Mh, (H ++ X)[qr]? = some (.lst (rs.map rwV)) := fun X => app_lst H X qr _ hqr
  obtain ⟨ρ1, A1, e1, done, rest, Z, r1, r2, r3, u, v, r4⟩ := forL_nx (still := fun A2 => A2[qr]? = some (.lst (rs.map rwV))) (turn := fTurn (gTup [gV 10, gV 11]) q_law_6b (Pr.ctx (k + 10)))
    (fun xs ρ G => ∃ done rest Z, xs = rest.map rwV ∧ rs = done ++ rest ∧ G = H ++ .lst ((scls done).map pv) :: Z ∧ ∃ u v, ρ = [x0, x1, x2, x3, some (.ref qr), x5, some (.ref H.length), x7, x8, x9, u, v, x12, x13, x14, x15, x16, x17, x18])
    (fun xs ρ G ⟨done, rest, Z, _, _, e, _⟩ => by subst e; exact hpa _)
    (fun x xs ρ G ⟨done, rest, Z, e1, e2, e3, u, v, e4⟩ => by
      cases rest with
      | nil => cases e1
      | cons m rest =>
        rw [List.map_cons] at e1
        injection e1 with e5 e6
        subst e5 e6 e3 e4
        have hm : RwOk m := hr m (by rw [e2]; simp)
        obtain ⟨⟨qs, tp, eq⟩, w⟩ := m
        have hq : ∀ p ∈ qs, p.2.natAbs < 2 ^ 200 := hm.prs
        have hw : w.natAbs < 2 ^ 200 := hm.wgt
        have hl8 : qs.length ≤ 8 := hm.len
        obtain ⟨Y, ec⟩ := eComp_new (own := [17, 18]) (g := gTup [gV 17, gV 18]) (t := tYes) (e := eTup (aC (eV 17) (aC (eB2 vMul (eV 18) (eV 11)) (aN)))) (it := iVal (eB2 vIdxD (eV 10) (eC (.int 0)))) (c := Pr.ctx (k + 10)) (ρ := [x0, x1, x2, x3, some (.ref qr), x5, some (.ref H.length), x7, x8, x9, some (rowV (qs, tp, eq)), some (.int w), x12, x13, x14, x15, x16, x17, x18])
          (A := H ++ .lst ((scls done).map pv) :: Z) (A1 := H ++ .lst ((scls done).map pv) :: Z) (w := ⟨qs.map pv, fun _ => True⟩) (by simp [iVal, rowV]) (fun x => match x with
            | .tup [.str n, .int i] => some (pv (n, i * w))
            | _ => none) (fun _ => trivial) (by simp; omega) (fun x hx Y => by
              obtain ⟨n, hn, rfl⟩ := List.mem_map.mp hx
              exact ⟨[], by simp [cTurn, wipeE, pv, vMul_i _ _ _ (mul_room (hq n hn) hw)]⟩)
        rw [show (⟨qs.map pv, fun _ => True⟩ : Walk).items = qs.map pv from rfl, fm_map pv (fun p => pv (p.1, p.2 * w)) _ (fun p => rfl)] at ec
        have hdl : (scls done).length ≤ 63 := by
          have h1 : (scls done).length ≤ done.length * 8 := scls_len done 8 fun r h => (hr r (by rw [e2]; simp [h])).len
          have h2 : done.length ≤ rs.length := by rw [e2]; simp
          omega
        have hl2 : (scls done).length + qs.length ≤ 1000000 := by omega
        refine ⟨[x0, x1, x2, x3, some (.ref qr), x5, some (.ref H.length), x7, x8, x9, some (rowV (qs, tp, eq)), some (.int w), x12, x13, x14, x15, x16, x17, x18], H ++ .lst ((scls done).map pv ++ qs.map fun p => pv (p.1, p.2 * w)) :: (Z ++ .lst (qs.map fun p => pv (p.1, p.2 * w)) :: Y), .inl ?_, done ++ [((qs, tp, eq), w)], rest, Z ++ .lst (qs.map fun p => pv (p.1, p.2 * w)) :: Y, rfl, by rw [e2]; simp, ?_, _, _, rfl⟩
        · simp [rwV, q_law_6b, q_law_6b_0, ec, hl2]
        · rw [scls_snoc]
          simp [scl])
    (rs.map rwV) [x0, x1, x2, x3, some (.ref qr), x5, some (.ref H.length), x7, x8, x9, x10, x11, x12, x13, x14, x15, x16, x17, x18] (H ++ [.lst []]) ⟨[], rs, [], rfl, rfl, rfl, _, _, rfl⟩
  have hr0 : rest = [] := by cases rest with
    | nil => rfl
    | cons a b => cases r1
  subst hr0
  rw [List.append_nil] at r2
  subst r2 r3 r4
  refine ⟨u, v, Z, ?_⟩
  simp [q_law_6, iVal, hpa, e1]
/-- cap, due -/
theorem st8 (k : Nat) {H : Mh} {qr : Nat} {rs : List (Row × Int)} (hqr : H[qr]? = some (.lst (rs.map rwV))) (hl : rs.length ≤ 7) (hr : ∀ r ∈ rs, RwOk r) {x0 x1 x2 x3 x4 x5 x6 x7 x8 x9 x10 x11 x12 x13 x14 x15 x16 x17 x18 : Option MV} :
    ∃ Z, q_law_8 (Pr.ctx (k + 10)) [x0, x1, x2, x3, some (.ref qr), x5, x6, x7, x8, x9, x10, x11, x12, x13, x14, x15, x16, x17, x18] H = .nx [x0, x1, x2, x3, some (.ref qr), x5, x6, x7, some (.int (bnd rs)), x9, x10, x11, x12, x13, x14, x15, x16, x17, x18] (H ++ Z) := by
  obtain ⟨Y, ec⟩ := eComp_new (own := [10, 11]) (g := gTup [gV 10, gV 11]) (t := tYes) (e := eB2 vMul (eB2 vIdxD (eV 10) (eC (.int 1))) (eV 11)) (it := iVal (eV 4)) (c := Pr.ctx (k + 10)) (ρ := [x0, x1, x2, x3, some (.ref qr), x5, x6, x7, x8, x9, x10, x11, x12, x13, x14, x15, x16, x17, x18])
    (A := H) (A1 := H) (w := ⟨rs.map rwV, fun A2 => A2[qr]? = some (.lst (rs.map rwV))⟩) (by simp [iVal, hqr]) (fun x => match x with
      | .tup [.tup [_, .int t, _], .int w] => some (MV.int (t * w))
      | _ => none) (fun Y => app_lst H Y qr _ hqr) (by simp; omega) (fun x hx Y => by
        obtain ⟨n, hn, rfl⟩ := List.mem_map.mp hx
        exact ⟨[], by simp [cTurn, wipeE, rwV, rowV, vMul_i _ _ _ (mul_room (hr n hn).top (hr n hn).wgt)]⟩)
  rw [show (⟨rs.map rwV, fun A2 => A2[qr]? = some (.lst (rs.map rwV))⟩ : Walk).items = rs.map rwV from rfl, fm_map rwV (fun r => .int (r.1.2.1 * r.2)) _ (fun p => rfl)] at ec
  have hs : ∀ rs : List (Row × Int), (rs.map fun r => r.1.2.1 * r.2).sum = bnd rs := by
    intro rs
    induction rs with
    | nil => rfl
    | cons r rs ih => rw [List.map_cons, List.sum_cons, ih]; rfl
  have hb : bSum [.ref H.length] (H ++ .lst (rs.map fun r => MV.int (r.1.2.1 * r.2)) :: Y) = some (.int (bnd rs), H ++ .lst (rs.map fun r => MV.int (r.1.2.1 * r.2)) :: Y) := by
    rw [bSum_l (is := rs.map fun r => r.1.2.1 * r.2) (by simp), hs]
  exact ⟨.lst (rs.map fun r => MV.int (r.1.2.1 * r.2)) :: Y, by simp [q_law_8, ec, hb]⟩
theorem st9 (k : Nat) {H : Mh} {qr q6 : Nat} {rs : List (Row × Int)} {ps : List Pair} {cap : Int} (hqr : H[qr]? = some (.lst (rs.map rwV))) (hq6 : H[q6]? = some (.lst (ps.map pv))) (hps : ps.length < 64) (hl : rs.length ≤ 7) {x0 x1 x2 x3 x4 x5 x6 x7 x8 x9 x10 x11 x12 x13 x14 x15 x16 x17 x18 : Option MV} :
    ∃ Z, q_law_9 (Pr.ctx (k + 10)) [x0, x1, x2, x3, some (.ref qr), x5, some (.ref q6), x7, some (.int cap), x9, x10, x11, x12, x13, x14, x15, x16, x17, x18] H = .nx [x0, x1, x2, x3, some (.ref qr), x5, some (.ref q6), x7, some (.int cap), x9, x10, x11, some (rowV (tot ps, cap, rs.all fun r => r.1.2.2)), x13, x14, x15, x16, x17, x18] (H ++ Z) := by
  obtain ⟨X, et⟩ := total_ok hTotal (k + 9) hq6 hps
  have et' : Pr.call (k + 10) "_law_total" [.ref q6] H = .ok (.tup ((tot ps).map pv)) (H ++ X) := et
  obtain ⟨Y, ec⟩ := eComp_new (own := [10, 11]) (g := gTup [gV 10, gV 11]) (t := tYes) (e := eB2 vIdxD (eV 10) (eC (.int 2))) (it := iVal (eV 4)) (c := Pr.ctx (k + 10)) (ρ := [x0, x1, x2, x3, some (.ref qr), x5, some (.ref q6), x7, some (.int cap), x9, x10, x11, x12, x13, x14, x15, x16, x17, x18])
    (A := H ++ X) (A1 := H ++ X) (w := ⟨rs.map rwV, fun A2 => A2[qr]? = some (.lst (rs.map rwV))⟩) (by simp [iVal, app_lst H X qr _ hqr]) (fun x => match x with
      | .tup [.tup [_, _, e], _] => some e
      | _ => none) (fun Y => by rw [List.append_assoc]; exact app_lst H _ qr _ hqr) (by simp; omega) (fun x hx Y => by
        obtain ⟨n, hn, rfl⟩ := List.mem_map.mp hx
        exact ⟨[], by simp [cTurn, wipeE, rwV, rowV]⟩)
  rw [show (⟨rs.map rwV, fun A2 => A2[qr]? = some (.lst (rs.map rwV))⟩ : Walk).items = rs.map rwV from rfl, fm_map rwV (fun r => .bl r.1.2.2) _ (fun p => rfl)] at ec
  have hb : bAll [.ref (H ++ X).length] (H ++ X ++ .lst (rs.map fun r => MV.bl r.1.2.2) :: Y) = some (.bl (rs.all fun r => r.1.2.2), H ++ X ++ .lst (rs.map fun r => MV.bl r.1.2.2) :: Y) := by
    rw [bAll_l (bs := rs.map fun r => r.1.2.2) (by simp), List.all_map]
    rfl
  refine ⟨X ++ .lst (rs.map fun r => MV.bl r.1.2.2) :: Y, ?_⟩
  simp only [q_law_9, sAsg_ap, kAsg_ap, eTup_ap, kTup_ap, aC_ap, kC_ap, kCr_ap, aN_ap, eCall_ap, kCall_ap, eBN_ap, kBN_ap, eV_ap, List.getElem?_cons_succ, List.getElem?_cons_zero, R.bind_ok, ctx_call, id, et', ec, hb, R.of_some]
  simp [rowV]
/-- the check of summed -/
theorem st10 (k : Nat) {H : Mh} {qr q7 : Nat} {rs : List (Row × Int)} (hqr : H[qr]? = some (.lst (rs.map rwV))) (hq7 : H[q7]? = some (.lst (rs.map rwV))) (hl : rs.length ≤ 7) (hr : ∀ r ∈ rs, RwOk r) {x0 x1 x2 x3 x4 x5 x6 x7 x8 x9 x10 x11 x12 x13 x14 x15 x16 x17 x18 : Option MV} :
    ∃ Z, q_law_10 (Pr.ctx (k + 10)) [x0, x1, x2, x3, some (.ref qr), x5, x6, some (.ref q7), x8, x9, x10, x11, some (rowV (tot (scls rs), bnd rs, rs.all fun r => r.1.2.2)), x13, x14, x15, x16, x17, x18] H = .nx [x0, x1, x2, x3, some (.ref qr), x5, x6, some (.ref q7), x8, x9, x10, x11, some (rowV (tot (scls rs), bnd rs, rs.all fun r => r.1.2.2)), x13, x14, x15, x16, x17, x18] (H ++ Z) := by
  obtain ⟨X, e1⟩ := summed_ok hSummed hRow (k + 8) hqr hl hr
  have e1' : Pr.call (k + 10) "summed" [.ref qr] H = .ok (rowV (tot (scls rs), bnd rs, rs.all fun r => r.1.2.2)) (H ++ X) := e1
  obtain ⟨Rw, hR⟩ : ∃ Rw : Row, (tot (scls rs), bnd rs, rs.all fun r => r.1.2.2) = Rw := ⟨_, rfl⟩
  have hRl : Rw.1.length < 50000 := by
    rw [← hR]
    show (tot (scls rs)).length < 50000
    have h1 := tot_len (scls rs)
    have h2 : (scls rs).length ≤ rs.length * 8 := scls_len rs 8 fun r h => (hr r h).len
    omega
  rw [hR] at e1' ⊢
  have i0 : ∀ (G : Mh) (q : Nat), G[q]? = some (.lst (rs.map rwV)) → (Tr.lst (rs.map trRw)).Is G (.ref q) := fun G q h => Tr.is_lst h (Tr.all_map rs fun r _ => trRw_is r)
  have i1 : (Tr.lst [trR Rw, .lst (rs.map trRw)]).Is (H ++ X ++ [.lst [rowV Rw, .ref qr]] ++ [.lst [rowV Rw, .ref q7]]) (.ref (H ++ X).length) := by
    refine Tr.is_lst (vs := [rowV Rw, .ref qr]) (by simp) (Tr.all_cons (trR_is _) (Tr.all_cons (i0 _ _ ?_) Tr.all_nil))
    simp only [List.append_assoc]
    exact app_lst H _ qr _ hqr
  have i2 : (Tr.lst [trR Rw, .lst (rs.map trRw)]).Is (H ++ X ++ [.lst [rowV Rw, .ref qr]] ++ [.lst [rowV Rw, .ref q7]]) (.ref (H ++ X ++ [MO.lst [rowV Rw, .ref qr]]).length) := by
    refine Tr.is_lst (vs := [rowV Rw, .ref q7]) (by simp) (Tr.all_cons (trR_is _) (Tr.all_cons (i0 _ _ ?_) Tr.all_nil))
    simp only [List.append_assoc]
    exact app_lst H _ q7 _ hq7
  obtain ⟨Y, e2⟩ := like hLike (k + 10) _ _ _ _ (by
    have a1 := trR_dep Rw
    have a2 := Tr.deps_map (f := trRw) (d := 5) rs fun r _ => trRw_dep r
    simp only [Tr.dep, Tr.deps] at a1 a2 ⊢
    omega) (by
    have a1 := trR_few Rw hRl
    have a2 : (Tr.lst (rs.map trRw)).Few := by
      unfold Tr.Few
      exact ⟨by simp; omega, Tr.fews_map rs fun r h => trRw_few r (Nat.lt_of_le_of_lt (hr r h).len (by decide))⟩
    unfold Tr.Few
    refine ⟨by simp, ?_⟩
    unfold Tr.Fews Tr.Fews Tr.Fews
    exact ⟨a1, a2, trivial⟩) i1 i2
  refine ⟨X ++ [.lst [rowV Rw, .ref qr]] ++ [.lst [rowV Rw, .ref q7]] ++ Y, ?_⟩
  simp only [q_law_10, sIf_ap, tNot_ap, kNot_ap, tVal_ap, kVal_ap, eCall_ap, kCall_ap, aC_ap, kC_ap, kCr_ap, aN_ap, eLst_ap, kLst_ap, eV_ap, List.getElem?_cons_succ, List.getElem?_cons_zero, R.bind_ok, ctx_call, id, e1', List.length_cons, List.length_nil, Nat.reduceAdd, Nat.reduceLeDiff, if_pos, e2]
  simp
end Law_k10

namespace Law_k10
open PySem MM
/-- divided and parted say the same -/
theorem st11i (k : Nat) {H : Mh} {Rw Rv : Row} {d : Int} (h1 : Rw.1.length < 100) (h2 : ∀ p ∈ Rw.1, p.2.natAbs < 2 ^ 200) (h3 : Rv.1.length < 100) (h4 : ∀ p ∈ Rv.1, p.2.natAbs < 2 ^ 200) (hd : d.natAbs.log2 < 9000) {x0 x1 x2 x3 x4 x5 x6 x7 x8 x9 x10 x11 x14 x16 x17 x18 : Option MV} :
    ∃ u Z, q_law_11b_2 (Pr.ctx (k + 10)) [x0, x1, x2, x3, x4, x5, x6, x7, x8, x9, x10, x11, some (rowV Rw), some (.int d), x14, some (rowV Rv), x16, x17, x18] H = .nx [x0, x1, x2, x3, x4, x5, x6, x7, x8, x9, u, x11, some (rowV Rw), some (.int d), x14, some (rowV Rv), x16, x17, x18] (H ++ Z) := by
  have two2 : ∀ r ∈ [Rw, Rv], r.1.length < 100 ∧ ∀ p ∈ r.1, p.2.natAbs < 2 ^ 200 := by
    intro r hr
    rcases List.mem_cons.mp hr with e | hr
    · rw [e]; exact ⟨h1, h2⟩
    · rcases List.mem_cons.mp hr with e | hr
      · rw [e]; exact ⟨h3, h4⟩
      · cases hr
  obtain ⟨ρ1, A1, e1, rest, Z, r1, r2, r3, u, r4⟩ := forL_nx (still := fun A2 => A2[H.length]? = some (.lst [rowV Rw, rowV Rv])) (turn := fTurn (gV 10) q_law_11b_2b (Pr.ctx (k + 10)))
    (fun xs ρ G => ∃ (rest : List Row) (Z : Mh), xs = rest.map rowV ∧ (∀ r ∈ rest, r.1.length < 100 ∧ ∀ p ∈ r.1, p.2.natAbs < 2 ^ 200) ∧ G = H ++ .lst [rowV Rw, rowV Rv] :: Z ∧ ∃ u, ρ = [x0, x1, x2, x3, x4, x5, x6, x7, x8, x9, u, x11, some (rowV Rw), some (.int d), x14, some (rowV Rv), x16, x17, x18])
    (fun xs ρ G ⟨rest, Z, _, _, e, _⟩ => by subst e; simp)
    (fun x xs ρ G ⟨rest, Z, e1, e2, e3, u, e4⟩ => by
      cases rest with
      | nil => cases e1
      | cons m rest =>
        rw [List.map_cons] at e1
        injection e1 with e5 e6
        subst e5 e6 e3 e4
        obtain ⟨m1, m2⟩ := e2 m (List.mem_cons_self ..)
        obtain ⟨qs, bd, eq⟩ := m
        have m1' : qs.length < 100 := m1
        have m2' : ∀ p ∈ qs, p.2.natAbs < 2 ^ 200 := m2
        obtain ⟨X, ex⟩ := divided_ok hDivided (k + 9) (A := H ++ .lst [rowV Rw, rowV Rv] :: Z) (qs := qs) (bd := bd) (d := d) (e := .bl eq) (by omega) hd
        obtain ⟨Y, ey⟩ := parted_ok hParted (k + 9) (A := H ++ .lst [rowV Rw, rowV Rv] :: Z ++ X) (qs := qs) (bd := bd) (d := d) (e := .bl eq) (by omega) hd m2'
        obtain ⟨W, ew⟩ := like hLike (k + 10) (trD qs bd d) (H ++ .lst [rowV Rw, rowV Rv] :: Z ++ X ++ Y) (dv qs bd d) (dv qs bd d) (Nat.le_trans (trD_dep ..) (by omega)) (trD_few _ _ _ (by omega)) (trD_is ..) (trD_is ..)
        have ex' : Pr.call (k + 10) "divided" [rowV (qs, bd, eq), .int d] (H ++ .lst [rowV Rw, rowV Rv] :: Z) = .ok (dv qs bd d) (H ++ .lst [rowV Rw, rowV Rv] :: Z ++ X) := ex
        have ey' : Pr.call (k + 10) "_law_parted" [rowV (qs, bd, eq), .int d] (H ++ .lst [rowV Rw, rowV Rv] :: Z ++ X) = .ok (dv qs bd d) (H ++ .lst [rowV Rw, rowV Rv] :: Z ++ X ++ Y) := ey
        refine ⟨[x0, x1, x2, x3, x4, x5, x6, x7, x8, x9, some (rowV (qs, bd, eq)), x11, some (rowV Rw), some (.int d), x14, some (rowV Rv), x16, x17, x18], H ++ .lst [rowV Rw, rowV Rv] :: (Z ++ X ++ Y ++ W), .inl ?_, rest, Z ++ X ++ Y ++ W, rfl, fun r hr => e2 r (List.mem_cons_of_mem _ hr), rfl, _, rfl⟩
        simp only [fTurn_ap, gV_ap, RS.bind_nx, q_law_11b_2b, q_law_11b_2b_0, sIf_ap, tNot_ap, kNot_ap, tVal_ap, kVal_ap, eCall_ap, kCall_ap, aC_ap, kC_ap, kCr_ap, aN_ap, eV_ap, List.set_cons_succ, List.set_cons_zero, List.getElem?_cons_succ, List.getElem?_cons_zero, R.bind_ok, ctx_call, id, ex', ey', ew]
        simp)
    [rowV Rw, rowV Rv] [x0, x1, x2, x3, x4, x5, x6, x7, x8, x9, x10, x11, some (rowV Rw), some (.int d), x14, some (rowV Rv), x16, x17, x18] (H ++ [.lst [rowV Rw, rowV Rv]]) ⟨[Rw, Rv], [], rfl, two2, rfl, _, rfl⟩
  have hr0 : rest = [] := by cases rest with
    | nil => rfl
    | cons a b => cases r1
  subst r3 r4
  refine ⟨u, .lst [rowV Rw, rowV Rv] :: Z, ?_⟩
  simp [q_law_11b_2, iVal, e1]
/-- the divisors -/
theorem st11 (k : Nat) {H : Mh} {b c n : Nat} {cells : List Int} {Rw : Row} (B : Bg H b c cells n) (hn : n + 10 < 2 ^ 60) (h1 : Rw.1.length < 100) (h2 : ∀ p ∈ Rw.1, p.2.natAbs ≤ 2 ^ 120) {x0 x2 x3 x4 x5 x6 x7 x8 x9 x10 x11 x13 x14 x15 x16 x17 x18 : Option MV} :
    ∃ u13 u14 u15 u10 G, q_law_11 (Pr.ctx (k + 10)) [x0, some (.ref b), x2, x3, x4, x5, x6, x7, x8, x9, x10, x11, some (rowV Rw), x13, x14, x15, x16, x17, x18] H = .nx [x0, some (.ref b), x2, x3, x4, x5, x6, x7, x8, x9, u10, x11, some (rowV Rw), u13, u14, u15, x16, x17, x18] G := by
  have l0 := B.lt
  obtain ⟨v, o, e1, v0, v1, B1⟩ := pull hPull (k + 9) B (sz := 8) (by decide) (by decide) (by omega)
  have e1' : Pr.call (k + 10) "_law_pull" [.ref b, .int 8] H = .ok (.int v) (H.set b o) := e1
  obtain ⟨H1, hH1⟩ : ∃ H1, H.set b o = H1 := ⟨_, rfl⟩
  rw [hH1] at e1' B1
  have l1 : H1.length = H.length := by rw [← hH1]; simp
  obtain ⟨ρ1, A1, ef, rest, i, r1, r2, r3, r4, r5, u10, u13, u14, u15, r6⟩ := forL_nx (still := fun A2 => A2[H1.length]? = some (.lst [.int (v - 1), .int 2, .int 3])) (turn := fTurn (gV 13) q_law_11b (Pr.ctx (k + 10)))
    (fun xs ρ G => ∃ (rest : List Int) (i : Nat), xs = rest.map .int ∧ (∀ d ∈ rest, -1 ≤ d ∧ d ≤ 8) ∧ rest.length + i = 3 ∧ Bg G b c cells (n + 1 + i) ∧ G[H1.length]? = some (.lst [.int (v - 1), .int 2, .int 3]) ∧ ∃ u10 u13 u14 u15, ρ = [x0, some (.ref b), x2, x3, x4, x5, x6, x7, x8, x9, u10, x11, some (rowV Rw), u13, u14, u15, x16, x17, x18])
    (fun xs ρ G ⟨rest, i, _, _, _, _, e, _⟩ => e)
    (fun x xs ρ G ⟨rest, i, e1, e2, e3, hB, hG, u10, u13, u14, u15, e4⟩ => by
      cases rest with
      | nil => cases e1
      | cons d rest =>
        rw [List.map_cons] at e1
        injection e1 with e5 e6
        subst e5 e6 e4
        obtain ⟨d0, d1⟩ := e2 d (List.mem_cons_self ..)
        have hdl : d.natAbs.log2 < 9000 := Nat.lt_trans (log2_lt (k := 199) (n := d.natAbs) (by omega)) (by decide)
        simp only [List.length_cons] at e3
        obtain ⟨w, o2, f1, w0, w1, B2⟩ := pull hPull (k + 9) hB (sz := 5) (by decide) (by decide) (by omega)
        have f1' : Pr.call (k + 10) "_law_pull" [.ref b, .int 5] G = .ok (.int w) (G.set b o2) := f1
        obtain ⟨G1, hG1⟩ : ∃ G1, G.set b o2 = G1 := ⟨_, rfl⟩
        have hGd : G1[H1.length]? = some (.lst [.int (v - 1), .int 2, .int 3]) := by rw [← hG1, List.getElem?_set_ne (by omega)]; exact hG
        rw [hG1] at f1' B2
        obtain ⟨m, hm⟩ : ∃ m : Int, 1 + w = m := ⟨_, rfl⟩
        have hm1 : m.natAbs < 2 ^ 200 := by omega
        have h2' : ∀ p ∈ Rw.1, p.2.natAbs < 2 ^ 200 := fun p hp => Nat.lt_of_le_of_lt (h2 p hp) (by decide)
        obtain ⟨qs, bd, eq⟩ := Rw
        obtain ⟨Y, ec⟩ := eComp_new (own := [17, 18]) (g := gTup [gV 17, gV 18]) (t := tYes) (e := eTup (aC (eV 17) (aC (eB2 vMul (eV 18) (eV 14)) (aN)))) (it := iVal (eB2 vIdxD (eV 12) (eC (.int 0)))) (c := Pr.ctx (k + 10)) (ρ := [x0, some (.ref b), x2, x3, x4, x5, x6, x7, x8, x9, u10, x11, some (rowV (qs, bd, eq)), some (.int d), some (.int m), u15, x16, x17, x18])
          (A := G1) (A1 := G1) (w := ⟨qs.map pv, fun _ => True⟩) (by simp [iVal, rowV]) (fun x => match x with
            | .tup [.str n, .int i] => some (pv (n, i * m))
            | _ => none) (fun _ => trivial) (by
              have : qs.length < 100 := h1
              simp; omega) (fun x hx Y => by
              obtain ⟨n, hn, rfl⟩ := List.mem_map.mp hx
              exact ⟨[], by simp [cTurn, wipeE, pv, vMul_i _ _ _ (mul_room (h2' n hn) hm1)]⟩)
        rw [show (⟨qs.map pv, fun _ => True⟩ : Walk).items = qs.map pv from rfl, fm_map pv (fun p => pv (p.1, p.2 * m)) _ (fun p => rfl)] at ec
        obtain ⟨Rv, hRv⟩ : ∃ Rv : Row, (scl m qs, bd, eq) = Rv := ⟨_, rfl⟩
        have hv1 : Rv.1.length < 100 := by rw [← hRv]; show (scl m qs).length < 100; unfold scl; rw [List.length_map]; exact h1
        have hv2 : ∀ p ∈ Rv.1, p.2.natAbs < 2 ^ 200 := by
          rw [← hRv]
          intro p hp
          obtain ⟨q, hq, rfl⟩ := List.mem_map.mp hp
          show (q.2 * m).natAbs < _
          rw [Int.natAbs_mul]
          have a1 := h2 q hq
          have a2 : m.natAbs ≤ 2 ^ 10 := by omega
          exact Nat.lt_of_le_of_lt (Nat.mul_le_mul a1 a2) (by decide)
        have hRvV : rowV Rv = .tup [.tup (qs.map fun p => pv (p.1, p.2 * m)), .int bd, .bl eq] := by
          rw [← hRv]
          simp [rowV, scl]
        obtain ⟨u, Z, ei⟩ := st11i k (H := G1 ++ .lst (qs.map fun p => pv (p.1, p.2 * m)) :: Y) (Rw := (qs, bd, eq)) (Rv := Rv) h1 h2' hv1 hv2 hdl (x0 := x0) (x1 := some (.ref b)) (x2 := x2) (x3 := x3) (x4 := x4) (x5 := x5) (x6 := x6) (x7 := x7) (x8 := x8) (x9 := x9) (x10 := u10) (x11 := x11) (x14 := some (.int m)) (x16 := x16) (x17 := x17) (x18 := x18)
        refine ⟨[x0, some (.ref b), x2, x3, x4, x5, x6, x7, x8, x9, u, x11, some (rowV (qs, bd, eq)), some (.int d), some (.int m), some (rowV Rv), x16, x17, x18], G1 ++ .lst (qs.map fun p => pv (p.1, p.2 * m)) :: Y ++ Z, .inl ?_, rest, i + 1, rfl, fun d hd => e2 d (List.mem_cons_of_mem _ hd), by omega, ?_, ?_, _, _, _, _, rfl⟩
        · have s0 : q_law_11b_0 (Pr.ctx (k + 10)) [x0, some (.ref b), x2, x3, x4, x5, x6, x7, x8, x9, u10, x11, some (rowV (qs, bd, eq)), some (.int d), u14, u15, x16, x17, x18] G = .nx [x0, some (.ref b), x2, x3, x4, x5, x6, x7, x8, x9, u10, x11, some (rowV (qs, bd, eq)), some (.int d), some (.int m), u15, x16, x17, x18] G1 := by
            simp [q_law_11b_0, f1', hm]
          have s1 : q_law_11b_1 (Pr.ctx (k + 10)) [x0, some (.ref b), x2, x3, x4, x5, x6, x7, x8, x9, u10, x11, some (rowV (qs, bd, eq)), some (.int d), some (.int m), u15, x16, x17, x18] G1 = .nx [x0, some (.ref b), x2, x3, x4, x5, x6, x7, x8, x9, u10, x11, some (rowV (qs, bd, eq)), some (.int d), some (.int m), some (rowV Rv), x16, x17, x18] (G1 ++ .lst (qs.map fun p => pv (p.1, p.2 * m)) :: Y) := by
            rw [hRvV]
            have ec' := ec
            simp [rowV] at ec'
            simp [q_law_11b_1, ec', rowV]
          simp only [fTurn_ap, gV_ap, RS.bind_nx, List.set_cons_succ, List.set_cons_zero, q_law_11b, sSeq_ap, s0, s1, ei]
        · exact (B2.app _).app _
        · rw [List.append_assoc]; exact app_lst G1 _ _ _ hGd)
    [.int (v - 1), .int 2, .int 3] [x0, some (.ref b), x2, x3, x4, x5, x6, x7, x8, x9, x10, x11, some (rowV Rw), x13, x14, x15, x16, x17, x18] (H1 ++ [.lst [.int (v - 1), .int 2, .int 3]]) ⟨[v - 1, 2, 3], 0, rfl, by
      intro d hd
      simp at hd
      omega, rfl, B1.app _, by simp, _, _, _, _, rfl⟩
  subst r6
  exact ⟨u13, u14, u15, u10, A1, by simp [q_law_11, iVal, e1', ef]⟩
end Law_k10

namespace Law_k10
open PySem MM
theorem env19 : ∀ {ρ : MM.Env}, ρ.length = 19 → ∃ x0 x1 x2 x3 x4 x5 x6 x7 x8 x9 x10 x11 x12 x13 x14 x15 x16 x17 x18, ρ = [x0, x1, x2, x3, x4, x5, x6, x7, x8, x9, x10, x11, x12, x13, x14, x15, x16, x17, x18]
  | [x0, x1, x2, x3, x4, x5, x6, x7, x8, x9, x10, x11, x12, x13, x14, x15, x16, x17, x18], _ => ⟨x0, x1, x2, x3, x4, x5, x6, x7, x8, x9, x10, x11, x12, x13, x14, x15, x16, x17, x18, rfl⟩
def mix : List Pair := [("b", 1), ("ab", 1), ("a1", 1), ("a", 1)]
def mixed : List Pair := [("a", 1), ("a1", 1), ("ab", 1), ("b", 1)]
theorem mix_tot : tot mix = mixed := by
  have e : (["a", "a1", "ab", "b"] : List Str) = sortS (keys mix) := sorted_uniq (by decide) (by decide)
  unfold tot
  rw [← e]
  decide
theorem mix_pv : mix.map pv = [.tup [.str "b", .int 1], .tup [.str "ab", .int 1], .tup [.str "a1", .int 1], .tup [.str "a", .int 1]] := rfl
theorem st1213 (k : Nat) {H : Mh} {x0 x1 x2 x3 x4 x5 x6 x7 x8 x9 x10 x11 x12 x13 x14 x15 x16 x17 x18 : Option MV} : ∃ G ρ, ((sSeq q_law_12 q_law_13) (Pr.ctx (k + 10)) [x0, x1, x2, x3, x4, x5, x6, x7, x8, x9, x10, x11, x12, x13, x14, x15, x16, x17, x18] H) = .rt (.bl true) G ∧ ρ = 0 := by
  obtain ⟨X, e1⟩ := row_ok hRow (k + 9) (A := H ++ [.lst (mix.map pv)]) (p := H.length) (ps := mix) (bd := .int 0) (eq := .bl false) (List.getElem?_concat_length) (by decide)
  obtain ⟨Y, e2⟩ := like hLike (k + 10) (trR (mixed, 0, false)) (H ++ [.lst (mix.map pv)] ++ X) (rowV (mixed, 0, false)) (rowV (mixed, 0, false)) (Nat.le_trans (trR_dep _) (by omega)) (trR_few _ (by decide)) (trR_is _) (trR_is _)
  rw [mix_tot] at e1
  refine ⟨H ++ [.lst (mix.map pv)] ++ X ++ Y, 0, ?_, rfl⟩
  simp [mix_pv, mixed, pv, rowV] at e1 e2
  simp [q_law_12, q_law_13, pick, mix_pv, e1, e2]
/-- the first loop -/
theorem st4 (k : Nat) {H : Mh} {ρ : MM.Env} {b c n qn qr : Nat} {cells : List Int} {ss : List Str} {g : Int} (B : Bg H b c cells n) (hn : n + 1000 < 2 ^ 60) (hqn : H[qn]? = some (.lst (ss.map .str))) (nb : qn ≠ b) (hss : ss.length = 4) (g0 : 0 < g) (g1 : g ≤ 10 ^ 21)
    (hqr : H[qr]? = some (.lst [])) (rb : qr ≠ b) (rc : qr ≠ c) (rn : qr ≠ qn) (hl : ρ.length = 19) (h1 : ρ[1]? = some (some (.ref b))) (h2 : ρ[2]? = some (some (.ref qn))) (h3 : ρ[3]? = some (some (.int g))) (h4 : ρ[4]? = some (some (.ref qr))) :
    ∃ (ρ' : MM.Env) (H' : Mh) (rs : List (Row × Int)), q_law_4 (Pr.ctx (k + 10)) ρ H = .nx ρ' H' ∧ Bg H' b c cells (n + 500) ∧ H'[qr]? = some (.lst (rs.map rwV)) ∧ (∀ r ∈ rs, RwB r) ∧ rs.length ≤ 4 ∧ ρ'.length = 19 ∧ ρ'[1]? = some (some (.ref b)) ∧ ρ'[4]? = some (some (.ref qr)) := by
  obtain ⟨v, o, e1, v0, v1, B1⟩ := pull hPull (k + 9) B (sz := 5) (by decide) (by decide) (by omega)
  obtain ⟨m, rfl⟩ := Int.eq_ofNat_of_zero_le v0
  have e1' : Pr.call (k + 10) "_law_pull" [.ref b, .int 5] H = .ok (.int (m : Int)) (H.set b o) := e1
  obtain ⟨H1, hH1⟩ : ∃ H1, H.set b o = H1 := ⟨_, rfl⟩
  have hqn1 : H1[qn]? = some (.lst (ss.map .str)) := by rw [← hH1, List.getElem?_set_ne (Ne.symm nb)]; exact hqn
  have hqr1 : H1[qr]? = some (.lst []) := by rw [← hH1, List.getElem?_set_ne (Ne.symm rb)]; exact hqr
  rw [hH1] at e1' B1
  obtain ⟨ρ1, A1, ef, rest, rs, r1, r2, r3, r4, r5, r6, r7, r8, r9, r10, r11⟩ := forL_nx (still := fun _ => True) (turn := fTurn (gV 5) q_law_4b (Pr.ctx (k + 10)))
    (fun xs ρ G => ∃ (rest : List Nat) (rs : List (Row × Int)), xs = rest.map (fun k : Nat => MV.int (0 + (k : Int))) ∧ rest.length + rs.length = m ∧ Bg G b c cells (n + 1 + 40 * rs.length) ∧ G[qn]? = some (.lst (ss.map .str)) ∧ G[qr]? = some (.lst (rs.map rwV)) ∧ (∀ r ∈ rs, RwB r) ∧ ρ.length = 19 ∧ ρ[1]? = some (some (.ref b)) ∧ ρ[2]? = some (some (.ref qn)) ∧ ρ[3]? = some (some (.int g)) ∧ ρ[4]? = some (some (.ref qr)))
    (fun _ _ _ _ => trivial)
    (fun x xs ρ G ⟨rest, rs, e1, e2, hB, hq, hr, hrs, hl, a1, a2, a3, a4⟩ => by
      cases rest with
      | nil => cases e1
      | cons i rest =>
        rw [List.map_cons] at e1
        injection e1 with e5 e6
        subst e5 e6
        simp only [List.length_cons] at e2
        obtain ⟨ρ', H', r, f0, f1, f2, f3, f4, f5, f6, f7, f8, f9, _⟩ := turn4 k (x := .int (0 + (i : Int))) hB (by omega) hq nb hss g0 g1 hr rb rc rn (by omega) hl a1 a2 a3 a4
        refine ⟨ρ', H', .inl f0, rest, rs ++ [r], rfl, by simp; omega, f1.mono (by simp; omega), f2, f3, ?_, f5, f6, f7, f8, f9⟩
        intro r' hr'
        rcases List.mem_append.mp hr' with h | h
        · exact hrs r' h
        · have : r' = r := by simpa using h
          subst this
          exact f4)
    (intsV 0 m) ρ H1 ⟨List.range m, [], rfl, by simp, B1, hqn1, hqr1, by simp, hl, h1, h2, h3, h4⟩
  have hm : rs.length ≤ 4 := by omega
  refine ⟨ρ1, A1, rs, ?_, r3.mono (by omega), r5, r6, hm, r7, r8, r11⟩
  have hir : iRange1 (aC (eCall "_law_pull" (aC (eV 1) (aC (eC (.int 5)) (aN))) id) (aN)) (Pr.ctx (k + 10)) ρ H = .ok ⟨intsV 0 m, fun _ => True⟩ H1 :=
    iRange1_ok (j := (m : Int)) (by simp [h1, e1']) (by omega) (by omega)
  simp [q_law_4, hir, ef]
theorem seq_nx {a b : MS} {c : MM.Ctx} {ρ ρ1 : MM.Env} {A A1 : Mh} (h : a c ρ A = .nx ρ1 A1) : sSeq a b c ρ A = b c ρ1 A1 := by rw [sSeq_ap, h, RS.bind_nx]
theorem get_at (A X : Mh) (o : MO) : (A ++ (o :: X))[A.length]? = some o := by simp
theorem get_at2 (A X Y : Mh) (o : MO) : (A ++ [o] ++ X ++ Y)[A.length]? = some o := by simp
theorem scls_bound : ∀ rs : List (Row × Int), (∀ r ∈ rs, RwB r) → ∀ p ∈ scls rs, p.2.natAbs ≤ 2 ^ 100
  | [], _, p, h => by cases h
  | r :: rs, h, p, hp => by
    unfold scls at hp
    rcases List.mem_append.mp hp with hp | hp
    · obtain ⟨q, hq, rfl⟩ := List.mem_map.mp hp
      have hb := h r (List.mem_cons_self ..)
      show (q.2 * r.2).natAbs ≤ _
      rw [Int.natAbs_mul]
      exact Nat.le_trans (Nat.mul_le_mul (hb.prs q hq) hb.wgt) (by decide)
    · exact scls_bound rs (fun r hr => h r (List.mem_cons_of_mem _ hr)) p hp
end Law_k10

namespace Law_k10
open PySem MM
theorem plain (ns : List Int) (hl : ns.length ≤ 63) : ∃ A, Pr.call 60 "law" [.scr (ns.map .int)] [] = .ok (.bl true) A := by
  rw [call_run pr_law 59 _ _ rfl]
  show ∃ A, (m_law (Pr.ctx (49 + 10)) [some (.scr (ns.map .int)), none, none, none, none, none, none, none, none, none, none, none, none, none, none, none, none, none, none] []).fin = _
  rw [q_law_eq]
  have B0 := bag_Bg ns hl
  have e0 := bag hBag ns hl 58
  obtain ⟨A0, hA0⟩ : ∃ A0 : Mh, [.lst (ns.map .int), .lst (ns.map .int), .lst [.ref 1, .int 0, .int 0, .int 313]] = A0 := ⟨_, rfl⟩
  rw [hA0] at B0 e0
  have l0 : A0.length = 3 := by rw [← hA0]; rfl
  obtain ⟨qn, A1, tl, st, e1, ev1, B1, hq1, _, _, hn1⟩ := names_ok hNames hPull 57 B0 (by decide) (m := 4) (by decide)
  obtain ⟨z, o2, e2, z0, z1, B2⟩ := pull hPull 58 (B1.app [.lst [.int 3, .int 19, .int (10 ^ 21)]]) (sz := 3) (by decide) (by decide) (by decide)
  obtain ⟨j, hj, rfl, ej⟩ := atI_get (xs := [(3 : Int), 19, 10 ^ 21].map MV.int) z0 (by simpa using z1)
  have hj3 : j < [(3 : Int), 19, 10 ^ 21].length := by simpa using hj
  have hg : 0 < ([(3 : Int), 19, 10 ^ 21][j]'hj3) ∧ ([(3 : Int), 19, 10 ^ 21][j]'hj3) ≤ 10 ^ 21 := by
    have h : ∀ w ∈ [(3 : Int), 19, 10 ^ 21], 0 < w ∧ w ≤ 10 ^ 21 := by decide
    exact h _ (List.getElem_mem _)
  rw [List.getElem_map] at ej
  generalize ([(3 : Int), 19, 10 ^ 21][j]'hj3) = g at *
  have l1 := ev1.len
  have hn1l := lt_len hn1
  obtain ⟨A2, hA2⟩ : ∃ A2, (A1 ++ [MO.lst [.int 3, .int 19, .int (10 ^ 21)]]).set 2 o2 = A2 := ⟨_, rfl⟩
  have hgr : A2[A1.length]? = some (.lst ([(3 : Int), 19, 10 ^ 21].map MV.int)) := by
    rw [← hA2, List.getElem?_set_ne (by omega)]; simp
  have hn2 : A2[qn]? = some (.lst (((List.range 4).map fun i => nmAt tl st i).map .str)) := by
    rw [← hA2, List.getElem?_set_ne (by omega), List.getElem?_append_left (by omega), hn1]; simp
  have l2 : A2.length = A1.length + 1 := by rw [← hA2]; simp
  rw [hA2] at e2 B2
  obtain ⟨ρ4, A4, rs, e4, B4, hqr, hrs, hrl, r1, r2, r3⟩ := st4 49 (ρ := [some (.scr (ns.map .int)), some (.ref 2), some (.ref qn), some (.int g), some (.ref A2.length), none, none, none, none, none, none, none, none, none, none, none, none, none, none]) (B2.app [.lst []]) (by decide) (qn := qn) (qr := A2.length) (app_lst A2 _ _ _ hn2) (by omega) (by simp) hg.1 hg.2 (by simp) (by omega) (by omega) (by omega) rfl rfl rfl rfl rfl
  obtain ⟨x0, x1, x2, x3, x4, x5, x6, x7, x8, x9, x10, x11, x12, x13, x14, x15, x16, x17, x18, rfl⟩ := env19 r1
  simp at r2 r3
  subst r2 r3
  have hok : ∀ r ∈ rs, RwOk r := fun r h => (hrs r h).ok
  obtain ⟨u, v, Z6, e6⟩ := st6 49 hqr (by omega) hok (x0 := x0) (x1 := some (.ref 2)) (x2 := x2) (x3 := x3) (x4 := none) (x5 := x5) (x6 := none) (x7 := x7) (x8 := x8) (x9 := x9) (x10 := x10) (x11 := x11) (x12 := x12) (x13 := x13) (x14 := x14) (x15 := x15) (x16 := x16) (x17 := x17) (x18 := x18)
  have g7 : ∀ X : Mh, (A4 ++ X)[A2.length]? = some (.lst (rs.map rwV)) := fun X => app_lst A4 X _ _ hqr
  have hsl : (scls rs).length ≤ rs.length * 6 := scls_len rs 6 fun r h => (hrs r h).len
  obtain ⟨Z8, e8⟩ := st8 49 (H := A4 ++ .lst ((scls rs).map pv) :: Z6 ++ [.lst (rs.map rwV)]) (qr := A2.length) (rs := rs) (by rw [List.append_assoc]; exact g7 _) (by omega) hok (x0 := x0) (x1 := some (.ref 2)) (x2 := x2) (x3 := x3) (x4 := none) (x5 := x5) (x6 := some (.ref A4.length)) (x7 := some (.ref (A4 ++ MO.lst ((scls rs).map pv) :: Z6).length)) (x8 := x8) (x9 := x9) (x10 := u) (x11 := v) (x12 := x12) (x13 := x13) (x14 := x14) (x15 := x15) (x16 := x16) (x17 := x17) (x18 := x18)
  obtain ⟨Z9, e9⟩ := st9 49 (H := A4 ++ .lst ((scls rs).map pv) :: Z6 ++ [.lst (rs.map rwV)] ++ Z8) (qr := A2.length) (q6 := A4.length) (rs := rs) (ps := scls rs) (cap := bnd rs) (by simp only [List.append_assoc]; exact g7 _) (by simp) (by omega) (by omega) (x0 := x0) (x1 := some (.ref 2)) (x2 := x2) (x3 := x3) (x4 := none) (x5 := x5) (x6 := none) (x7 := some (.ref (A4 ++ MO.lst ((scls rs).map pv) :: Z6).length)) (x8 := none) (x9 := x9) (x10 := u) (x11 := v) (x12 := x12) (x13 := x13) (x14 := x14) (x15 := x15) (x16 := x16) (x17 := x17) (x18 := x18)
  obtain ⟨Z10, e10⟩ := st10 49 (H := A4 ++ .lst ((scls rs).map pv) :: Z6 ++ [.lst (rs.map rwV)] ++ Z8 ++ Z9) (qr := A2.length) (q7 := (A4 ++ MO.lst ((scls rs).map pv) :: Z6).length) (rs := rs) (by simp only [List.append_assoc]; exact g7 _) (get_at2 _ _ _ _) (by omega) hok (x0 := x0) (x1 := some (.ref 2)) (x2 := x2) (x3 := x3) (x4 := none) (x5 := x5) (x6 := some (.ref A4.length)) (x7 := none) (x8 := some (.int (bnd rs))) (x9 := x9) (x10 := u) (x11 := v) (x12 := none) (x13 := x13) (x14 := x14) (x15 := x15) (x16 := x16) (x17 := x17) (x18 := x18)
  obtain ⟨A10, hA10⟩ : ∃ A10, A4 ++ .lst ((scls rs).map pv) :: Z6 ++ [.lst (rs.map rwV)] ++ Z8 ++ Z9 ++ Z10 = A10 := ⟨_, rfl⟩
  have B10 : Bg A10 2 1 ns (0 + 2 + 1 + 500) := by rw [← hA10]; exact ((((B4.app _).app _).app _).app _).app _
  obtain ⟨Rw, hRw⟩ : ∃ Rw : Row, (tot (scls rs), bnd rs, rs.all fun r => r.1.2.2) = Rw := ⟨_, rfl⟩
  have hR1 : Rw.1.length < 100 := by
    rw [← hRw]
    show (tot (scls rs)).length < 100
    have := tot_len (scls rs)
    omega
  have hR2 : ∀ p ∈ Rw.1, p.2.natAbs ≤ 2 ^ 120 := by
    rw [← hRw]
    intro p hp
    have h1 := tot_bound (M := 2 ^ 100) (scls rs) (scls_bound rs hrs) p hp
    have h2 : (scls rs).length * 2 ^ 100 ≤ 30 * 2 ^ 100 := Nat.mul_le_mul_right _ (by omega)
    omega
  obtain ⟨u13, u14, u15, u10, G, e11⟩ := st11 49 B10 (by decide) hR1 hR2 (x0 := x0) (x2 := x2) (x3 := x3) (x4 := some (.ref A2.length)) (x5 := x5) (x6 := some (.ref A4.length)) (x7 := some (.ref (A4 ++ MO.lst ((scls rs).map pv) :: Z6).length)) (x8 := some (.int (bnd rs))) (x9 := x9) (x10 := u) (x11 := v) (x13 := x13) (x14 := x14) (x15 := x15) (x16 := x16) (x17 := x17) (x18 := x18)
  obtain ⟨F, _, e12, _⟩ := st1213 49 (H := G) (x0 := x0) (x1 := some (.ref 2)) (x2 := x2) (x3 := x3) (x4 := some (.ref A2.length)) (x5 := x5) (x6 := some (.ref A4.length)) (x7 := some (.ref (A4 ++ MO.lst ((scls rs).map pv) :: Z6).length)) (x8 := some (.int (bnd rs))) (x9 := x9) (x10 := u10) (x11 := v) (x12 := some (rowV Rw)) (x13 := u13) (x14 := u14) (x15 := u15) (x16 := x16) (x17 := x17) (x18 := x18)
  have f0 : Pr.call 59 "_law_bag" [.scr (ns.map .int)] [] = .ok (.ref 2) A0 := e0
  have f1 : Pr.call 59 "_law_names" [.ref 2, .int 4] A0 = .ok (.ref qn) A1 := e1
  have f2 : Pr.call 59 "_law_pull" [.ref 2, .int 3] (A1 ++ [MO.lst [.int 3, .int 19, .int (10 ^ 21)]]) = .ok (.int (j : Int)) A2 := e2
  have s0 : q_law_0 (Pr.ctx (49 + 10)) [some (.scr (ns.map .int)), none, none, none, none, none, none, none, none, none, none, none, none, none, none, none, none, none, none] [] = .nx [some (.scr (ns.map .int)), some (.ref 2), none, none, none, none, none, none, none, none, none, none, none, none, none, none, none, none, none] A0 := by simp [q_law_0, f0]
  have s1 : q_law_1 (Pr.ctx (49 + 10)) [some (.scr (ns.map .int)), some (.ref 2), none, none, none, none, none, none, none, none, none, none, none, none, none, none, none, none, none] A0 = .nx [some (.scr (ns.map .int)), some (.ref 2), some (.ref qn), none, none, none, none, none, none, none, none, none, none, none, none, none, none, none, none] A1 := by simp [q_law_1, f1]
  have s2 : q_law_2 (Pr.ctx (49 + 10)) [some (.scr (ns.map .int)), some (.ref 2), some (.ref qn), none, none, none, none, none, none, none, none, none, none, none, none, none, none, none, none] A1 = .nx [some (.scr (ns.map .int)), some (.ref 2), some (.ref qn), some (.int g), none, none, none, none, none, none, none, none, none, none, none, none, none, none, none] A2 := by
    have h21 : (10 : Int) ^ (21 : Int).toNat = 10 ^ 21 := by decide
    simp only [q_law_2, sAsg_ap, kAsg_ap, eB2_ap, kB2_ap, kB2r_ap, eLst_ap, kLst_ap, aC_ap, kC_ap, kCr_ap, aN_ap, eC_ap, vPow_i _ 10 21 (by omega), R.of_some, R.bind_ok, List.length_cons, List.length_nil, Nat.reduceAdd, Nat.reduceLeDiff, if_pos, eCall_ap, kCall_ap, eV_ap, List.getElem?_cons_succ, List.getElem?_cons_zero, ctx_call, id, h21]
    rw [f2]
    simp only [R.bind_ok, kB2r_ap, kAsg_ap, vIdxD_r, hgr, ej, Option.map_some, R.of_some, R.bindS_ok, gV_ap, List.set_cons_succ, List.set_cons_zero]
  have s3 : q_law_3 (Pr.ctx (49 + 10)) [some (.scr (ns.map .int)), some (.ref 2), some (.ref qn), some (.int g), none, none, none, none, none, none, none, none, none, none, none, none, none, none, none] A2 = .nx [some (.scr (ns.map .int)), some (.ref 2), some (.ref qn), some (.int g), some (.ref A2.length), none, none, none, none, none, none, none, none, none, none, none, none, none, none] (A2 ++ [.lst []]) := by simp [q_law_3]
  have s5 : q_law_5 (Pr.ctx (49 + 10)) [x0, some (.ref 2), x2, x3, some (.ref A2.length), x5, x6, x7, x8, x9, x10, x11, x12, x13, x14, x15, x16, x17, x18] A4 = .nx [x0, some (.ref 2), x2, x3, some (.ref A2.length), x5, some (.ref A4.length), x7, x8, x9, x10, x11, x12, x13, x14, x15, x16, x17, x18] (A4 ++ [.lst []]) := by simp [q_law_5]
  have s7 : q_law_7 (Pr.ctx (49 + 10)) [x0, some (.ref 2), x2, x3, some (.ref A2.length), x5, some (.ref A4.length), x7, x8, x9, u, v, x12, x13, x14, x15, x16, x17, x18] (A4 ++ .lst ((scls rs).map pv) :: Z6) = .nx [x0, some (.ref 2), x2, x3, some (.ref A2.length), x5, some (.ref A4.length), some (.ref (A4 ++ MO.lst ((scls rs).map pv) :: Z6).length), x8, x9, u, v, x12, x13, x14, x15, x16, x17, x18] (A4 ++ .lst ((scls rs).map pv) :: Z6 ++ [.lst (rs.map rwV)]) := by
    have hrl : rs.length ≤ 1000000 := by omega
    simp only [q_law_7, sAsg_ap, kAsg_ap, eBN_ap, kBN_ap, aC_ap, kC_ap, kCr_ap, aN_ap, eV_ap, List.getElem?_cons_succ, List.getElem?_cons_zero, R.bind_ok, bList_r, g7, newL, List.length_map, if_pos hrl, R.of_some, R.bindS_ok, gV_ap, List.set_cons_succ, List.set_cons_zero]
  rw [hRw] at e10
  rw [hRw] at e9
  rw [hA10] at e10
  have fin : q_law (Pr.ctx (49 + 10)) [some (.scr (ns.map .int)), none, none, none, none, none, none, none, none, none, none, none, none, none, none, none, none, none, none] [] = .rt (.bl true) F := by
    unfold q_law
    exact (seq_nx s0).trans <| (seq_nx s1).trans <| (seq_nx s2).trans <| (seq_nx s3).trans <| (seq_nx e4).trans <| (seq_nx s5).trans <| (seq_nx e6).trans <| (seq_nx s7).trans <| (seq_nx e8).trans <| (seq_nx e9).trans <| (seq_nx e10).trans <| (seq_nx e11).trans e12
  exact ⟨F, by rw [fin]; rfl⟩
end Law_k10

theorem PySem.Challenge.cw_webassize_k10_rows_added_and_divided_holds : PySem.Challenge.rw_webassize_k10_rows_added_and_divided.Holds := by
  exact Law_k10.close fun ns hl hb => Law_k10.plain ns hl
